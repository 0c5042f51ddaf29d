import PyProof.Rows.All
import Wide.All
import OpenK.AllK
import Wide.FinOn
import Lean
import PySem.Challenge.RW_np0130_01
open PySem PySem.W PyProof.Rows
set_option Elab.async false
set_option maxRecDepth 100000
set_option maxHeartbeats 16000000
set_option compiler.extract_closed false
set_option linter.all false
namespace Mine
section
/-- the text's top without its names of modules and without the def that is loose -/
def viewP : Program := { PySem.Challenge.pw_np0130_01 with main := { PySem.Challenge.pw_np0130_01.main with body := [1, 4, 5, 6, 7, 8, 9, 10, 11, 12, 13, 14, 15, 17, 18, 19, 20, 21, 22, 23, 24, 25, 26, 27, 28, 29, 30].filterMap fun i => PySem.Challenge.pw_np0130_01.main.body[i]? } }
theorem left_boot {p q : Program} {loose : List Str} {Xt : Shared → Bool} {α : Type} {Yf : Shared → α} {Ya : World → α} {N : Nat} (e : opening p = plainProg p.main.scope.names) (hN : Nat.ble 600 N = true) (f : ∀ s, fenceModules? p s = some s)
    (h : ∀ (w : World) (os : OsState), (topFrom treeTable p w N ⟨boot_heap w.params, Array.mk [], boot_drawn, boot_toks, os⟩).map (fun s => openSeen q loose (importedModules p.main.body) Xt true s) = some (openGood q loose))
    (h2 : ∀ (w : World) (os : OsState), (topFrom treeTable p w N ⟨boot_heap w.params, Array.mk [], boot_drawn, boot_toks, os⟩).map Yf = some (Ya w)) : LeftO p q loose Xt Yf Ya N true := fun w => by
  obtain ⟨⟨h', gs, d, k, os⟩, e1, e'⟩ := Option.map_eq_some_iff.mp (boot_open e hN f w)
  obtain ⟨rfl, rfl, rfl, rfl⟩ : h' = boot_heap w.params ∧ gs = Array.mk [] ∧ d = boot_drawn ∧ k = boot_toks := by simpa using e'
  obtain ⟨s, a, b⟩ := Option.map_eq_some_iff.mp (h w os)
  obtain ⟨s', a', b'⟩ := Option.map_eq_some_iff.mp (h2 w os)
  rw [a] at a'
  cases a'
  unfold openEnds
  rw [e1]
  show (topFrom treeTable p w N _).map _ = _
  rw [a]
  show some (_, _) = _
  rw [b, b']
theorem said0 : PySem.Challenge.rw_np0130_01.wellSaid = true := by kernel_rfl
theorem seen0 : ∀ (w : World) (os : OsState), (topFrom treeTable PySem.Challenge.rw_np0130_01.row.prog w 2368 ⟨boot_heap w.params, Array.mk [], boot_drawn, boot_toks, os⟩).map (fun s => openSeen viewP [Str.ofString "Raised", Str.ofString "error"] (importedModules PySem.Challenge.rw_np0130_01.row.prog.main.body) (fun s => xlAt viewP [] s && recOk (RowW.records (PySem.Challenge.rw_np0130_01.row.toRowW)) s) true s) = some (openGood viewP [Str.ofString "Raised", Str.ofString "error"]) := by intro w os; kernel_rfl
local macro_rules | `(tactic| o_law) => `(tactic| refine holds_law said0 fun said => ?_)
set_option hygiene false in
local macro_rules | `(tactic| o_head $H:term) => `(tactic| (refine holds_open (q := viewP) (loose := [Str.ofString "Raised", Str.ofString "error"]) (Xt := fun s => xlAt viewP [] s && recOk (RowW.records (PySem.Challenge.rw_np0130_01.row.toRowW)) s) (XP := XL viewP []) (Yf := Hook.obs $H) (Ya := Hook.val $H) (YP := Hook.says $H) (N := 2368) ?hl (Hook.of $H) (Hook.keeps $H) (fun s e => xl_of s (Bool.and_eq_true_iff.mp e).1) XL.keeps (by rfl) (by rfl) (by rfl) (fun s e => recFacts_of (Bool.and_eq_true_iff.mp e).2) (by rfl) (by first | assumption | decide +kernel) (by decide +kernel) ⟨rfl, rfl, rfl, rfl, rfl, by decide +kernel⟩ ?hw ?hc; (case hl => exact left_boot (by kernel_rfl) (by decide) (by intro _; kernel_rfl) seen0 (by intro w os; kernel_rfl))))
open_top hd for PySem.Challenge.rw_np0130_01
end
open PySem.Spec PySem.Calls
section
noncomputable abbrev lse : List Str := looseW viewP [Str.ofString "Raised", Str.ofString "error"]

/-- a call of the def at f with vs comes back with a value of Out, whatever stands around; n: the frames it may want -/
def Meets (w : World) (n : Nat) (f : Addr) (vs : List Value) (Out : Value → Prop) : Prop :=
  ∀ (prog : Program) (mean : ExcName → Option Value) (mg mb : Str → Option Value) (dp un : Nat) (gd : Option (List Code)) (cn : Str) (cs : Scope) (a : Addr) (ccd : Value) (cl : List (Str × Addr)) (outer : List Env) (A₀ : Around) (base h₀ : Heap) (L : Addr) (m : Str → Option Value)
    (news : List (Addr × Obj)) (s : Shared) (Q E : Value → Shared → Prop),
    Below A₀ base outer h₀ → Fr h₀ L s.heap m → (hd.heap_1 w.params).In h₀ → News h₀ L s.heap news → Top viewP lse mean mg mb h₀ → cs.kind = .function → dp + n < recursionLimit → un + 40 * n < cLine →
    (∀ (r : Value) (h' : Heap) (tk' : Nat), Fr h₀ L h' m → News h₀ L h' news → Out r → Q r { s with heap := h', toks := tk' }) →
    wpAny (model prog w) (ktrTop dp un gd cn cs L a ccd cl outer) (call (.ref f) vs) Q E s

theorem Meets.use {w : World} {n : Nat} {f : Addr} {vs : List Value} {Out : Value → Prop} (C : Meets w n f vs Out) {prog : Program} {mean : ExcName → Option Value} {mg mb : Str → Option Value} {dp un : Nat} {gd : Option (List Code)} {cn : Str} {cs : Scope} {a : Addr} {ccd : Value} {cl : List (Str × Addr)} {outer : List Env} {A₀ : Around} {base h₀ : Heap} {L : Addr} {m : Str → Option Value}
    {news : List (Addr × Obj)} {s : Shared} {Q E : Value → Shared → Prop}
    (B : Below A₀ base outer h₀) (F : Fr h₀ L s.heap m) (X : (hd.heap_1 w.params).In h₀) (N : News h₀ L s.heap news) (T : Top viewP lse mean mg mb h₀) (hk : cs.kind = .function) (hdp : dp + n < recursionLimit) (hun : un + 40 * n < cLine)
    (ret : ∀ (r : Value) (h' : Heap) (tk' : Nat), Fr h₀ L h' m → News h₀ L h' news → Out r → Q r { s with heap := h', toks := tk' }) :
    wpAny (model prog w) (ktrTop dp un gd cn cs L a ccd cl outer) (call (.ref f) vs) Q E s := C _ _ _ _ _ _ _ _ _ _ _ _ _ _ _ _ _ _ _ _ _ _ B F X N T hk hdp hun ret

inductive OptIs : Option Int → Value → Prop
  | none : OptIs none .none
  | some (v : Int) (t : Tok) : OptIs (some v) (.int v t)
inductive IntIs (v : Int) : Value → Prop
  | mk (t : Tok) : IntIs v (.int v t)
inductive BoolIs (b : Bool) : Value → Prop
  | mk : BoolIs b (.bool b)
inductive StrIs (P : Str → Prop) : Value → Prop
  | mk (x : Str) (t : Tok) : P x → StrIs P (.str x t)
theorem IntIs.of {v u : Int} {t : Tok} (e : u = v) : IntIs v (.int u t) := e ▸ .mk t
theorem BoolIs.of {v u : Bool} (e : u = v) : BoolIs v (.bool u) := e ▸ .mk
theorem OptIs.ofS {o : Option Int} {u : Int} {t : Tok} (e : o = Option.some u) : OptIs o (.int u t) := e ▸ .some u t
theorem OptIs.ofN {o : Option Int} (e : o = Option.none) : OptIs o .none := e ▸ .none

theorem OptIs.split {o : Option Int} {r : Value} (h : OptIs o r) : (o = Option.none ∧ r = .none) ∨ ∃ v t, o = Option.some v ∧ r = .int v t := by
  cases h with
  | none => exact .inl ⟨rfl, rfl⟩
  | some v t => exact .inr ⟨v, t, rfl, rfl⟩

/-- behind a statement: the frame holds ps (and what else it may), the ledger stands -/
inductive At (h₀ : Heap) (L : Addr) (news : List (Addr × Obj)) (s : Shared) (ps : List (Str × Value)) (s' : Shared) : Prop
  | mk (u : Str → Option Value) (h' : Heap) (tk' : Nat) (e : s' = { s with heap := h', toks := tk' }) (F : Fr h₀ L h' (kstB u ps)) (N : News h₀ L h' news)
theorem At.of {h₀ h : Heap} {L : Addr} {m₁ : Str → Option Value} {news news' : List (Addr × Obj)} {s : Shared} {ps : List (Str × Value)} {tk : Nat}
    (F : Fr h₀ L h m₁) (N : News h₀ L h news') (hs : ∀ p ∈ news, p ∈ news') (hk : ∀ p ∈ ps, m₁ p.1 = some p.2) : At h₀ L news s ps { s with heap := h, toks := tk } := by
  have em : kstB m₁ ps = m₁ := by
    funext y
    exact kstB_eq hk fun _ => rfl
  exact ⟨m₁, h, tk, rfl, by rw [em]; exact F, fun p hp => N p (hs p hp)⟩
def Nx (Mid : Shared → Prop) (f : Flow) (s' : Shared) : Prop := f = .next ∧ Mid s'
theorem seq_cut {M : Model} {A : Around} {E : Value → Shared → Prop} {s : Shared} {env : Env} {s1 : Stmt} {rest : List Stmt} {Q : Flow → Shared → Prop} (Mid : Shared → Prop)
    (h1 : wpAny M A (exec s1 env) (Nx Mid) E s) (h2 : ∀ s', Mid s' → wpAny M A (execs rest env) Q E s') : wpAny M A (execs (s1 :: rest) env) Q E s :=
  wpAny_execs_cons (wpAny_mono h1 (fun f s' x => by obtain ⟨e, m⟩ := x; subst e; exact h2 s' m) fun _ _ x => x)
/-- as Meets, with a premise on the heap below and the ledger, and with what the call leaves on the ledger -/
def MeetsG (w : World) (n : Nat) (f : Addr) (vs : List Value) (Pre : Heap → List (Addr × Obj) → Prop) (Out : List (Addr × Obj) → Value → Prop) : Prop :=
  ∀ (prog : Program) (mean : ExcName → Option Value) (mg mb : Str → Option Value) (dp un : Nat) (gd : Option (List Code)) (cn : Str) (cs : Scope) (a : Addr) (ccd : Value) (cl : List (Str × Addr)) (outer : List Env) (A₀ : Around) (base h₀ : Heap) (L : Addr) (m : Str → Option Value)
    (news : List (Addr × Obj)) (s : Shared) (Q E : Value → Shared → Prop),
    Below A₀ base outer h₀ → Fr h₀ L s.heap m → (hd.heap_1 w.params).In h₀ → News h₀ L s.heap news → Top viewP lse mean mg mb h₀ → cs.kind = .function → dp + n < recursionLimit → un + 40 * n < cLine → Pre h₀ news →
    (∀ (r : Value) (tl : List (Addr × Obj)) (h' : Heap) (tk' : Nat), Fr h₀ L h' m → News h₀ L h' (tl ++ news) → Out tl r → Q r { s with heap := h', toks := tk' }) →
    wpAny (model prog w) (ktrTop dp un gd cn cs L a ccd cl outer) (call (.ref f) vs) Q E s

theorem MeetsG.use {w : World} {n : Nat} {f : Addr} {vs : List Value} {Pre : Heap → List (Addr × Obj) → Prop} {Out : List (Addr × Obj) → Value → Prop} (C : MeetsG w n f vs Pre Out) {prog : Program} {mean : ExcName → Option Value} {mg mb : Str → Option Value} {dp un : Nat} {gd : Option (List Code)} {cn : Str} {cs : Scope} {a : Addr} {ccd : Value} {cl : List (Str × Addr)} {outer : List Env} {A₀ : Around} {base h₀ : Heap} {L : Addr} {m : Str → Option Value}
    {news : List (Addr × Obj)} {s : Shared} {Q E : Value → Shared → Prop}
    (B : Below A₀ base outer h₀) (F : Fr h₀ L s.heap m) (X : (hd.heap_1 w.params).In h₀) (N : News h₀ L s.heap news) (T : Top viewP lse mean mg mb h₀) (hk : cs.kind = .function) (hdp : dp + n < recursionLimit) (hun : un + 40 * n < cLine) (hp : Pre h₀ news)
    (ret : ∀ (r : Value) (tl : List (Addr × Obj)) (h' : Heap) (tk' : Nat), Fr h₀ L h' m → News h₀ L h' (tl ++ news) → Out tl r → Q r { s with heap := h', toks := tk' }) :
    wpAny (model prog w) (ktrTop dp un gd cn cs L a ccd cl outer) (call (.ref f) vs) Q E s := C _ _ _ _ _ _ _ _ _ _ _ _ _ _ _ _ _ _ _ _ _ _ B F X N T hk hdp hun hp ret
end
local macro_rules | `(tactic| cb_end $h:ident) => `(tactic| (refine' $h _ _ _ ?e1 ?e2 ?e3; (case e1 => k_asm); (case e2 => first | with_reducible assumption | (refine' cb_drop ?cbN ?cbS; (case cbN => with_reducible assumption); (case cbS => kcj_all)) | k_asm | (refine' cb_drop ?cbN ?cbS; (case cbN => assumption); (case cbS => kcj_all)))))
local macro_rules | `(tactic| kcj_all) => `(tactic| ((try simp only [List.nil_append, List.cons_append]); (intro p9 h9; (repeat (first | with_reducible exact h9 | refine List.mem_cons_of_mem _ ?_)); done)))
local macro_rules | `(tactic| ktn_call $c:term $p:term) => `(tactic| (k_dflt (refine' MeetsG.use $c ?k1 ?k2 ?k3 ?k4 ?k5 ?kK ?kd ?ku ?kp ?_; (case k1 => k_asm); (case k2 => k_asm); (case k3 => k_asm); (case k4 => k_asm); (case k5 => k_asm); (case kK => first | exact rfl | assumption); (case kd => ktr_room); (case ku => ktr_units); (case kp => exact $p)); intro r9 tl9 h9 tk9 F9 N9 O9; (try k_sweep)))
local macro_rules | `(tactic| ktn_end $c:term) => `(tactic| (k_dflt (refine' Meets.use $c ?k1 ?k2 ?k3 ?k4 ?k5 ?kK ?kd ?ku ?_; (case k1 => k_asm); (case k2 => k_asm); (case k3 => k_asm); (case k4 => k_asm); (case k5 => k_asm); (case kK => first | exact rfl | assumption); (case kd => ktr_room); (case ku => ktr_units)); intro r9 h9 tk9 F9 N9 O9; (try k_sweep)))
local macro_rules | `(tactic| ktr_call $h:term $tl:term) => `(tactic| (refine' $h _ $tl _ _ ?e1 ?e2 ?e3; (case e1 => k_asm); (case e2 => ((try simp only [List.nil_append, List.cons_append]); first | with_reducible assumption | (refine' cb_drop ?cbN ?cbS; (case cbN => with_reducible assumption); (case cbS => kcj_all)) | k_asm | (refine' cb_drop ?cbN ?cbS; (case cbN => assumption); (case cbS => kcj_all))))))
local macro_rules | `(tactic| walk_at $s:str) => `(tactic| k_extra $s)
section
/-! plain readings of the texts (lists of code points) -/
def blankC (c : Nat) : Bool := c == 32 || c == 9 || c == 10 || c == 11 || c == 12 || c == 13
def digitC (c : Nat) : Int := if 48 ≤ c ∧ c ≤ 57 then (c : Int) - 48 else if 97 ≤ c ∧ c ≤ 122 then (c : Int) - 87 else if 65 ≤ c ∧ c ≤ 90 then (c : Int) - 55 else -1
def okDigit (base : Int) (c : Nat) : Bool := decide (0 ≤ digitC c) && decide (digitC c < base)
def dv (base : Int) : Int → List Nat → Option Int
  | acc, [] => some acc
  | acc, c :: r => if digitC c < 0 ∨ base ≤ digitC c then none else dv base (acc * base + digitC c) r
def digitsValue (l : List Nat) (base : Int) : Option Int := if l = [] then none else dv base 0 l
def baseOf (c : Nat) : Int := if c = 120 ∨ c = 88 then 16 else if c = 111 ∨ c = 79 then 8 else if c = 98 ∨ c = 66 then 2 else if c = 100 ∨ c = 68 then 10 else 0
def lstrip (l : List Nat) : List Nat := l.dropWhile blankC
def rstrip : List Nat → List Nat
  | [] => []
  | c :: r => match rstrip r with
    | [] => if blankC c then [] else [c]
    | r' => c :: r'
/-- what stands behind the sign -/
def wholeCore : List Nat → Option Int
  | 48 :: m :: d :: r => if 0 < baseOf m then digitsValue (d :: r) (baseOf m) else digitsValue (48 :: m :: d :: r) 10
  | l => digitsValue l 10
def wholeSigned : List Nat → Option Int
  | 45 :: r => (wholeCore r).map fun v => -v
  | 43 :: r => wholeCore r
  | l => wholeCore l
def wholeOf (l : List Nat) : Option Int := wholeSigned (rstrip (lstrip l))

inductive St | ahead | signed | nought | based | figures | behind
  deriving DecidableEq
structure LS where
  st : St
  sign : Int
  base : Int
  figs : List Int
def isMark (c : Nat) : Bool := c == 120 || c == 88 || c == 111 || c == 79 || c == 98 || c == 66 || c == 100 || c == 68
def lawStep (s : LS) (c : Nat) : Option LS :=
  if (s.st = .ahead ∨ s.st = .behind) ∧ blankC c = true then some s
  else if (s.st = .nought ∨ s.st = .figures) ∧ blankC c = true then some { s with st := .behind }
  else if s.st = .ahead ∧ (c = 43 ∨ c = 45) then some { s with st := .signed, sign := if c = 45 then -1 else 1 }
  else if s.st = .nought ∧ isMark c = true then some { s with st := .based, base := baseOf c, figs := [] }
  else if s.st ≠ .behind ∧ 0 ≤ digitC c ∧ digitC c < s.base then
    some { s with st := if (s.st = .ahead ∨ s.st = .signed) ∧ digitC c = 0 then .nought else .figures, figs := s.figs ++ [digitC c] }
  else none
def lawRun : LS → List Nat → Option LS
  | s, [] => some s
  | s, c :: r => match lawStep s c with
    | none => none
    | some s' => lawRun s' r
def horner (base : Int) (figs : List Int) : Int := figs.foldl (fun a f => a * base + f) 0
def lawEnd (s : LS) : Option Int := if s.st = .nought ∨ s.st = .figures ∨ s.st = .behind then some (s.sign * horner s.base s.figs) else none
def lawWhole (l : List Nat) : Option Int := (lawRun ⟨.ahead, 1, 10, []⟩ l).bind lawEnd

/-! the two are one -/
theorem blank_noDigit {c : Nat} (h : blankC c = true) : digitC c = -1 := by
  unfold blankC at h
  simp only [Bool.or_eq_true, beq_iff_eq] at h
  unfold digitC
  rcases h with ((((h | h) | h) | h) | h) | h <;> subst h <;> rfl
theorem blank_noMark {c : Nat} (h : blankC c = true) : baseOf c = 0 := by
  unfold blankC at h
  simp only [Bool.or_eq_true, beq_iff_eq] at h
  rcases h with ((((h | h) | h) | h) | h) | h <;> subst h <;> rfl
theorem blank_noSign {c : Nat} (h : blankC c = true) : c ≠ 43 ∧ c ≠ 45 ∧ c ≠ 48 := by
  refine ⟨?_, ?_, ?_⟩ <;> (rintro rfl; exact absurd h (by decide))
theorem ite_four (p q r s : Prop) [Decidable p] [Decidable q] [Decidable r] [Decidable s] : (0 : Int) < (if p then 16 else if q then 8 else if r then 2 else if s then 10 else 0) ↔ p ∨ q ∨ r ∨ s := by
  by_cases hp : p
  · simp [hp]
  · by_cases hq : q
    · simp [hp, hq]
    · by_cases hr : r
      · simp [hp, hq, hr]
      · by_cases hs : s
        · simp [hp, hq, hr, hs]
        · simp [hp, hq, hr, hs]
theorem mark_base (c : Nat) : isMark c = true ↔ 0 < baseOf c := by
  unfold isMark baseOf
  rw [ite_four]
  simp only [Bool.or_eq_true, beq_iff_eq, or_assoc]
theorem digitC_ge (c : Nat) : -1 ≤ digitC c := by unfold digitC; (repeat' split) <;> omega

theorem rstrip_nil_iff (l : List Nat) : rstrip l = [] ↔ l.all blankC = true := by
  induction l with
  | nil => simp [rstrip]
  | cons c r ih =>
    unfold rstrip
    cases h : rstrip r with
    | nil =>
      have := ih.mp h
      cases hb : blankC c <;> simp [hb, this]
    | cons x y =>
      simp only [reduceCtorEq, List.all_cons, Bool.and_eq_true, false_iff, not_and]
      intro _ q
      have := ih.mpr q
      rw [h] at this; cases this
theorem rstrip_cons_of {c : Nat} {r : List Nat} (h : blankC c = false ∨ rstrip r ≠ []) : rstrip (c :: r) = c :: rstrip r := by
  rw [rstrip]
  cases hr : rstrip r with
  | nil =>
    rcases h with h | h
    · simp [h]
    · exact absurd hr h
  | cons x y => rfl

/-- from the state of the figures -/
theorem run_behind (s : LS) (hs : s.st = .behind) (l : List Nat) : lawRun s l = if l.all blankC = true then some s else none := by
  induction l with
  | nil => rfl
  | cons c r ih =>
    unfold lawRun
    cases hb : blankC c with
    | true =>
      have : lawStep s c = some s := by unfold lawStep; simp [hs, hb]
      rw [this]; simp only [ih, List.all_cons, hb, Bool.true_and]
    | false =>
      have : lawStep s c = none := by unfold lawStep; simp [hs, hb]
      rw [this]; simp [hb]

theorem horner_append (base : Int) (fs gs : List Int) : horner base (fs ++ gs) = gs.foldl (fun a f => a * base + f) (horner base fs) := by
  unfold horner; rw [List.foldl_append]

theorem run_figures (b g : Int) : ∀ (l : List Nat) (fs : List Int),
    (lawRun ⟨.figures, g, b, fs⟩ l).bind lawEnd = (dv b (horner b fs) (rstrip l)).map fun v => g * v := by
  intro l
  induction l with
  | nil => intro fs; simp [lawRun, lawEnd, rstrip, dv]
  | cons c r ih =>
    intro fs
    unfold lawRun
    cases hb : blankC c with
    | true =>
      have e : lawStep ⟨.figures, g, b, fs⟩ c = some ⟨.behind, g, b, fs⟩ := by unfold lawStep; simp [hb]
      rw [e]
      simp only
      rw [run_behind _ rfl]
      cases hr : r.all blankC with
      | true =>
        have h1 := (rstrip_nil_iff r).mpr hr
        have h2 : rstrip (c :: r) = [] := (rstrip_nil_iff _).mpr (by simp [hb, hr])
        rw [h2]; simp [lawEnd, dv]
      | false =>
        have h1 : rstrip r ≠ [] := fun q => by rw [(rstrip_nil_iff r).mp q] at hr; cases hr
        rw [rstrip_cons_of (.inr h1)]
        simp [dv, blank_noDigit hb]
    | false =>
      rw [rstrip_cons_of (.inl hb)]
      by_cases hd : 0 ≤ digitC c ∧ digitC c < b
      · have e : lawStep ⟨.figures, g, b, fs⟩ c = some ⟨.figures, g, b, fs ++ [digitC c]⟩ := by unfold lawStep; simp [hb, hd]
        rw [e]
        simp only
        rw [ih, horner_append]
        simp only [dv, List.foldl_cons, List.foldl_nil]
        rw [if_neg (by omega)]
      · have e : lawStep ⟨.figures, g, b, fs⟩ c = none := by unfold lawStep; simp [hb, hd]
        rw [e]
        unfold dv
        rw [if_pos (by omega)]
        rfl

theorem rstrip_ne {c : Nat} {r : List Nat} (h : blankC c = false) : rstrip (c :: r) ≠ [] := by rw [rstrip_cons_of (.inl h)]; simp

/-- from the state behind a mark -/
theorem run_based (b g : Int) (l : List Nat) : (lawRun ⟨.based, g, b, []⟩ l).bind lawEnd = (digitsValue (rstrip l) b).map fun v => g * v := by
  cases l with
  | nil => simp [lawRun, lawEnd, rstrip, digitsValue]
  | cons c r =>
    unfold lawRun
    cases hb : blankC c with
    | true =>
      have e : lawStep ⟨.based, g, b, []⟩ c = none := by
        unfold lawStep
        have := blank_noDigit hb
        simp [hb, this]
      rw [e]
      cases hr : rstrip r with
      | nil =>
        have : rstrip (c :: r) = [] := by rw [rstrip, hr]; simp [hb]
        rw [this]; simp [digitsValue]
      | cons x y =>
        rw [rstrip_cons_of (.inr (by rw [hr]; simp))]
        simp [digitsValue, dv, blank_noDigit hb]
    | false =>
      rw [rstrip_cons_of (.inl hb)]
      by_cases hd : 0 ≤ digitC c ∧ digitC c < b
      · have e : lawStep ⟨.based, g, b, []⟩ c = some ⟨.figures, g, b, [digitC c]⟩ := by unfold lawStep; simp [hb, hd]
        rw [e]
        simp only
        rw [run_figures]
        simp only [digitsValue, reduceCtorEq, if_false, dv]
        rw [if_neg (by omega)]
        simp [horner]
      · have e : lawStep ⟨.based, g, b, []⟩ c = none := by unfold lawStep; simp [hb, hd]
        rw [e]
        simp only [digitsValue, reduceCtorEq, if_false, dv]
        rw [if_pos (by omega)]
        rfl

theorem digit48 : digitC 48 = 0 := by rfl
theorem digit_48 {c : Nat} (h : digitC c = 0) : c = 48 := by
  unfold digitC at h
  (repeat' split at h) <;> omega
theorem mark_noDigit10 {c : Nat} (h : 0 < baseOf c) : 10 ≤ digitC c := by
  have := (mark_base c).mpr h
  unfold isMark at this
  simp only [Bool.or_eq_true, beq_iff_eq] at this
  rcases this with ((((((h | h) | h) | h) | h) | h) | h) | h <;> subst h <;> decide
theorem mark_noBlank {c : Nat} (h : 0 < baseOf c) : blankC c = false := by
  cases q : blankC c with
  | false => rfl
  | true => rw [blank_noMark q] at h; omega

/-- from the state behind one nought -/
theorem run_nought (g : Int) (l : List Nat) : (lawRun ⟨.nought, g, 10, [0]⟩ l).bind lawEnd = (wholeCore (48 :: rstrip l)).map fun v => g * v := by
  cases l with
  | nil => simp [lawRun, lawEnd, rstrip, wholeCore, digitsValue, dv, digit48, horner]
  | cons c r =>
    unfold lawRun
    cases hb : blankC c with
    | true =>
      have e : lawStep ⟨.nought, g, 10, [0]⟩ c = some ⟨.behind, g, 10, [0]⟩ := by unfold lawStep; simp [hb]
      rw [e]
      simp only
      rw [run_behind _ rfl]
      cases hr : r.all blankC with
      | true =>
        have h2 : rstrip (c :: r) = [] := (rstrip_nil_iff _).mpr (by simp [hb, hr])
        rw [h2]; simp [lawEnd, wholeCore, digitsValue, dv, digit48, horner]
      | false =>
        have h1 : rstrip r ≠ [] := fun q => by rw [(rstrip_nil_iff r).mp q] at hr; cases hr
        rw [rstrip_cons_of (.inr h1)]
        cases hq : rstrip r with
        | nil => exact absurd hq h1
        | cons x y => simp [wholeCore, blank_noMark hb, digitsValue, dv, blank_noDigit hb, digit48]
    | false =>
      rw [rstrip_cons_of (.inl hb)]
      by_cases hm : 0 < baseOf c
      · have e : lawStep ⟨.nought, g, 10, [0]⟩ c = some ⟨.based, g, baseOf c, []⟩ := by
          unfold lawStep
          simp [hb, (mark_base c).mpr hm]
        rw [e]
        simp only
        rw [run_based]
        cases hq : rstrip r with
        | nil =>
          have h10 := mark_noDigit10 hm
          simp only [wholeCore, digitsValue, reduceCtorEq, if_true, if_false, dv, digit48]
          rw [if_neg (by omega), if_pos (by omega)]
        | cons x y => simp [wholeCore, hm]
      · have hmk : isMark c = false := by
          cases q : isMark c with
          | false => rfl
          | true => exact absurd ((mark_base c).mp q) hm
        have ew : wholeCore (48 :: c :: rstrip r) = dv 10 0 (48 :: c :: rstrip r) := by
          cases hq : rstrip r with
          | nil => simp [wholeCore, digitsValue]
          | cons x y => simp [wholeCore, hm, digitsValue]
        rw [ew]
        by_cases hd : 0 ≤ digitC c ∧ digitC c < 10
        · have e : lawStep ⟨.nought, g, 10, [0]⟩ c = some ⟨.figures, g, 10, [0, digitC c]⟩ := by unfold lawStep; simp [hb, hd, hmk]
          rw [e]
          simp only
          rw [run_figures]
          simp only [dv, digit48]
          rw [if_neg (by omega), if_neg (by omega)]
          simp [horner]
        · have e : lawStep ⟨.nought, g, 10, [0]⟩ c = none := by unfold lawStep; simp [hb, hd, hmk]
          rw [e]
          simp only [dv, digit48]
          rw [if_neg (by omega), if_pos (by omega)]
          rfl

theorem core_other {c : Nat} {r : List Nat} (h : c ≠ 48) : wholeCore (c :: r) = digitsValue (c :: r) 10 := by
  unfold wholeCore
  split
  · rename_i q; cases q; exact absurd rfl h
  · rfl

/-- from the state ahead of the figures, signed or not: one figure must come -/
theorem run_first (st : St) (hst : st = .signed ∨ st = .ahead) (g : Int) (l : List Nat) (hns : st = .ahead → ∀ c r, l = c :: r → blankC c = false ∧ c ≠ 43 ∧ c ≠ 45) :
    (lawRun ⟨st, g, 10, []⟩ l).bind lawEnd = (wholeCore (rstrip l)).map fun v => g * v := by
  cases l with
  | nil => rcases hst with rfl | rfl <;> simp [lawRun, lawEnd, rstrip, wholeCore, digitsValue]
  | cons c r =>
    unfold lawRun
    cases hb : blankC c with
    | true =>
      have hs : st = .signed := by
        rcases hst with h | h
        · exact h
        · have := (hns h c r rfl).1; rw [hb] at this; cases this
      subst hs
      have hd := blank_noDigit hb
      have e : lawStep ⟨.signed, g, 10, []⟩ c = none := by unfold lawStep; simp [hb, hd]
      rw [e]
      cases hr : rstrip r with
      | nil =>
        have : rstrip (c :: r) = [] := by rw [rstrip, hr]; simp [hb]
        rw [this]; simp [wholeCore, digitsValue]
      | cons x y =>
        rw [rstrip_cons_of (.inr (by rw [hr]; simp)), core_other (blank_noSign hb).2.2]
        simp [digitsValue, dv, hd]
    | false =>
      rw [rstrip_cons_of (.inl hb)]
      have hsg : ¬ (st = .ahead ∧ (c = 43 ∨ c = 45)) := by
        rintro ⟨h, q⟩
        have := hns h c r rfl
        omega
      have hnb : st ≠ .behind := by rcases hst with rfl | rfl <;> simp
      have hnn : st ≠ .nought := by rcases hst with rfl | rfl <;> simp
      by_cases h0 : digitC c = 0
      · have hc := digit_48 h0
        subst hc
        have e : lawStep ⟨st, g, 10, []⟩ 48 = some ⟨.nought, g, 10, [0]⟩ := by
          rcases hst with rfl | rfl <;> rfl
        rw [e]
        simp only
        rw [run_nought]
      · have hc : c ≠ 48 := fun q => by subst q; exact h0 rfl
        rw [core_other hc]
        by_cases hd : 0 ≤ digitC c ∧ digitC c < 10
        · have e : lawStep ⟨st, g, 10, []⟩ c = some ⟨.figures, g, 10, [digitC c]⟩ := by
            unfold lawStep
            rw [if_neg (by simp [hb]), if_neg (by simp [hb]), if_neg hsg, if_neg (by simp [hnn]), if_pos ⟨hnb, hd⟩, if_neg (by simp [h0])]
            rfl
          rw [e]
          simp only
          rw [run_figures]
          simp only [digitsValue, reduceCtorEq, if_false, dv]
          rw [if_neg (by omega)]
          simp [horner]
        · have e : lawStep ⟨st, g, 10, []⟩ c = none := by
            unfold lawStep
            rw [if_neg (by simp [hb]), if_neg (by simp [hb]), if_neg hsg, if_neg (by simp [hnn]), if_neg (fun q => hd q.2)]
          rw [e]
          simp only [digitsValue, reduceCtorEq, if_false, dv]
          rw [if_pos (by omega)]
          rfl

theorem map_one (o : Option Int) : o.map (fun v => 1 * v) = o := by cases o <;> simp
theorem map_neg (o : Option Int) : o.map (fun v => -1 * v) = o.map fun v => -v := by cases o <;> simp

theorem signed_other {c : Nat} {r : List Nat} (h1 : c ≠ 45) (h2 : c ≠ 43) : wholeSigned (c :: r) = wholeCore (c :: r) := by
  unfold wholeSigned
  split
  · rename_i q; cases q; exact absurd rfl h1
  · rename_i q; cases q; exact absurd rfl h2
  · rfl

theorem whole_same (l : List Nat) : lawWhole l = wholeOf l := by
  unfold lawWhole wholeOf
  induction l with
  | nil => rfl
  | cons c r ih =>
    cases hb : blankC c with
    | true =>
      have e : lawStep ⟨.ahead, 1, 10, []⟩ c = some ⟨.ahead, 1, 10, []⟩ := by unfold lawStep; simp [hb]
      unfold lawRun
      rw [e]
      simp only
      rw [ih]
      simp [lstrip, List.dropWhile, hb]
    | false =>
      have el : lstrip (c :: r) = c :: r := by simp [lstrip, List.dropWhile, hb]
      rw [el, rstrip_cons_of (.inl hb)]
      by_cases h45 : c = 45
      · subst h45
        have e : lawStep ⟨.ahead, 1, 10, []⟩ 45 = some ⟨.signed, -1, 10, []⟩ := by rfl
        unfold lawRun
        rw [e]
        simp only
        rw [run_first .signed (.inl rfl) _ _ (by intro q; cases q), map_neg]
        rfl
      · by_cases h43 : c = 43
        · subst h43
          have e : lawStep ⟨.ahead, 1, 10, []⟩ 43 = some ⟨.signed, 1, 10, []⟩ := by rfl
          unfold lawRun
          rw [e]
          simp only
          rw [run_first .signed (.inl rfl) _ _ (by intro q; cases q), map_one]
          rfl
        · rw [signed_other h45 h43, run_first .ahead (.inr rfl) 1 (c :: r) (by intro _ c' r' q; cases q; exact ⟨hb, h43, h45⟩), map_one, rstrip_cons_of (.inl hb)]
end
section
/-! texts by places -/
def cp (x : Str) (k : Int) : Nat := (Txt.charAt x k).getD 0
theorem item_is (x : Str) (k : Int) : Txt.item x k = ⟨#[cp x k]⟩ := rfl
def sl (x : Str) (i j : Int) : List Nat := (x.cps.toList.drop i.toNat).take (j - i).toNat
theorem slice_is {x : Str} {i j : Int} (h : 0 ≤ i) (h1 : i ≤ j) (h2 : j ≤ x.length) : (Txt.slice x (some i) (some j)).cps.toList = sl x i j := by
  have e := StrLaws.sliceText_plain (x := x) (i := i) (j := j) ⟨h, h1, by simpa [Str.length] using h2⟩
  show (StrLaws.sliceText x (some i) (some j)).cps.toList = _
  rw [e]; rfl
theorem slice_to {x : Str} {j : Int} (h : 0 ≤ j) (h2 : j ≤ x.length) : (Txt.slice x none (some j)).cps.toList = sl x 0 j := by
  have e := StrLaws.sliceText_to (x := x) (j := j) ⟨h, by simpa [Str.length] using h2⟩
  show (StrLaws.sliceText x none (some j)).cps.toList = _
  rw [e]; rfl
theorem slice_from {x : Str} {i : Int} (h : 0 ≤ i) (h2 : i ≤ x.length) : (Txt.slice x (some i) none).cps.toList = x.cps.toList.drop i.toNat := by
  have e := StrLaws.sliceText_from (x := x) (i := i) ⟨h, by simpa [Str.length] using h2⟩
  show (StrLaws.sliceText x (some i) none).cps.toList = _
  rw [e]
  simp only
  rw [List.take_of_length_le]
  simp only [List.length_drop]
  omega
theorem len_list (x : Str) : x.cps.toList.length = x.length := by simp [Str.length]
theorem cp_at {x : Str} {k : Int} (h : 0 ≤ k) (h1 : k < x.length) : x.cps.toList[k.toNat]? = some (cp x k) := by
  have e : seqIndex? k x.length = some k.toNat := StrLaws.seqIndex_nonneg h h1
  have hl : k.toNat < x.cps.size := by have : x.length = x.cps.size := rfl; omega
  unfold cp Txt.charAt
  rw [e, Option.bind_some, Array.getElem?_eq_getElem hl, Option.getD_some]
  rw [Array.getElem?_toList, Array.getElem?_eq_getElem hl]
theorem sl_cons {x : Str} {i j : Int} (h : 0 ≤ i) (h1 : i < j) (h2 : j ≤ x.length) : sl x i j = cp x i :: sl x (i + 1) j := by
  unfold sl
  have e := cp_at h (show i < x.length by omega)
  have hl : i.toNat < x.cps.toList.length := by rw [len_list]; omega
  rw [List.drop_eq_getElem_cons hl]
  have e2 : (j - i).toNat = (j - (i + 1)).toNat + 1 := by omega
  rw [e2, List.take_succ_cons]
  rw [List.getElem?_eq_getElem hl] at e
  rw [Option.some.inj e, show (i + 1).toNat = i.toNat + 1 by omega]
theorem sl_nil {x : Str} {i j : Int} (h : j ≤ i) : sl x i j = [] := by
  unfold sl
  rw [show (j - i).toNat = 0 by omega, List.take_zero]
theorem sl_len {x : Str} {i j : Int} (h : 0 ≤ i) (h1 : i ≤ j) (h2 : j ≤ x.length) : (sl x i j).length = (j - i).toNat := by
  unfold sl
  rw [List.length_take, List.length_drop, len_list]
  omega
theorem sl_all (x : Str) : sl x 0 x.length = x.cps.toList := by
  unfold sl
  rw [show (0 : Int).toNat = 0 from rfl, List.drop_zero, List.take_of_length_le (by rw [len_list]; omega)]

theorem lstrip_ix {x : Str} {f : Int} (h0 : 0 ≤ f) (hf : f ≤ x.length) (hl : ∀ j, 0 ≤ j → j < f → blankC (cp x j) = true) (hs : f < x.length → blankC (cp x f) = false) :
    lstrip x.cps.toList = sl x f x.length := by
  rw [← sl_all x]
  have go : ∀ (n : Nat) (i : Int), 0 ≤ i → i ≤ f → (f - i).toNat = n → lstrip (sl x i x.length) = sl x f x.length := by
    intro n
    induction n with
    | zero =>
      intro i h1 h2 h3
      have : i = f := by omega
      subst this
      by_cases hq : i < x.length
      · rw [sl_cons h1 hq (Int.le_refl _)]
        simp [lstrip, List.dropWhile, hs hq]
      · rw [sl_nil (by omega)]; rfl
    | succ n ih =>
      intro i h1 h2 h3
      rw [sl_cons h1 (by omega) (Int.le_refl _)]
      have := hl i h1 (by omega)
      show List.dropWhile blankC _ = _
      rw [List.dropWhile_cons, if_pos this]
      exact ih (i + 1) (by omega) (by omega) (by omega)
  exact go _ 0 (Int.le_refl _) h0 rfl
theorem rstrip_blank {l : List Nat} (h : ∀ c ∈ l, blankC c = true) : rstrip l = [] := (rstrip_nil_iff l).mpr (List.all_eq_true.mpr h)
theorem rstrip_ix {x : Str} {f b : Int} (h0 : 0 ≤ f) (hfb : f ≤ b) (hb : b ≤ x.length) (ht : ∀ j, b ≤ j → j < x.length → blankC (cp x j) = true) (he : f < b → blankC (cp x (b - 1)) = false) :
    rstrip (sl x f x.length) = sl x f b := by
  have tail : ∀ (n : Nat) (i : Int), b ≤ i → i ≤ x.length → (x.length - i).toNat = n → rstrip (sl x i x.length) = [] := by
    intro n
    induction n with
    | zero => intro i h1 h2 h3; rw [sl_nil (by omega)]; rfl
    | succ n ih =>
      intro i h1 h2 h3
      rw [sl_cons (by omega) (by omega) (Int.le_refl _), rstrip, ih (i + 1) (by omega) (by omega) (by omega)]
      simp [ht i h1 (by omega)]
  have go : ∀ (n : Nat) (i : Int), f ≤ i → i ≤ b → (b - i).toNat = n → rstrip (sl x i x.length) = sl x i b := by
    intro n
    induction n with
    | zero =>
      intro i h1 h2 h3
      have : i = b := by omega
      subst this
      rw [tail _ i (Int.le_refl _) hb rfl, sl_nil (Int.le_refl _)]
    | succ n ih =>
      intro i h1 h2 h3
      rw [sl_cons (by omega) (by omega) (Int.le_refl _), sl_cons (by omega) (by omega) hb]
      have e := ih (i + 1) (by omega) (by omega) (by omega)
      rw [← e]
      refine rstrip_cons_of ?_
      by_cases q : i + 1 = b
      · left
        have := he (by omega)
        rwa [show b - 1 = i by omega] at this
      · right
        rw [e, sl_cons (by omega) (by omega) hb]; simp
  exact go _ f (Int.le_refl _) hfb rfl
theorem whole_ix {x : Str} {f b : Int} (h0 : 0 ≤ f) (hfb : f ≤ b) (hb : b ≤ x.length) (hl : ∀ j, 0 ≤ j → j < f → blankC (cp x j) = true) (hs : f < x.length → blankC (cp x f) = false)
    (ht : ∀ j, b ≤ j → j < x.length → blankC (cp x j) = true) (he : f < b → blankC (cp x (b - 1)) = false) : wholeOf x.cps.toList = wholeSigned (sl x f b) := by
  unfold wholeOf
  rw [lstrip_ix h0 (by omega) hl hs, rstrip_ix h0 hfb hb ht he]
theorem signed_minus {x : Str} {f b : Int} (h0 : 0 ≤ f) (h1 : f < b) (h2 : b ≤ x.length) (h : cp x f = 45) : wholeSigned (sl x f b) = (wholeCore (sl x (f + 1) b)).map fun v => -v := by
  rw [sl_cons h0 h1 h2, h]; rfl
theorem signed_plus {x : Str} {f b : Int} (h0 : 0 ≤ f) (h1 : f < b) (h2 : b ≤ x.length) (h : cp x f = 43) : wholeSigned (sl x f b) = wholeCore (sl x (f + 1) b) := by
  rw [sl_cons h0 h1 h2, h]; rfl
theorem signed_none {x : Str} {f b : Int} (h0 : 0 ≤ f) (h2 : b ≤ x.length) (h : f < b → cp x f ≠ 45 ∧ cp x f ≠ 43) : wholeSigned (sl x f b) = wholeCore (sl x f b) := by
  by_cases h1 : f < b
  · rw [sl_cons h0 h1 h2, signed_other (h h1).1 (h h1).2]
  · rw [sl_nil (by omega)]; rfl
theorem core_based {x : Str} {f b : Int} (h0 : 0 ≤ f) (h1 : 2 < b - f) (h2 : b ≤ x.length) (h : cp x f = 48) (hp : 0 < baseOf (cp x (f + 1))) : wholeCore (sl x f b) = digitsValue (sl x (f + 2) b) (baseOf (cp x (f + 1))) := by
  have e3 : f + 1 + 1 = f + 2 := by omega
  rw [sl_cons h0 (by omega) h2, sl_cons (i := f + 1) (by omega) (by omega) h2, e3, sl_cons (i := f + 2) (by omega) (by omega) h2, h, wholeCore, if_pos hp]
theorem core_plain {x : Str} {f b : Int} (h0 : 0 ≤ f) (h2 : b ≤ x.length) (h : 2 < b - f → cp x f = 48 → ¬ 0 < baseOf (cp x (f + 1))) : wholeCore (sl x f b) = digitsValue (sl x f b) 10 := by
  by_cases h1 : 2 < b - f
  · have e3 : f + 1 + 1 = f + 2 := by omega
    by_cases hc : cp x f = 48
    · have := h h1 hc
      rw [sl_cons h0 (by omega) h2, sl_cons (i := f + 1) (by omega) (by omega) h2, e3, sl_cons (i := f + 2) (by omega) (by omega) h2, hc, wholeCore, if_neg this]
    · rw [sl_cons h0 (by omega) h2, core_other hc]
  · by_cases q1 : f + 1 < b
    · have e3 : f + 1 + 1 = f + 2 := by omega
      rw [sl_cons h0 (by omega) h2, sl_cons (i := f + 1) (by omega) (by omega) h2, e3, sl_nil (i := f + 2) (by omega)]
      unfold wholeCore
      split
      · rename_i q; simp at q
      · rfl
    · by_cases q2 : f < b
      · rw [sl_cons h0 (by omega) h2, sl_nil (i := f + 1) (by omega)]
        unfold wholeCore
        split
        · rename_i q; simp at q
        · rfl
      · rw [sl_nil (by omega)]; rfl
/-! the worth of figures -/
def wsum (b : Int) (fs : List Int) : Nat → Int
  | 0 => 0
  | i + 1 => wsum b fs i + fs.getD i 0 * b ^ (fs.length - 1 - i)
theorem horner_snoc (b : Int) (fs : List Int) (f : Int) : horner b (fs ++ [f]) = horner b fs * b + f := by unfold horner; rw [List.foldl_append]; rfl
theorem getD_at {fs : List Int} {i : Nat} (h : i < fs.length) : fs.getD i 0 = fs[i] := by
  rw [List.getD_eq_getElem?_getD, List.getElem?_eq_getElem h, Option.getD_some]
theorem wsum_take (b : Int) (fs : List Int) : ∀ i, i ≤ fs.length → wsum b fs i = horner b (fs.take i) * b ^ (fs.length - i)
  | 0, _ => by simp [wsum, horner]
  | i + 1, h => by
    have hi : i < fs.length := by omega
    rw [wsum, wsum_take b fs i (by omega), List.take_succ_eq_append_getElem hi, horner_snoc, getD_at hi]
    have e : fs.length - i = (fs.length - (i + 1)) + 1 := by omega
    have e2 : fs.length - 1 - i = fs.length - (i + 1) := by omega
    rw [e, e2, Int.pow_succ, Int.add_mul, Int.mul_assoc, Int.mul_comm b]
theorem wsum_all (b : Int) (fs : List Int) : wsum b fs fs.length = horner b fs := by
  rw [wsum_take b fs _ (Nat.le_refl _), List.take_length, Nat.sub_self, Int.pow_zero, Int.mul_one]
end
section
/-! behind a statement that may also leave the body -/
def Nr (Mid : Shared → Prop) (Q : Flow → Shared → Prop) (f : Flow) (s' : Shared) : Prop :=
  match f with
  | .next => Mid s'
  | f => Q f s'
theorem seq_cutR {M : Model} {A : Around} {E : Value → Shared → Prop} {s : Shared} {env : Env} {s1 : Stmt} {rest : List Stmt} {Q : Flow → Shared → Prop} (Mid : Shared → Prop)
    (h1 : wpAny M A (exec s1 env) (Nr Mid Q) E s) (h2 : ∀ s', Mid s' → wpAny M A (execs rest env) Q E s') : wpAny M A (execs (s1 :: rest) env) Q E s :=
  wpAny_execs_cons (wpAny_mono h1 (fun f s' x => by cases f <;> first | exact h2 s' x | exact x) fun _ _ x => x)
/-! the law's machine, a step at a time -/
theorem lawRun_append : ∀ (l r : List Nat) (s : LS), lawRun s (l ++ r) = (lawRun s l).bind fun s' => lawRun s' r
  | [], _, _ => rfl
  | c :: l, r, s => by
    simp only [List.cons_append, lawRun]
    cases lawStep s c with
    | none => rfl
    | some s' => exact lawRun_append l r s'
theorem lawRun_snoc (l : List Nat) (n : Nat) (s : LS) : lawRun s (l ++ [n]) = (lawRun s l).bind fun s' => lawStep s' n := by
  rw [lawRun_append]
  congr 1
  funext s'
  unfold lawRun
  cases lawStep s' n <;> rfl
def isSign (n : Nat) : Bool := n == 43 || n == 45
theorem occ_one (x : Str) (c : Nat) : (Builtin.Str.occurrences x ⟨#[c]⟩ 0 x.length 1).isEmpty = !decide (c ∈ x.cps.toList) := by
  rw [← StrLaws.found_one x c, Bool.not_not]
theorem gap_is (n : Nat) : (Builtin.Str.occurrences (Str.ofString " \t\n\x0b\x0c\x0d") ⟨#[n]⟩ 0 (Str.ofString " \t\n\x0b\x0c\x0d").length 1).isEmpty = !blankC n := by
  rw [occ_one, show (Str.ofString " \t\n\x0b\x0c\x0d").cps.toList = [32, 9, 10, 11, 12, 13] by decide]
  unfold blankC
  congr 1
  rw [Bool.eq_iff_iff]; simp [or_assoc]
theorem sign_is (n : Nat) : (Builtin.Str.occurrences (Str.ofString "+-") ⟨#[n]⟩ 0 (Str.ofString "+-").length 1).isEmpty = !isSign n := by
  rw [occ_one, show (Str.ofString "+-").cps.toList = [43, 45] by decide]
  unfold isSign
  congr 1
  rw [Bool.eq_iff_iff]; simp
theorem mark_is (n : Nat) : (Builtin.Str.occurrences (Str.ofString "xXoObBdD") ⟨#[n]⟩ 0 (Str.ofString "xXoObBdD").length 1).isEmpty = !isMark n := by
  rw [occ_one, show (Str.ofString "xXoObBdD").cps.toList = [120, 88, 111, 79, 98, 66, 100, 68] by decide]
  unfold isMark
  congr 1
  rw [Bool.eq_iff_iff]; simp [or_assoc]
theorem step_gap1 {st : St} {g b : Int} {f : List Int} {n : Nat} (hs : st = .ahead ∨ st = .behind) (hb : blankC n = true) : lawStep ⟨st, g, b, f⟩ n = some ⟨st, g, b, f⟩ := by
  unfold lawStep; rw [if_pos ⟨hs, hb⟩]
theorem step_gap2 {st : St} {g b : Int} {f : List Int} {n : Nat} (hs : st = .nought ∨ st = .figures) (hb : blankC n = true) : lawStep ⟨st, g, b, f⟩ n = some ⟨.behind, g, b, f⟩ := by
  unfold lawStep
  rw [if_neg (by rcases hs with rfl | rfl <;> simp), if_pos ⟨hs, hb⟩]
theorem step_sign {g b : Int} {f : List Int} {n : Nat} (hb : blankC n = false) (hs : isSign n = true) : lawStep ⟨.ahead, g, b, f⟩ n = some ⟨.signed, if n = 45 then -1 else 1, b, f⟩ := by
  unfold isSign at hs
  simp only [Bool.or_eq_true, beq_iff_eq] at hs
  unfold lawStep
  rw [if_neg (by simp [hb]), if_neg (by simp [hb]), if_pos ⟨rfl, hs⟩]
theorem step_mark {g b : Int} {f : List Int} {n : Nat} (hb : blankC n = false) (hm : isMark n = true) : lawStep ⟨.nought, g, b, f⟩ n = some ⟨.based, g, baseOf n, []⟩ := by
  unfold lawStep
  rw [if_neg (by simp [hb]), if_neg (by simp [hb]), if_neg (by simp), if_pos ⟨rfl, hm⟩]
theorem step_fig {st st' : St} {g b : Int} {f : List Int} {n : Nat} (hb : blankC n = false ∨ st = .signed ∨ st = .based) (hs : st ≠ .ahead ∨ isSign n = false) (hm : st ≠ .nought ∨ isMark n = false) (hn : st ≠ .behind)
    (h0 : 0 ≤ digitC n) (h1 : digitC n < b) (he : (if (st = .ahead ∨ st = .signed) ∧ digitC n = 0 then St.nought else St.figures) = st') : lawStep ⟨st, g, b, f⟩ n = some ⟨st', g, b, f ++ [digitC n]⟩ := by
  have hbl : blankC n = false := by
    cases q : blankC n with
    | false => rfl
    | true => rw [blank_noDigit q] at h0; omega
  unfold lawStep
  rw [if_neg (by simp [hbl]), if_neg (by simp [hbl]), if_neg, if_neg, if_pos ⟨hn, h0, h1⟩]
  · simp only [he]
  · rintro ⟨q, q'⟩
    rcases hm with hm | hm
    · exact hm q
    · rw [hm] at q'; cases q'
  · rintro ⟨q, q'⟩
    rcases hs with hs | hs
    · exact hs q
    · unfold isSign at hs
      simp only [Bool.or_eq_false_iff, beq_eq_false_iff_ne, ne_eq] at hs
      omega
theorem step_none {st : St} {g b : Int} {f : List Int} {n : Nat} (hb : blankC n = false ∨ st = .signed ∨ st = .based) (hs : st ≠ .ahead ∨ isSign n = false) (hm : st ≠ .nought ∨ isMark n = false)
    (hx : st = .behind ∨ ¬ 0 ≤ digitC n ∨ ¬ digitC n < b) : lawStep ⟨st, g, b, f⟩ n = none := by
  unfold lawStep
  rw [if_neg, if_neg, if_neg, if_neg, if_neg]
  · rintro ⟨q0, q1, q2⟩
    rcases hx with h | h | h
    · exact q0 h
    · exact h q1
    · exact h q2
  · rintro ⟨q, q'⟩
    rcases hm with hm | hm
    · exact hm q
    · rw [hm] at q'; cases q'
  · rintro ⟨q, q'⟩
    rcases hs with hs | hs
    · exact hs q
    · unfold isSign at hs
      simp only [Bool.or_eq_false_iff, beq_eq_false_iff_ne, ne_eq] at hs
      omega
  · rintro ⟨q, q'⟩
    rcases hb with h | h | h
    · rw [h] at q'; cases q'
    · dsimp only at q; rw [h] at q; rcases q with q | q <;> cases q
    · dsimp only at q; rw [h] at q; rcases q with q | q <;> cases q
  · rintro ⟨q, q'⟩
    rcases hb with h | h | h
    · rw [h] at q'; cases q'
    · dsimp only at q; rw [h] at q; rcases q with q | q <;> cases q
    · dsimp only at q; rw [h] at q; rcases q with q | q <;> cases q
end
section
/-! texts of valid signs, their lengths -/
def TextOk (n : Nat) (x : Str) : Prop := (x.length : Int) ≤ n ∧ PyData.strOk x = true
theorem strOk_iff {x : Str} : PyData.strOk x = true ↔ ∀ c ∈ x.cps.toList, c < 0x110000 := by
  unfold PyData.strOk
  rw [Array.all_eq_true']
  constructor
  · intro h c hc
    have := h c (by simpa using hc)
    simpa using this
  · intro h c hc
    have := h c (by simpa using hc)
    simpa using this
theorem app_list (x y : Str) : (x ++ y).cps.toList = x.cps.toList ++ y.cps.toList := by
  show (x.cps ++ y.cps).toList = _
  simp
theorem app_len (x y : Str) : (x ++ y).length = x.length + y.length := by
  have := congrArg List.length (app_list x y)
  simp only [List.length_append, len_list] at this
  exact this
theorem strOk_app {x y : Str} (hx : PyData.strOk x = true) (hy : PyData.strOk y = true) : PyData.strOk (x ++ y) = true := by
  rw [strOk_iff] at *
  rw [app_list]
  intro c hc
  rcases List.mem_append.mp hc with h | h
  · exact hx c h
  · exact hy c h
theorem ok_app {x y : Str} {a b n : Nat} (hx : TextOk a x) (hy : TextOk b y) (h : a + b ≤ n) : TextOk n (x ++ y) :=
  ⟨by have h1 := hx.1; have h2 := hy.1; rw [app_len]; omega, strOk_app hx.2 hy.2⟩
theorem ok_more {x : Str} {a n : Nat} (hx : TextOk a x) (h : a ≤ n) : TextOk n x := ⟨by have := hx.1; omega, hx.2⟩
theorem cp_mem {x : Str} {k : Int} : cp x k = 0 ∨ cp x k ∈ x.cps.toList := by
  unfold cp Txt.charAt
  cases h : (seqIndex? k x.length).bind (x.cps[·]?) with
  | none => left; rfl
  | some c =>
    right
    obtain ⟨i, _, e⟩ := Option.bind_eq_some_iff.mp h
    simp only [Option.getD_some]
    have := Array.mem_of_getElem? e
    simpa using this
theorem ok_item {x : Str} {k : Int} (h : PyData.strOk x = true) : TextOk 1 (Txt.item x k) := by
  refine ⟨by rw [item_is]; exact Int.le_refl _, ?_⟩
  rw [strOk_iff] at *
  rw [item_is]
  intro c hc
  have : c = cp x k := by simpa using hc
  rw [this]
  rcases cp_mem (x := x) (k := k) with e | e
  · rw [e]; decide
  · exact h _ e
theorem slice_mem {x : Str} {l u : Option Int} {c : Nat} (h : c ∈ (Txt.slice x l u).cps.toList) : c ∈ x.cps.toList := by
  change c ∈ (StrLaws.sliceText x l u).cps.toList at h
  unfold StrLaws.sliceText at h
  split at h
  · exact h
  · simp only [List.mem_filterMap] at h
    obtain ⟨i, _, e⟩ := h
    have := Array.mem_of_getElem? e
    simpa using this
theorem strOk_slice {x : Str} {l u : Option Int} (h : PyData.strOk x = true) : PyData.strOk (Txt.slice x l u) = true := by
  rw [strOk_iff] at *
  exact fun c hc => h c (slice_mem hc)
theorem add_ok {prog : Program} {w : World} {A : Around} {E : Value → Shared → Prop} {s : Shared} {x y : Str} {t u : Tok} {a b : Nat} {Q : Value → Shared → Prop} (hx : TextOk a x) (hy : TextOk b y) (hn : a + b ≤ 1000) (h : ∀ t' tk, TextOk (a + b) (x ++ y) → Q (.str (x ++ y) t') { s with toks := tk }) :
    wpAny (model prog w) A (binaryOp .Add (.str x t) (.str y u)) Q E s :=
  PyProof.Rows.add_str (fun t' tk => h t' tk (ok_app hx hy (Nat.le_refl _))) (by have h1 := hx.1; have h2 := hy.1; rw [sizeLine_eq]; omega)
theorem len_ok {prog : Program} {w : World} {A : Around} {E : Value → Shared → Prop} {s : Shared} {x : Str} {t : Tok} {a : Nat} {Q : Value → Shared → Prop} (hx : TextOk a x) (hn : a ≤ 1000) (h : ∀ t' tk, x.length ≤ a → Q (.int x.length t') { s with toks := tk }) :
    wpAny (model prog w) A (call (.builtin "len") [.str x t]) Q E s :=
  len_writK _ rfl (by have := hx.1; omega) (h _ _ (by have := hx.1; omega))
theorem item_ok {prog : Program} {w : World} {A : Around} {E : Value → Shared → Prop} {s : Shared} {value slice : PySem.Expr} {x : Str} {t u : Tok} {a : Nat} {b : Int} {Q : Value → Shared → Prop} (hx : TextOk a x) (h1 : 1 ≤ x.length) (hn : a ≤ 1000) (h : TextOk 1 (Txt.item x (b.fmod x.length)) → Q (.str (Txt.item x (b.fmod x.length)) s.toks) { s with toks := s.toks + 1 })
    (hs : subscripted slice false (.str x t) (.int (b.fmod x.length) u) = operate [.str x t, .int (b.fmod x.length) u] (getItem (.str x t) (.int (b.fmod x.length) u)) := by with_unfolding_all rfl)
    (ht : ∀ r, letTemporaryGo value (.str x t) r = pure () := by intro _; with_unfolding_all rfl) : wpAny (model prog w) A (subscriptTail value slice (.str x t) (.int (b.fmod x.length) u)) Q E s := by
  have h2 := Int.fmod_lt_of_pos b (show (0 : Int) < x.length by omega)
  have h3 := Int.fmod_nonneg_of_pos b (show (0 : Int) < x.length by omega)
  have h4 := hx.1
  exact PyProof.Rows.item_str (fitsSsize_of (N := 9223372036854775808) (by omega) (by omega) (Int.le_refl _)) (by omega) h2 (fun _ => h (ok_item hx.2)) hs ht
theorem ok_slice {x : Str} {l u : Option Int} {a : Nat} (hx : TextOk a x) (h : (Txt.slice x l u).length ≤ x.length) : TextOk a (Txt.slice x l u) := ⟨by have := hx.1; omega, strOk_slice hx.2⟩
end
section
/-! cases of letters -/
def alow (c : Nat) : Nat := if 65 ≤ c ∧ c ≤ 90 then c + 32 else c
def aup (c : Nat) : Nat := if 97 ≤ c ∧ c ≤ 122 then c - 32 else c
theorem lowerOf_low : ∀ c : Fin 128, Unicode.lowerOf c.val = [alow c.val] := by decide +kernel
theorem lowerOf_s : Unicode.lowerOf 383 = [383] := by decide +kernel
theorem upperOf_low : ∀ c : Fin 128, Unicode.upperOf c.val = [aup c.val] := by decide +kernel
def Plain (c : Nat) : Prop := c < 128 ∨ c = 383
theorem lowerOf_plain {c : Nat} (h : Plain c) : Unicode.lowerOf c = [alow c] := by
  rcases h with h | h
  · exact lowerOf_low ⟨c, h⟩
  · subst h; exact lowerOf_s
theorem placed_one {x : Str} {f : Nat → Nat → List Nat} {g : Nat → Nat} (h : ∀ i c, x.cps[i]? = some c → f i c = [g c]) : (placed x f).toList = x.cps.toList.map g := by
  unfold placed
  rw [Array.toList_flatten]
  apply List.ext_getElem?
  intro i
  have e : (x.cps.mapIdx fun i c => (f i c).toArray) = x.cps.map fun c => #[g c] := by
    apply Array.ext
    · simp
    · intro i h1 h2
      simp only [Array.getElem_mapIdx, Array.getElem_map]
      rw [h i _ (by rw [Array.getElem?_eq_getElem])]
  rw [e]
  congr 1
  simp only [Array.toList_map, List.map_map]
  rw [← List.flatMap_def]
  induction x.cps.toList with
  | nil => rfl
  | cons a r ih => simp only [List.flatMap_cons, List.map_cons, ih]; rfl
theorem lower_plain {x : Str} (h : ∀ c ∈ x.cps.toList, Plain c) : Txt.lower x = ⟨(x.cps.toList.map alow).toArray⟩ := by
  unfold Txt.lower
  congr 1
  rw [← Array.toList_inj]
  rw [placed_one (g := alow)]
  intro i c hc
  have hm : c ∈ x.cps.toList := by simpa using Array.mem_of_getElem? hc
  have hp := h c hm
  unfold Unicode.lowerAt
  rw [hc]
  dsimp only
  rw [if_neg, lowerOf_plain hp]
  intro q
  rw [Bool.and_eq_true, beq_iff_eq] at q
  rcases hp with hp | hp <;> omega
theorem upper_one {c : Nat} (h : c < 128) : Txt.upper ⟨#[c]⟩ = ⟨#[aup c]⟩ := by
  unfold Txt.upper
  congr 1
  rw [← Array.toList_inj]
  rw [placed_one (g := aup)]
  · rfl
  · intro i d hd
    have : d = c := by
      have := Array.mem_of_getElem? hd
      simpa using this
    subst this
    exact upperOf_low ⟨d, h⟩
end
section
/-! the texts of _law_word -/
def WORDS : List Str := [Str.ofString "true", Str.ofString "false", Str.ofString "yes", Str.ofString "no", Str.ofString "on", Str.ofString "off", Str.ofString "0x0", Str.ofString "-20"]
def SUFS : List Str := [Str.ofString "", Str.ofString "e", Str.ofString " ", Str.ofString "ſ"]
inductive Cased : List Nat → List Nat → Prop
  | nil : Cased [] []
  | keep {c : Nat} {l r : List Nat} : Cased l r → Cased (c :: l) (c :: r)
  | up {c : Nat} {l r : List Nat} : Cased l r → Cased (aup c :: l) (c :: r)
theorem Cased.snoc_keep {l r : List Nat} (h : Cased l r) (c : Nat) : Cased (l ++ [c]) (r ++ [c]) := by
  induction h with
  | nil => exact .keep .nil
  | keep _ ih => exact .keep ih
  | up _ ih => exact .up ih
theorem Cased.snoc_up {l r : List Nat} (h : Cased l r) (c : Nat) : Cased (l ++ [aup c]) (r ++ [c]) := by
  induction h with
  | nil => exact .up .nil
  | keep _ ih => exact .keep ih
  | up _ ih => exact .up ih
theorem Cased.len {l r : List Nat} (h : Cased l r) : l.length = r.length := by
  induction h with
  | nil => rfl
  | keep _ ih => simp [ih]
  | up _ ih => simp [ih]
theorem words_low : ∀ w ∈ WORDS, ∀ c ∈ w.cps.toList, c < 128 := by decide +kernel
theorem words_len : ∀ w ∈ WORDS, 2 ≤ w.length ∧ w.length ≤ 5 := by decide +kernel
theorem words_fix : ∀ w ∈ WORDS, ∀ c ∈ w.cps.toList, alow c = c ∧ alow (aup c) = c ∧ aup c < 128 := by decide +kernel
theorem sufs_plain : ∀ w ∈ SUFS, ∀ c ∈ w.cps.toList, (c < 128 ∨ c = 383) ∧ alow c = c := by decide +kernel
theorem sufs_len : ∀ w ∈ SUFS, w.length ≤ 1 := by decide +kernel
structure WordText (x : Str) : Prop where
  is : ∃ w ∈ WORDS, ∃ p, 1 ≤ p ∧ p ≤ w.length ∧ ∃ l, Cased l (w.cps.toList.take p) ∧ ∃ y ∈ SUFS, x.cps.toList = l ++ y.cps.toList
theorem take_snoc_cp {x : Str} {i : Nat} (h : i < x.length) : x.cps.toList.take (i + 1) = x.cps.toList.take i ++ [cp x (i : Int)] := by
  have hl : i < x.cps.toList.length := by rw [len_list]; exact h
  rw [List.take_succ_eq_append_getElem hl]
  have e := cp_at (x := x) (k := (i : Int)) (by omega) (by omega)
  rw [Int.toNat_natCast, List.getElem?_eq_getElem hl] at e
  rw [Option.some.inj e]
theorem cased_keep {x w : Str} {i : Nat} (h : Cased x.cps.toList (w.cps.toList.take i)) (hi : i < w.length) : Cased (x ++ Txt.item w (i : Int)).cps.toList (w.cps.toList.take (i + 1)) := by
  rw [app_list, take_snoc_cp hi, item_is]
  exact h.snoc_keep _
theorem cased_up {x w : Str} {i : Nat} (h : Cased x.cps.toList (w.cps.toList.take i)) (hi : i < w.length) : Cased (x ++ (⟨#[aup (cp w (i : Int))]⟩ : Str)).cps.toList (w.cps.toList.take (i + 1)) := by
  rw [app_list, take_snoc_cp hi]
  exact h.snoc_up _
theorem cp_low {w : Str} {i : Nat} (hw : w ∈ WORDS) (hi : i < w.length) : cp w (i : Int) < 128 := by
  have e := cp_at (x := w) (k := (i : Int)) (by omega) (by omega)
  exact words_low w hw _ (List.mem_of_getElem? e)
theorem cased_mem {l r : List Nat} (h : Cased l r) {P : Nat → Prop} (hp : ∀ c ∈ r, P c ∧ P (aup c)) : ∀ c ∈ l, P c := by
  induction h with
  | nil => intro c hc; cases hc
  | keep _ ih =>
    intro c hc
    rcases List.mem_cons.mp hc with rfl | hc
    · exact (hp _ (.head _)).1
    · exact ih (fun d hd => hp d (.tail _ hd)) c hc
  | up _ ih =>
    intro c hc
    rcases List.mem_cons.mp hc with rfl | hc
    · exact (hp _ (.head _)).2
    · exact ih (fun d hd => hp d (.tail _ hd)) c hc
theorem cased_map {l r : List Nat} (h : Cased l r) (hp : ∀ c ∈ r, alow c = c ∧ alow (aup c) = c) : l.map alow = r := by
  induction h with
  | nil => rfl
  | keep _ ih => rw [List.map_cons, (hp _ (.head _)).1, ih fun d hd => hp d (.tail _ hd)]
  | up _ ih => rw [List.map_cons, (hp _ (.head _)).2, ih fun d hd => hp d (.tail _ hd)]
/-- the small letters of such a text -/
theorem word_low {x : Str} (h : WordText x) : (∀ c ∈ x.cps.toList, Plain c) ∧ (x.length : Int) ≤ 6 ∧ ∃ w ∈ WORDS, ∃ p, 1 ≤ p ∧ p ≤ 5 ∧ ∃ y ∈ SUFS, x.cps.toList.map alow = w.cps.toList.take p ++ y.cps.toList ∧ ∃ l, Cased l (w.cps.toList.take p) ∧ x.cps.toList = l ++ y.cps.toList := by
  obtain ⟨w, hw, p, p1, p2, l, hc, y, hy, e⟩ := h.is
  have h1 : ∀ c ∈ w.cps.toList.take p, c ∈ w.cps.toList := fun c hc => List.mem_of_mem_take hc
  refine ⟨?_, ?_, w, hw, p, p1, by have := words_len w hw; omega, y, hy, ?_, l, hc, e⟩
  · rw [e]
    intro c hcm
    rcases List.mem_append.mp hcm with q | q
    · exact cased_mem (P := Plain) hc (fun d hd => ⟨.inl (words_low w hw d (h1 d hd)), .inl (words_fix w hw d (h1 d hd)).2.2⟩) c q
    · exact (sufs_plain y hy c q).1
  · have := congrArg List.length e
    rw [len_list, List.length_append, hc.len, List.length_take, len_list, len_list] at this
    have := words_len w hw
    have := sufs_len y hy
    omega
  · rw [e, List.map_append, cased_map hc fun d hd => ⟨(words_fix w hw d (h1 d hd)).1, (words_fix w hw d (h1 d hd)).2.1⟩]
    congr 1
    have : ∀ c ∈ y.cps.toList, alow c = id c := fun c hc => (sufs_plain y hy c hc).2
    rw [List.map_congr_left this, List.map_id]
/-! the law's reading of a text of truth -/
def wordOf (low : Str) : Option Bool :=
  if ([Str.ofString "t", Str.ofString "tr", Str.ofString "tru", Str.ofString "true", Str.ofString "y", Str.ofString "ye", Str.ofString "yes", Str.ofString "on"].any fun x => x == low) = true then some true
  else if ([Str.ofString "f", Str.ofString "fa", Str.ofString "fal", Str.ofString "fals", Str.ofString "false", Str.ofString "n", Str.ofString "no", Str.ofString "of", Str.ofString "off"].any fun x => x == low) = true then some false else none
def lawTruth (x : Str) : Option Bool := match wordOf ⟨(x.cps.toList.map alow).toArray⟩ with
  | some b => some b
  | none => (lawWhole x.cps.toList).map fun v => v != 0
inductive OptBIs : Option Bool → Value → Prop
  | none : OptBIs none .none
  | some (b : Bool) : OptBIs (some b) (.bool b)
theorem OptBIs.ofS {o : Option Bool} {b : Bool} (e : o = Option.some b) : OptBIs o (.bool b) := e ▸ .some b
theorem OptBIs.ofN {o : Option Bool} (e : o = Option.none) : OptBIs o .none := e ▸ .none
theorem OptBIs.split {o : Option Bool} {r : Value} (h : OptBIs o r) : (o = Option.none ∧ r = .none) ∨ ∃ b, o = Option.some b ∧ r = .bool b := by
  cases h with
  | none => exact .inl ⟨rfl, rfl⟩
  | some b => exact .inr ⟨b, rfl, rfl⟩
theorem str_of {y : Str} {l : List Nat} (h : y.cps.toList = l) : y = ⟨l.toArray⟩ := by
  obtain ⟨a⟩ := y
  subst h
  rfl
theorem truthT {x y : Str} (e : y.cps.toList = x.cps.toList.map alow) (h : ([Str.ofString "t", Str.ofString "tr", Str.ofString "tru", Str.ofString "true", Str.ofString "y", Str.ofString "ye", Str.ofString "yes", Str.ofString "on"].any fun x => x == y) = true) : lawTruth x = some true := by
  unfold lawTruth wordOf
  rw [← str_of e, if_pos h]
theorem truthF {x y : Str} (e : y.cps.toList = x.cps.toList.map alow) (h : ([Str.ofString "t", Str.ofString "tr", Str.ofString "tru", Str.ofString "true", Str.ofString "y", Str.ofString "ye", Str.ofString "yes", Str.ofString "on"].any fun x => x == y) = false)
    (h' : ([Str.ofString "f", Str.ofString "fa", Str.ofString "fal", Str.ofString "fals", Str.ofString "false", Str.ofString "n", Str.ofString "no", Str.ofString "of", Str.ofString "off"].any fun x => x == y) = true) : lawTruth x = some false := by
  unfold lawTruth wordOf
  rw [← str_of e, if_neg (by rw [h]; decide), if_pos h']
theorem truthN {x y : Str} (e : y.cps.toList = x.cps.toList.map alow) (h : ([Str.ofString "t", Str.ofString "tr", Str.ofString "tru", Str.ofString "true", Str.ofString "y", Str.ofString "ye", Str.ofString "yes", Str.ofString "on"].any fun x => x == y) = false)
    (h' : ([Str.ofString "f", Str.ofString "fa", Str.ofString "fal", Str.ofString "fals", Str.ofString "false", Str.ofString "n", Str.ofString "no", Str.ofString "of", Str.ofString "off"].any fun x => x == y) = false) : lawTruth x = (lawWhole x.cps.toList).map fun v => v != 0 := by
  unfold lawTruth wordOf
  rw [← str_of e, if_neg (by rw [h]; decide), if_neg (by rw [h']; decide)]
theorem low_keep {y : Str} {pre : List Nat} {n : Nat} (e : y.cps.toList = pre.map alow) (h : n < 65 ∨ 90 < n) : (y ++ (⟨#[n]⟩ : Str)).cps.toList = (pre ++ [n]).map alow := by
  rw [app_list, e, List.map_append]
  congr 1
  show [n] = [alow n]
  unfold alow
  rw [if_neg (by omega)]
theorem low_up {y : Str} {pre : List Nat} {n : Nat} (e : y.cps.toList = pre.map alow) (h : 65 ≤ n) (h' : n ≤ 90) : (y ++ (⟨#[((n : Int) + 32).toNat]⟩ : Str)).cps.toList = (pre ++ [n]).map alow := by
  rw [app_list, e, List.map_append]
  congr 1
  show [((n : Int) + 32).toNat] = [alow n]
  unfold alow
  rw [if_pos ⟨h, h'⟩]
  congr 1
theorem leA {prog : Program} {w : World} {A : Around} {E : Value → Shared → Prop} {s : Shared} {n : Nat} {t u : Tok} {Q : Value → Shared → Prop} (h : Q (.bool (decide (65 ≤ n))) s) : wpAny (model prog w) A (compareOp .LtE (.str (Str.ofString "A") t) (.str ⟨#[n]⟩ u)) Q E s := by
  refine P.le_str ?_
  have e : (!decide ((⟨#[n]⟩ : Str).cps.toList < (Str.ofString "A").cps.toList)) = decide (65 ≤ n) := by
    rw [show (Str.ofString "A").cps.toList = [65] by decide +kernel]
    show (!decide ([n] < [65])) = _
    rw [Bool.eq_iff_iff]
    simp [List.cons_lt_cons_iff]
  rw [e]; exact h
theorem leZ {prog : Program} {w : World} {A : Around} {E : Value → Shared → Prop} {s : Shared} {n : Nat} {t u : Tok} {Q : Value → Shared → Prop} (h : Q (.bool (decide (n ≤ 90))) s) : wpAny (model prog w) A (compareOp .LtE (.str ⟨#[n]⟩ t) (.str (Str.ofString "Z") u)) Q E s := by
  refine P.le_str ?_
  have e : (!decide ((Str.ofString "Z").cps.toList < (⟨#[n]⟩ : Str).cps.toList)) = decide (n ≤ 90) := by
    rw [show (Str.ofString "Z").cps.toList = [90] by decide +kernel]
    show (!decide ([90] < [n])) = _
    rw [Bool.eq_iff_iff]
    simp [List.cons_lt_cons_iff]
  rw [e]; exact h
/-! the program's reading of a text of truth -/
abbrev YES : List Str := [Str.ofString "true", Str.ofString "yes", Str.ofString "on"]
abbrev NAY : List Str := [Str.ofString "false", Str.ofString "no", Str.ofString "off"]
def boolWord (low : Str) : Option Bool :=
  if ([Str.ofString "", Str.ofString "o"].any fun y => y == low) = true then none
  else if (YES.any fun z => Txt.startswith z low) = true then some true
  else if (NAY.any fun z => Txt.startswith z low) = true then some false else none
def boolOf (x : Str) : Option Bool := match wholeOf x.cps.toList with
  | some v => some (v != 0)
  | none => boolWord (Txt.lower x)
theorem bool0 {x : Str} {v : Int} (e : wholeOf x.cps.toList = some v) : boolOf x = some (v != 0) := by unfold boolOf; rw [e]
theorem bool1 {x : Str} (e : wholeOf x.cps.toList = none) (h : ([Str.ofString "", Str.ofString "o"].any fun y => y == Txt.lower x) = true) : boolOf x = none := by unfold boolOf; rw [e]; dsimp only; unfold boolWord; rw [if_pos h]
theorem any_at {l : List Str} {i : Nat} {z : Str} {f : Str → Bool} (hz : l[i]? = some z) (h : f z = true) : l.any f = true := List.any_eq_true.mpr ⟨z, List.mem_of_getElem? hz, h⟩
theorem any_no {l : List Str} {n : Nat} {f : Str → Bool} (hn : n = l.length) (h : ∀ z ∈ l.take n, f z = false) : ¬ l.any f = true := by
  rw [hn, List.take_length] at h
  intro q
  obtain ⟨z, hz, hf⟩ := List.any_eq_true.mp q
  rw [h z hz] at hf; cases hf
theorem bool2 {x z : Str} {i : Nat} (e : wholeOf x.cps.toList = none) (h : ([Str.ofString "", Str.ofString "o"].any fun y => y == Txt.lower x) = false) (hz : YES[i]? = some z) (hs : Txt.startswith z (Txt.lower x) = true) : boolOf x = some true := by
  unfold boolOf; rw [e]; dsimp only; unfold boolWord; rw [if_neg (by rw [h]; decide), if_pos (any_at hz hs)]
theorem bool3 {x z : Str} {i : Nat} (e : wholeOf x.cps.toList = none) (h : ([Str.ofString "", Str.ofString "o"].any fun y => y == Txt.lower x) = false) (hy : ∀ z ∈ YES.take 3, Txt.startswith z (Txt.lower x) = false) (hz : NAY[i]? = some z) (hs : Txt.startswith z (Txt.lower x) = true) : boolOf x = some false := by
  unfold boolOf; rw [e]; dsimp only; unfold boolWord; rw [if_neg (by rw [h]; decide), if_neg (any_no (l := YES) (f := fun z => Txt.startswith z (Txt.lower x)) rfl hy), if_pos (any_at hz hs)]
theorem bool4 {x : Str} (e : wholeOf x.cps.toList = none) (h : ([Str.ofString "", Str.ofString "o"].any fun y => y == Txt.lower x) = false) (hy : ∀ z ∈ YES.take 3, Txt.startswith z (Txt.lower x) = false) (hn : ∀ z ∈ NAY.take 3, Txt.startswith z (Txt.lower x) = false) : boolOf x = none := by
  unfold boolOf; rw [e]; dsimp only; unfold boolWord; rw [if_neg (by rw [h]; decide), if_neg (any_no (l := YES) (f := fun z => Txt.startswith z (Txt.lower x)) rfl hy), if_neg (any_no (l := NAY) (f := fun z => Txt.startswith z (Txt.lower x)) rfl hn)]
theorem take_no {l : List Str} {i : Nat} {z : Str} {f : Str → Bool} (h : ∀ z ∈ l.take i, f z = false) (hz : l[i]? = some z) (hs : f z = false) : ∀ z ∈ l.take (i + 1), f z = false := by
  intro y hy
  obtain ⟨hl, e⟩ := List.getElem?_eq_some_iff.mp hz
  rw [List.take_succ_eq_append_getElem hl, e] at hy
  rcases List.mem_append.mp hy with q | q
  · exact h y q
  · rw [List.mem_singleton.mp q]; exact hs
end
section
/-! slices whose end may lie beyond the text -/
theorem slice_from_any {x : Str} {i : Int} (h : 0 ≤ i) : (Txt.slice x (some i) none).cps.toList = x.cps.toList.drop i.toNat := by
  by_cases h2 : i ≤ x.length
  · exact slice_from h h2
  · have e : Txt.slice x (some i) none = Txt.slice x (some (x.length : Int)) none := by
      show StrLaws.sliceText x (some i) none = StrLaws.sliceText x (some (x.length : Int)) none
      unfold StrLaws.sliceText
      have e1 : Builtin.Str.strSliceIndices (some i) none 1 x.length = Builtin.Str.strSliceIndices (some (x.length : Int)) none 1 x.length := by
        unfold Builtin.Str.strSliceIndices
        dsimp only
        rw [if_neg (by omega : ¬ i < 0), if_neg (by omega : ¬ (x.length : Int) < 0)]
        have e2 : min i (x.length : Int) = min (x.length : Int) (x.length : Int) := by omega
        rw [e2]
        have e3 : (1 : Int) > 0 := by decide
        simp only [e3, if_true]
      rw [e1]
    rw [e, slice_from (by omega) (Int.le_refl _), Int.toNat_natCast]
    rw [List.drop_eq_nil_of_le (by rw [len_list]; omega), List.drop_eq_nil_of_le (by rw [len_list]; omega)]
theorem slice_to_any {x : Str} {j : Int} (h : 0 ≤ j) : (Txt.slice x none (some j)).cps.toList = x.cps.toList.take j.toNat := by
  have go : ∀ j : Int, 0 ≤ j → j ≤ x.length → (Txt.slice x none (some j)).cps.toList = x.cps.toList.take j.toNat := fun j h h2 => by
    rw [slice_to h h2]; unfold sl; rw [show (0 : Int).toNat = 0 from rfl, List.drop_zero, show (j - 0).toNat = j.toNat by omega]
  by_cases h2 : j ≤ x.length
  · exact go j h h2
  · have e : Txt.slice x none (some j) = Txt.slice x none (some (x.length : Int)) := by
      show StrLaws.sliceText x none (some j) = StrLaws.sliceText x none (some (x.length : Int))
      unfold StrLaws.sliceText
      have e1 : Builtin.Str.strSliceIndices none (some j) 1 x.length = Builtin.Str.strSliceIndices none (some (x.length : Int)) 1 x.length := by
        unfold Builtin.Str.strSliceIndices
        dsimp only
        rw [if_neg (by omega : ¬ j < 0), if_neg (by omega : ¬ (x.length : Int) < 0)]
        have e2 : min j (x.length : Int) = min (x.length : Int) (x.length : Int) := by omega
        rw [e2]
        have e3 : (1 : Int) > 0 := by decide
        simp only [e3, if_true]
      rw [e1]
    rw [e, go _ (by omega) (Int.le_refl _), Int.toNat_natCast]
    rw [List.take_of_length_le (by rw [len_list]; omega), List.take_of_length_le (by rw [len_list]; omega)]
/-! index words: the texts -/
def HEADS : List Str := [Str.ofString "0x1F", Str.ofString "1", Str.ofString "end", Str.ofString "end", Str.ofString "end", Str.ofString "007", Str.ofString " 2", Str.ofString "0b1", Str.ofString "", Str.ofString "-3", Str.ofString "end ", Str.ofString "END"]
def SGNS : List Str := [Str.ofString "+", Str.ofString "-", Str.ofString "", Str.ofString "+", Str.ofString "-", Str.ofString "", Str.ofString "+-", Str.ofString " +"]
def TAILS : List Str := [Str.ofString "5", Str.ofString "012", Str.ofString "", Str.ofString "10", Str.ofString "3", Str.ofString "1 ", Str.ofString "٣"]
def IdxText (x : Str) : Prop := ∃ h ∈ HEADS, ∃ s ∈ SGNS, ∃ t ∈ TAILS, x = h ++ s ++ t
theorem heads_len : ∀ x ∈ HEADS, x.length ≤ 4 := by decide +kernel
theorem sgns_len : ∀ x ∈ SGNS, x.length ≤ 2 := by decide +kernel
theorem tails_len : ∀ x ∈ TAILS, x.length ≤ 3 := by decide +kernel
theorem heads_ok : ∀ x ∈ HEADS, PyData.strOk x = true := by decide +kernel
theorem sgns_ok : ∀ x ∈ SGNS, PyData.strOk x = true := by decide +kernel
theorem tails_ok : ∀ x ∈ TAILS, PyData.strOk x = true := by decide +kernel
theorem idx_len {x : Str} (h : IdxText x) : x.length ≤ 9 := by
  obtain ⟨a, ha, b, hb, c, hc, rfl⟩ := h
  rw [app_len, app_len]
  have := heads_len a ha
  have := sgns_len b hb
  have := tails_len c hc
  omega
theorem idx_ok {x : Str} (h : IdxText x) : PyData.strOk x = true := by
  obtain ⟨a, ha, b, hb, c, hc, rfl⟩ := h
  exact strOk_app (strOk_app (heads_ok a ha) (sgns_ok b hb)) (tails_ok c hc)
/-! the program's reading: what is added to last, or a whole -/
def movedS (l : List Nat) : Option Int := match digitsValue (l.drop 1) 10 with
  | none => none
  | some far => if l.head? = some 43 then some far else if l.head? = some 45 then some (-far) else none
def cutOn (l : List Nat) (a : Nat) : Bool := (l.getD a 0 != 43 && l.getD a 0 != 45) || blankC (l.getD (a - 1) 0)
def cutGo (l : List Nat) : Nat → Nat → Nat
  | 0, a => a
  | f + 1, a => if a < l.length ∧ cutOn l a = true then cutGo l f (a + 1) else a
def cutAt (l : List Nat) : Nat := cutGo l l.length 1
theorem cutGo_stop {l : List Nat} {a : Nat} (h : ¬ (a < l.length ∧ cutOn l a = true)) : ∀ f, cutGo l f a = a
  | 0 => rfl
  | f + 1 => by rw [cutGo, if_neg h]
abbrev Sum2 := Bool × Int
def evalS (last : Int) (p : Sum2) : Int := if p.1 then last + p.2 else p.2
abbrev ENDW : Str := Str.ofString "end"
def indexS (x : Str) : Option Sum2 := match wholeOf x.cps.toList with
  | some v => some (false, v)
  | none => if Txt.startswith x ENDW = true then (if (x == ENDW) = true then some (true, 0) else (movedS (x.cps.toList.drop 3)).map fun d => (true, d))
    else match wholeOf (x.cps.toList.take (cutAt x.cps.toList)) with
      | none => none
      | some b => (movedS (x.cps.toList.drop (cutAt x.cps.toList))).map fun d => (false, b + d)
/-! the law's reading -/
def isDig (c : Nat) : Bool := decide (48 ≤ c) && decide (c ≤ 57)
def backGo (l : List Nat) : Nat → Nat
  | 0 => 0
  | k + 1 => if isDig (l.getD (k + 1) 0) = true then backGo l k else k + 1
def lawCut (l : List Nat) : Nat := backGo l (l.length - 1)
def lawIndexS (x : Str) : Option Sum2 := match wholeOf x.cps.toList with
  | some v => some (false, v)
  | none => if x.cps.toList = [] then none else if (x == ENDW) = true then some (true, 0) else
    match wholeOf (x.cps.toList.drop (lawCut x.cps.toList + 1)) with
    | none => none
    | some far => if isSign (x.cps.toList.getD (lawCut x.cps.toList) 0) = false then none else
      match (if x.cps.toList.take (lawCut x.cps.toList) = [101, 110, 100] then some (true, 0) else (wholeOf (x.cps.toList.take (lawCut x.cps.toList))).map fun v => (false, v)) with
      | none => none
      | some b => if blankC ((x.cps.toList.take (lawCut x.cps.toList)).getD ((x.cps.toList.take (lawCut x.cps.toList)).length - 1) 0) = true then none
        else some (b.1, if x.cps.toList.getD (lawCut x.cps.toList) 0 = 45 then b.2 - far else b.2 + far)
theorem index_menu : ∀ h ∈ HEADS, ∀ s ∈ SGNS, ∀ t ∈ TAILS, indexS (h ++ s ++ t) = lawIndexS (h ++ s ++ t) := by decide +kernel
theorem index_same {x : Str} (h : IdxText x) : indexS x = lawIndexS x := by
  obtain ⟨a, ha, b, hb, c, hc, rfl⟩ := h
  exact index_menu a ha b hb c hc
/-! the ends of index_of -/
theorem ix1 {x : Str} {last : Int} {t : Tok} (e : wholeOf x.cps.toList = none) (h : Txt.startswith x ENDW = true) (h' : (x == ENDW) = true) : ∃ p, indexS x = some p ∧ evalS last p = last := by
  refine ⟨(true, 0), by unfold indexS; rw [e]; dsimp only; rw [if_pos h, if_pos h'], by simp [evalS]⟩
theorem ix2 {x : Str} {last : Int} (e : wholeOf x.cps.toList = none) (h : Txt.startswith x ENDW = true) (h' : (x == ENDW) = false) (e2 : Option.map (fun d => last + d) (movedS (Txt.slice x (some 3) none).cps.toList) = none) : indexS x = none := by
  rw [slice_from_any (by decide)] at e2
  unfold indexS; rw [e]; dsimp only; rw [if_pos h, if_neg (by rw [h']; decide)]
  rw [show (3 : Int).toNat = 3 from rfl] at e2
  rw [Option.map_eq_none_iff] at e2 ⊢
  exact e2
theorem ix3 {x : Str} {last v : Int} (e : wholeOf x.cps.toList = none) (h : Txt.startswith x ENDW = true) (h' : (x == ENDW) = false) (e2 : Option.map (fun d => last + d) (movedS (Txt.slice x (some 3) none).cps.toList) = some v) : ∃ p, indexS x = some p ∧ evalS last p = v := by
  rw [slice_from_any (by decide), show (3 : Int).toNat = 3 from rfl] at e2
  obtain ⟨d, hd, rfl⟩ := Option.map_eq_some_iff.mp e2
  refine ⟨(true, d), ?_, by simp [evalS]⟩
  unfold indexS; rw [e]; dsimp only; rw [if_pos h, if_neg (by rw [h']; decide), hd]; rfl
theorem ix4 {x : Str} {last v : Int} (e : wholeOf x.cps.toList = some v) : ∃ p, indexS x = some p ∧ evalS last p = v :=
  ⟨(false, v), by unfold indexS; rw [e], by simp [evalS]⟩
theorem ix5 {x : Str} {a : Int} (e : wholeOf x.cps.toList = none) (h : Txt.startswith x ENDW = false) (ha : 1 ≤ a) (hc : cutAt x.cps.toList = a.toNat) (e1 : wholeOf (Txt.slice x none (some a)).cps.toList = none) : indexS x = none := by
  rw [slice_to_any (by omega)] at e1
  unfold indexS; rw [e]; dsimp only; rw [if_neg (by rw [h]; decide), hc, e1]
theorem ix6 {x : Str} {a b : Int} (e : wholeOf x.cps.toList = none) (h : Txt.startswith x ENDW = false) (ha : 1 ≤ a) (hc : cutAt x.cps.toList = a.toNat) (e1 : wholeOf (Txt.slice x none (some a)).cps.toList = some b) (e2 : Option.map (fun d => b + d) (movedS (Txt.slice x (some a) none).cps.toList) = none) : indexS x = none := by
  rw [slice_to_any (by omega)] at e1
  rw [slice_from_any (by omega)] at e2
  unfold indexS; rw [e]; dsimp only; rw [if_neg (by rw [h]; decide), hc, e1]
  rw [Option.map_eq_none_iff] at e2
  dsimp only; rw [e2]; rfl
theorem ix7 {x : Str} {a b v last : Int} (e : wholeOf x.cps.toList = none) (h : Txt.startswith x ENDW = false) (ha : 1 ≤ a) (hc : cutAt x.cps.toList = a.toNat) (e1 : wholeOf (Txt.slice x none (some a)).cps.toList = some b) (e2 : Option.map (fun d => b + d) (movedS (Txt.slice x (some a) none).cps.toList) = some v) : ∃ p, indexS x = some p ∧ evalS last p = v := by
  rw [slice_to_any (by omega)] at e1
  rw [slice_from_any (by omega)] at e2
  obtain ⟨d, hd, rfl⟩ := Option.map_eq_some_iff.mp e2
  refine ⟨(false, b + d), ?_, by simp [evalS]⟩
  unfold indexS; rw [e]; dsimp only; rw [if_neg (by rw [h]; decide), hc, e1]
  dsimp only; rw [hd]; rfl
theorem getD_cp {x : Str} {k : Int} (h : 0 ≤ k) (h1 : k < x.length) : x.cps.toList.getD k.toNat 0 = cp x k := by
  rw [List.getD_eq_getElem?_getD, cp_at h h1]; rfl
/-- where the program's cut stands -/
def CutJ (x : Str) (a : Int) : Prop := cutAt x.cps.toList = cutGo x.cps.toList (x.length + 1 - a.toNat) a.toNat
theorem cut_start (x : Str) : CutJ x 1 := by
  unfold CutJ cutAt
  rw [len_list]; rfl
theorem cut_on {x : Str} {a : Int} (ha : 1 ≤ a) (hl : a < x.length) (hJ : CutJ x a) (hc : cutOn x.cps.toList a.toNat = true) : CutJ x (a + 1) := by
  unfold CutJ at *
  have e : x.length + 1 - a.toNat = (x.length + 1 - (a + 1).toNat) + 1 := by omega
  rw [hJ, e, cutGo, if_pos ⟨by rw [len_list]; omega, hc⟩, show (a + 1).toNat = a.toNat + 1 by omega]
theorem cutOn_is {x : Str} {a : Int} (ha : 1 ≤ a) (hl : a < x.length) : cutOn x.cps.toList a.toNat = ((cp x a != 43 && cp x a != 45) || blankC (cp x (a - 1))) := by
  unfold cutOn
  rw [getD_cp (by omega) hl, show a.toNat - 1 = (a - 1).toNat by omega, getD_cp (by omega) (by omega)]
theorem two_signs {x : Str} {a : Int} : ([Str.ofString "+", Str.ofString "-"].any fun y => y == Txt.item x a) = (cp x a == 43 || cp x a == 45) := by
  rw [item_is]
  have eq (c d : Nat) (s : String) (h : Str.ofString s = ⟨#[d]⟩) : (Str.ofString s == (⟨#[c]⟩ : Str)) = (c == d) := by
    rw [h, Bool.eq_iff_iff]
    simp only [beq_iff_eq, Str.mk.injEq]
    constructor
    · intro q; cases q; rfl
    · intro q; rw [q]
  simp only [List.any_cons, List.any_nil, Bool.or_false, eq _ 43 "+" (by decide), eq _ 45 "-" (by decide)]
theorem cut_step1 {x : Str} {a : Int} (ha : 1 ≤ a) (hl : a < x.length) (hJ : CutJ x a) (hs : ([Str.ofString "+", Str.ofString "-"].any fun y => y == Txt.item x a) = false) : CutJ x (a + 1) := by
  refine cut_on ha hl hJ ?_
  rw [two_signs] at hs
  rw [cutOn_is ha hl]
  simp only [Bool.or_eq_false_iff, beq_eq_false_iff_ne] at hs
  simp [hs.1, hs.2]
theorem cut_step2 {x : Str} {a : Int} (ha : 1 ≤ a) (hl : a < x.length) (hJ : CutJ x a) (hb : blankC (cp x (a - 1)) = true) : CutJ x (a + 1) := by
  refine cut_on ha hl hJ ?_
  rw [cutOn_is ha hl, hb, Bool.or_true]
theorem cut_end1 {x : Str} {a : Int} (hl : ¬ a < x.length) (hJ : CutJ x a) : cutAt x.cps.toList = a.toNat := by
  unfold CutJ at hJ
  rw [hJ, cutGo_stop (by rw [len_list]; omega)]
theorem cut_end2 {x : Str} {a : Int} (ha : 1 ≤ a) (hl : a < x.length) (hJ : CutJ x a) (hs : ([Str.ofString "+", Str.ofString "-"].any fun y => y == Txt.item x a) = true) (hb : blankC (cp x (a - 1)) = false) : cutAt x.cps.toList = a.toNat := by
  unfold CutJ at hJ
  rw [hJ, cutGo_stop]
  rw [two_signs] at hs
  rw [cutOn_is ha hl, hb]
  simp only [Bool.or_eq_true, beq_iff_eq] at hs
  rintro ⟨_, q⟩
  simp only [Bool.or_false, Bool.and_eq_true, bne_iff_ne, ne_eq] at q
  omega
end
section
/-! the law's own index: its loop and its ends -/
theorem le0 {prog : Program} {w : World} {A : Around} {E : Value → Shared → Prop} {s : Shared} {x : Str} {a : Int} {t u : Tok} {Q : Value → Shared → Prop} (h : Q (.bool (decide (48 ≤ cp x a))) s) : wpAny (model prog w) A (compareOp .LtE (.str (Str.ofString "0") t) (.str (Txt.item x a) u)) Q E s := by
  refine P.le_str ?_
  rw [item_is]
  have e : (!decide ((⟨#[cp x a]⟩ : Str).cps.toList < (Str.ofString "0").cps.toList)) = decide (48 ≤ cp x a) := by
    rw [show (Str.ofString "0").cps.toList = [48] by decide +kernel]
    show (!decide ([cp x a] < [48])) = _
    rw [Bool.eq_iff_iff]
    simp [List.cons_lt_cons_iff]
  rw [e]; exact h
theorem le9 {prog : Program} {w : World} {A : Around} {E : Value → Shared → Prop} {s : Shared} {x : Str} {a : Int} {t u : Tok} {Q : Value → Shared → Prop} (h : Q (.bool (decide (cp x a ≤ 57))) s) : wpAny (model prog w) A (compareOp .LtE (.str (Txt.item x a) t) (.str (Str.ofString "9") u)) Q E s := by
  refine P.le_str ?_
  rw [item_is]
  have e : (!decide ((Str.ofString "9").cps.toList < (⟨#[cp x a]⟩ : Str).cps.toList)) = decide (cp x a ≤ 57) := by
    rw [show (Str.ofString "9").cps.toList = [57] by decide +kernel]
    show (!decide ([57] < [cp x a])) = _
    rw [Bool.eq_iff_iff]
    simp [List.cons_lt_cons_iff]
  rw [e]; exact h
def BackJ (x : Str) (a : Int) : Prop := lawCut x.cps.toList = backGo x.cps.toList a.toNat
theorem back_start (x : Str) : BackJ x ((x.length : Int) - 1) := by
  unfold BackJ lawCut
  rw [len_list, show ((x.length : Int) - 1).toNat = x.length - 1 by omega]
theorem back_step {x : Str} {a : Int} (ha : 0 < a) (hl : a < x.length) (hJ : BackJ x a) (h1 : 48 ≤ cp x a) (h2 : cp x a ≤ 57) : BackJ x (a - 1) := by
  unfold BackJ at *
  have e : a.toNat = (a - 1).toNat + 1 := by omega
  rw [hJ, e, backGo, if_pos]
  rw [← e, getD_cp (by omega) hl]
  unfold isDig
  simp [h1, h2]
theorem back_end0 {x : Str} {a : Int} (ha : 0 ≤ a) (hJ : BackJ x a) (h : ¬ 0 < a) : lawCut x.cps.toList = a.toNat := by
  unfold BackJ at hJ
  rw [hJ, show a.toNat = 0 by omega]; rfl
theorem back_end {x : Str} {a : Int} (ha : 0 < a) (hl : a < x.length) (hJ : BackJ x a) (h : ¬ (48 ≤ cp x a ∧ cp x a ≤ 57)) : lawCut x.cps.toList = a.toNat := by
  unfold BackJ at hJ
  have e : a.toNat = (a - 1).toNat + 1 := by omega
  rw [hJ, e, backGo, if_neg]
  rw [← e, getD_cp (by omega) hl]
  unfold isDig
  simp only [Bool.and_eq_true, decide_eq_true_eq]
  exact h
theorem back_end1 {x : Str} {a : Int} (ha : 0 < a) (hl : a < x.length) (hJ : BackJ x a) (h : cp x a < 48) : lawCut x.cps.toList = a.toNat := back_end ha hl hJ (by omega)
theorem back_end2 {x : Str} {a : Int} (ha : 0 < a) (hl : a < x.length) (hJ : BackJ x a) (h : 57 < cp x a) : lawCut x.cps.toList = a.toNat := back_end ha hl hJ (by omega)
theorem nil_of {x : Str} : x.cps.toList = [] ↔ (x == Str.ofString "") = true := by
  constructor
  · intro q
    have := str_of q
    rw [this]; decide
  · intro q
    rw [eq_of_beq q]; decide
theorem lawIx0 {x : Str} {last v : Int} {t : Tok} (e : lawWhole x.cps.toList = some v) : OptIs ((lawIndexS x).map (evalS last)) (.int v t) := by
  rw [whole_same] at e
  refine .ofS ?_
  unfold lawIndexS; rw [e]; simp [evalS]
theorem lawIx1 {x : Str} {last : Int} (e : lawWhole x.cps.toList = none) (h : (x == Str.ofString "") = true) : OptIs ((lawIndexS x).map (evalS last)) .none := by
  rw [whole_same] at e
  refine .ofN ?_
  unfold lawIndexS; rw [e]; dsimp only; rw [if_pos (nil_of.mpr h)]; rfl
theorem lawIx2 {x : Str} {last : Int} {t : Tok} (e : lawWhole x.cps.toList = none) (h : (x == Str.ofString "") = false) (h' : (x == ENDW) = true) : OptIs ((lawIndexS x).map (evalS last)) (.int last t) := by
  rw [whole_same] at e
  refine .ofS ?_
  unfold lawIndexS; rw [e]; dsimp only; rw [if_neg (fun q => by rw [nil_of.mp q] at h; cases h), if_pos h']; simp [evalS]
theorem end_list {y : Str} : y.cps.toList = [101, 110, 100] ↔ (y == ENDW) = true := by
  have e : ENDW.cps.toList = [101, 110, 100] := by decide
  constructor
  · intro q
    have h1 := str_of q
    have h2 := str_of e
    rw [h1, h2]; simp
  · intro q
    rw [eq_of_beq q]; exact e
/-- the law's index behind its loop -/
theorem lawIxT {x : Str} {a : Int} (e : lawWhole x.cps.toList = none) (h1 : (x == Str.ofString "") = false) (h2 : (x == ENDW) = false) (ha : 0 ≤ a) (hl : a < x.length) (hc : lawCut x.cps.toList = a.toNat) :
    lawIndexS x = (match wholeOf (Txt.slice x (some (a + 1)) none).cps.toList with
      | none => none
      | some far => if isSign (cp x a) = false then none else
        match (if (Txt.slice x none (some a) == ENDW) = true then some (true, 0) else (wholeOf (Txt.slice x none (some a)).cps.toList).map fun v => (false, v)) with
        | none => none
        | some b => if blankC ((Txt.slice x none (some a)).cps.toList.getD ((Txt.slice x none (some a)).length - 1) 0) = true then none
          else some (b.1, if cp x a = 45 then b.2 - far else b.2 + far)) := by
  rw [whole_same] at e
  have s1 := slice_from_any (x := x) (i := a + 1) (by omega)
  have s2 := slice_to_any (x := x) (j := a) ha
  rw [show (a + 1).toNat = a.toNat + 1 by omega] at s1
  unfold lawIndexS; rw [e]; dsimp only
  rw [if_neg (fun q => by rw [nil_of.mp q] at h1; cases h1), if_neg (fun q => by rw [q] at h2; cases h2), hc, ← s1, getD_cp ha hl, ← s2, len_list]
  by_cases hE : (Txt.slice x none (some a) == ENDW) = true
  · rw [if_pos hE, if_pos (end_list.mpr hE)]; try rfl
  · rw [if_neg hE, if_neg (fun q => hE (end_list.mp q))]; try rfl
theorem last_cp {y : Str} (h : 0 < y.length) : y.cps.toList.getD (y.length - 1) 0 = cp y ((y.length : Int) - 1) := by
  rw [← getD_cp (by omega) (by omega)]
  congr 1
  omega
section
variable {x : Str} {a last : Int} (e : lawWhole x.cps.toList = none) (h1 : (x == Str.ofString "") = false) (h2 : (x == ENDW) = false) (ha : 0 ≤ a) (hl : a < x.length) (hc : lawCut x.cps.toList = a.toNat)
include e h1 h2 ha hl hc
theorem lawIxS (hs : isSign (cp x a) = false) : OptIs ((lawIndexS x).map (evalS last)) .none := by
  rw [lawIxT e h1 h2 ha hl hc]
  refine .ofN ?_
  cases wholeOf (Txt.slice x (some (a + 1)) none).cps.toList with
  | none => rfl
  | some far => dsimp only; rw [if_pos hs]; try rfl
theorem lawIxF (hf : lawWhole (Txt.slice x (some (a + 1)) none).cps.toList = none) : OptIs ((lawIndexS x).map (evalS last)) .none := by
  rw [lawIxT e h1 h2 ha hl hc]
  rw [whole_same] at hf
  rw [hf]; exact .none
theorem lawIxB {far : Int} (hs : isSign (cp x a) = true) (hf : lawWhole (Txt.slice x (some (a + 1)) none).cps.toList = some far) (hd : (Txt.slice x none (some a) == ENDW) = false) (hb : lawWhole (Txt.slice x none (some a)).cps.toList = none) : OptIs ((lawIndexS x).map (evalS last)) .none := by
  rw [lawIxT e h1 h2 ha hl hc]
  rw [whole_same] at hf hb
  rw [hf, hb, hs]; dsimp only
  rw [if_neg (by simp), if_neg (by simp [hd])]; exact .none
theorem lawIxG {far : Int} (hs : isSign (cp x a) = true) (hf : lawWhole (Txt.slice x (some (a + 1)) none).cps.toList = some far) (hp : 0 < (Txt.slice x none (some a)).length) (hg : blankC (cp (Txt.slice x none (some a)) (((Txt.slice x none (some a)).length : Int) - 1)) = true) : OptIs ((lawIndexS x).map (evalS last)) .none := by
  rw [lawIxT e h1 h2 ha hl hc]
  rw [whole_same] at hf
  rw [hf, hs]; dsimp only
  rw [if_neg (by simp)]
  generalize (if (Txt.slice x none (some a) == ENDW) = true then some (true, (0 : Int)) else (wholeOf (Txt.slice x none (some a)).cps.toList).map fun v => (false, v)) = o
  cases o with
  | none => exact .none
  | some b =>
    dsimp only
    have := last_cp hp
    rw [if_pos (by rw [this]; exact hg)]; exact .none
theorem lawIxE {far v : Int} {t : Tok} (hs : isSign (cp x a) = true) (hf : lawWhole (Txt.slice x (some (a + 1)) none).cps.toList = some far) (hp : 0 < (Txt.slice x none (some a)).length) (hg : blankC (cp (Txt.slice x none (some a)) (((Txt.slice x none (some a)).length : Int) - 1)) = false)
    (hd : (Txt.slice x none (some a) == ENDW) = true) (hv : v = if cp x a = 45 then last - far else last + far) : OptIs ((lawIndexS x).map (evalS last)) (.int v t) := by
  rw [lawIxT e h1 h2 ha hl hc]
  rw [whole_same] at hf
  rw [hf, hs]; dsimp only
  rw [if_neg (by simp), if_pos hd]
  dsimp only
  have := last_cp hp
  rw [if_neg (by rw [this, hg]; simp)]
  refine .ofS ?_
  rw [hv]
  simp only [Option.map_some, evalS, if_true]
  congr 1
  split <;> omega
theorem lawIxN {far v b : Int} {t : Tok} (hs : isSign (cp x a) = true) (hf : lawWhole (Txt.slice x (some (a + 1)) none).cps.toList = some far) (hp : 0 < (Txt.slice x none (some a)).length) (hg : blankC (cp (Txt.slice x none (some a)) (((Txt.slice x none (some a)).length : Int) - 1)) = false)
    (hd : (Txt.slice x none (some a) == ENDW) = false) (hb : lawWhole (Txt.slice x none (some a)).cps.toList = some b) (hv : v = if cp x a = 45 then b - far else b + far) : OptIs ((lawIndexS x).map (evalS last)) (.int v t) := by
  rw [lawIxT e h1 h2 ha hl hc]
  rw [whole_same] at hf hb
  rw [hf, hs, hb]; dsimp only
  rw [if_neg (by simp), if_neg (by simp [hd])]
  simp only [Option.map_some]
  have := last_cp hp
  rw [if_neg (by rw [this, hg]; simp)]
  refine .ofS ?_
  rw [hv]
  simp [evalS]
end
theorem whole_pos {y : Str} {v : Int} (e : lawWhole y.cps.toList = some v) : 0 < y.length := by
  rcases Nat.eq_zero_or_pos y.length with h | h
  · have h0 : y.cps.toList = [] := List.eq_nil_of_length_eq_zero (by rw [len_list]; exact h)
    rw [h0] at e
    cases e
  · exact h
theorem end_pos {y : Str} (h : (y == ENDW) = true) : 0 < y.length := by
  rw [eq_of_beq h]; decide
theorem gapFI {y : Str} {k : Int} (h : (Builtin.Str.occurrences (Str.ofString " \t\n\x0b\x0c\x0d") (Txt.item y k) 0 (Str.ofString " \t\n\x0b\x0c\x0d").length 1).isEmpty = true) : blankC (cp y k) = false := by
  rw [item_is, gap_is] at h; simpa using h
theorem gapTI {y : Str} {k : Int} (h : (Builtin.Str.occurrences (Str.ofString " \t\n\x0b\x0c\x0d") (Txt.item y k) 0 (Str.ofString " \t\n\x0b\x0c\x0d").length 1).isEmpty = false) : blankC (cp y k) = true := by
  rw [item_is, gap_is] at h; simpa using h
theorem signFI {y : Str} {k : Int} (h : (Builtin.Str.occurrences (Str.ofString "+-") (Txt.item y k) 0 (Str.ofString "+-").length 1).isEmpty = true) : isSign (cp y k) = false := by
  rw [item_is, sign_is] at h; simpa using h
theorem signTI {y : Str} {k : Int} (h : (Builtin.Str.occurrences (Str.ofString "+-") (Txt.item y k) 0 (Str.ofString "+-").length 1).isEmpty = false) : isSign (cp y k) = true := by
  rw [item_is, sign_is] at h; simpa using h
end
section
/-! the two readings of a text of truth are one on the texts of _law_word -/
def variants : List Nat → List (List Nat)
  | [] => [[]]
  | c :: r => (variants r).flatMap fun l => [c :: l, aup c :: l]
theorem cased_variants {l r : List Nat} (h : Cased l r) : l ∈ variants r := by
  induction h with
  | nil => exact .head _
  | keep _ ih => exact List.mem_flatMap.mpr ⟨_, ih, .head _⟩
  | up _ ih => exact List.mem_flatMap.mpr ⟨_, ih, .tail _ (.head _)⟩
def boolL (l : List Nat) : Option Bool := match wholeOf l with
  | some v => some (v != 0)
  | none => boolWord ⟨(l.map alow).toArray⟩
def truthL (l : List Nat) : Option Bool := match wordOf ⟨(l.map alow).toArray⟩ with
  | some b => some b
  | none => (wholeOf l).map fun v => v != 0
theorem bool_menu : ∀ w ∈ WORDS, ∀ p ∈ [1, 2, 3, 4, 5], ∀ l ∈ variants (w.cps.toList.take p), ∀ y ∈ SUFS, boolL (l ++ y.cps.toList) = truthL (l ++ y.cps.toList) := by decide +kernel
theorem bool_same {x : Str} (h : WordText x) : boolOf x = lawTruth x := by
  obtain ⟨hp, _, w, hw, p, p1, p5, y, hy, _, l, hc, e⟩ := word_low h
  have h5 : p ∈ [1, 2, 3, 4, 5] := by
    have : p = 1 ∨ p = 2 ∨ p = 3 ∨ p = 4 ∨ p = 5 := by omega
    simpa using this
  have m := bool_menu w hw p h5 l (cased_variants hc) y hy
  rw [← e] at m
  unfold boolL truthL at m
  unfold boolOf lawTruth
  rw [whole_same, lower_plain hp]
  exact m
theorem word_len {x : Str} (h : WordText x) : x.length ≤ 100 := by have := (word_low h).2.1; omega
theorem word_ok {x : Str} (h : WordText x) : PyData.strOk x = true := by
  obtain ⟨hp, _⟩ := word_low h
  rw [strOk_iff]
  intro c hc
  rcases hp c hc with q | q <;> omega
end
section
open PySem.Spec PySem.Calls PySem.NumText
/-! the text of a number is read back -/
theorem digit_noBlank {c : Nat} (h : 48 ≤ c ∧ c ≤ 57) : blankC c = false := by
  unfold blankC
  simp only [Bool.or_eq_false_iff, beq_eq_false_iff_ne, ne_eq]
  omega
theorem digit_is {c : Nat} (h : 48 ≤ c ∧ c ≤ 57) : digitC c = ((c - 48 : Nat) : Int) := by
  unfold digitC
  rw [if_pos h]
  omega
theorem dv_digits : ∀ (l : List Nat) (acc : Nat), AllDigits l → dv 10 (acc : Int) l = some ((l.foldl (fun a c => a * 10 + (c - 48)) acc : Nat) : Int)
  | [], _, _ => rfl
  | c :: r, acc, h => by
    have hc := h.head
    unfold dv
    rw [digit_is hc, if_neg (by omega)]
    have e : (acc : Int) * 10 + ((c - 48 : Nat) : Int) = ((acc * 10 + (c - 48) : Nat) : Int) := by omega
    rw [e, dv_digits r _ h.tail]
    rfl
theorem rstrip_digits : ∀ (l : List Nat), AllDigits l → rstrip l = l
  | [], _ => rfl
  | c :: r, h => by rw [rstrip_cons_of (.inl (digit_noBlank h.head)), rstrip_digits r h.tail]
theorem core_digits {l : List Nat} (h : AllDigits l) (hne : l ≠ []) : wholeCore l = some ((digitsVal l : Nat) : Int) := by
  have e : digitsValue l 10 = some ((digitsVal l : Nat) : Int) := by
    unfold digitsValue
    rw [if_neg hne]
    exact dv_digits l 0 h
  unfold wholeCore
  split
  · rename_i m d r
    have hm : 48 ≤ m ∧ m ≤ 57 := h m (.tail _ (.head _))
    have hb : ¬ 0 < baseOf m := by
      unfold baseOf
      (repeat' split) <;> omega
    rw [if_neg hb]; exact e
  · exact e
theorem whole_digits {l : List Nat} (h : AllDigits l) (hne : l ≠ []) : wholeOf l = some ((digitsVal l : Nat) : Int) := by
  unfold wholeOf
  cases l with
  | nil => exact absurd rfl hne
  | cons c r =>
    have hc := h.head
    have e1 : lstrip (c :: r) = c :: r := by simp [lstrip, List.dropWhile, digit_noBlank hc]
    rw [e1, rstrip_digits _ h, signed_other (by omega) (by omega), core_digits h hne]
theorem whole_minus {l : List Nat} (h : AllDigits l) (hne : l ≠ []) : wholeOf (45 :: l) = some (-((digitsVal l : Nat) : Int)) := by
  unfold wholeOf
  have e1 : lstrip (45 :: l) = 45 :: l := by simp [lstrip, List.dropWhile, show blankC 45 = false by rfl]
  rw [e1, rstrip_cons_of (.inl (by rfl)), rstrip_digits _ h]
  show (wholeCore l).map (fun v => -v) = _
  rw [core_digits h hne]; rfl
theorem dec_digits (m : Nat) : AllDigits ((Nat.toDigits 10 m).map Char.toNat) := by
  intro c hc
  obtain ⟨ch, hch, e⟩ := List.mem_map.mp hc
  have r := digit_range (Nat.isDigit_of_mem_toDigits (by decide) (by decide) hch)
  rw [← e]
  exact r
theorem dec_ne (m : Nat) : (Nat.toDigits 10 m).map Char.toNat ≠ [] := by
  intro e
  have h := toDigits_len_ge 10 m
  rw [List.map_eq_nil_iff.mp e] at h
  exact absurd h (by decide)
theorem whole_num (n : Int) : wholeOf (Str.ofString (toString n)).cps.toList = some n := by
  cases n with
  | ofNat m =>
    show wholeOf (Str.ofString (toString ((m : Nat) : Int))).cps.toList = _
    rw [KIN.signs_num, whole_digits (dec_digits m) (dec_ne m), KIN.val_back]; rfl
  | negSucc m =>
    have e : (Str.ofString (toString (Int.negSucc m))).cps.toList = 45 :: (Nat.toDigits 10 (m + 1)).map Char.toNat := by
      rw [signs_ofString]
      show ("-" ++ Nat.repr (m + 1)).toList.map Char.toNat = _
      rw [String.toList_append, List.map_append, Nat.toList_repr]; rfl
    rw [e, whole_minus (dec_digits _) (dec_ne _), KIN.val_back]; rfl
theorem num_len {n : Int} (h1 : -10 ^ 41 < n) (h2 : n < 10 ^ 41) : (Str.ofString (toString n)).length ≤ 100 := by
  cases n with
  | ofNat m =>
    have := toString_length_le (v := Int.ofNat m) (Int.natCast_nonneg m) (show 0 < 41 by decide) h2
    omega
  | negSucc m =>
    have e : (Str.ofString (toString (Int.negSucc m))).length = (Str.ofString (toString ((m + 1 : Nat) : Int))).length + 1 := by
      rw [← len_list, ← len_list, KIN.signs_num, signs_ofString]
      show (("-" ++ Nat.repr (m + 1)).toList.map Char.toNat).length = _
      rw [String.toList_append, List.map_append, Nat.toList_repr, List.length_append]
      show 1 + _ = _
      omega
    have := toString_length_le (v := ((m + 1 : Nat) : Int)) (Int.natCast_nonneg _) (show 0 < 41 by decide) (by omega)
    omega
end
section
/-! rules of the walk: a text of a written tuple at an open place; a loop over a range with an invariant of the frame -/
section
variable {prog : Program} {w : World} {A : Around} {E : Value → Shared → Prop} {s : Shared} {h₀ : Heap} {L : Addr} {m₀ : Str → Option Value} {news : List (Addr × Obj)}
theorem menu_tup {value slice : PySem.Expr} {l : Addr} {vs : List Value} {i : Int} {u : Tok} {Q : Value → Shared → Prop} (P : Str → Prop) (N : News h₀ L s.heap news) (hm : (l, ({ cls := .type "tuple", data := .seq vs.toArray } : Obj)) ∈ news)
    (h0 : 0 ≤ i) (h1 : i < (vs.length : Int)) (hfit : i < 2 ^ 63) (hv : ∀ v ∈ vs, ∃ x t, v = .str x t ∧ P x) (h : ∀ x t', P x → Q (.str x t') s)
    (hs : subscripted slice false (.ref l) (.int i u) = operate [.ref l, .int i u] (getItem (.ref l) (.int i u)) := by with_unfolding_all rfl) :
    wpAny (model prog w) A (subscriptTail value slice (.ref l) (.int i u)) Q E s := by
  have hlt : i.toNat < vs.length := by omega
  have ht : IsTup s.heap l vs.toArray := ⟨_, (N _ hm).1, rfl, _, rfl⟩
  have hn : i < ((vs.toArray.size : Nat) : Int) := by rw [List.size_toArray]; exact h1
  obtain ⟨x, t', e, p⟩ := hv vs[i.toNat] (List.getElem_mem hlt)
  exact tail_any ht.typeIs slot_tuple_getitem.lookup (getItem_tuple ht (by omega) hfit (seqIndex_of h0 hn) (x := .str x t') (by rw [← e]; simp [hlt]) (h x t' p)) hs
def RgPost (h₀ : Heap) (L : Addr) (J : (Str → Option Value) → Prop) (need : List (Addr × Obj)) (s₁ : Shared) (Q : Flow → Shared → Prop) (f : Flow) (s₂ : Shared) : Prop :=
  match f with
  | .ret v => Q (.ret v) s₂
  | .brk => Q .next s₂
  | _ => ∃ h' tk m' news', s₂ = { s₁ with heap := h', toks := tk } ∧ Fr h₀ L h' m' ∧ News h₀ L h' news' ∧ (∀ p ∈ need, p ∈ news') ∧ J m'
theorem rg_end {J : (Str → Option Value) → Prop} {m' : Str → Option Value} {need news' : List (Addr × Obj)} {s₁ : Shared} {Q : Flow → Shared → Prop} {f : Flow} {h' : Heap} {tk : Nat} (hf : f = .next ∨ f = .cont) (F : Fr h₀ L h' m') (N : News h₀ L h' news') (hn : ∀ p ∈ need, p ∈ news')
    (hj : J m') : RgPost h₀ L J need s₁ Q f { s₁ with heap := h', toks := tk } := by
  rcases hf with rfl | rfl <;> exact ⟨h', tk, m', news', rfl, F, N, hn, hj⟩
theorem range_loop {env : Env} {x : Str} {body : List Stmt} {Q : Flow → Shared → Prop} {r : Addr} {b₀ : Int} {t₀ u₀ v₀ : Tok} {n : Nat} (J : Nat → (Str → Option Value) → Prop)
    (hh : A.handled = none) (hr : IsRange s.heap r 0 b₀ 1 t₀ u₀ v₀) (hsmall : Builtin.Range.small 0 b₀ 1 = true) (hn : Builtin.Range.rangeSize 0 b₀ 1 = (n : Int)) (F : Fr h₀ env.locals s.heap m₀) (N : News h₀ env.locals s.heap news) (hj : J 0 m₀)
    (turn : ∀ (i : Nat) t m₁ h tk own, i < n → J i m₁ → Fr h₀ env.locals h (fun y => if y = x then some (.int (i : Int) t) else m₁ y) → News h₀ env.locals h (news ++ own) →
      wpAny (model prog w) A (execs body env) (RgPost h₀ env.locals (J (i + 1)) (news ++ own) { s with heap := h, toks := tk } Q) E { s with heap := h, toks := tk })
    (done : ∀ m₁ h tk, J n m₁ → Fr h₀ env.locals h m₁ → News h₀ env.locals h news → Q .next { s with heap := h, toks := tk }) :
    wpAny (model prog w) A (pyIter (.ref r)) (fun it s₂ => LoopAtV prog w A h₀ env x body Q E it s₂) E s := by
  refine wpAny_pyIter_range hr hsmall ?_
  have W : Walks prog w A s.heap.objs.size [s.heap.objs.size] [s.heap.objs.size] n (fun i v => i < n ∧ ∃ t, v = .int (0 + i * 1) t)
      (fun i h => IsRangeIter h s.heap.objs.size (0 + (i : Nat) * 1) ((n : Int) - (i : Nat)) 1) := (Walks.range hh _ 0 1 n).bound
  refine loop_invN (fun i m nx => nx = news ∧ J i m) W ?_ ?_ ?_ ?_ (by show IsRangeIter _ _ _ _ _; rw [hn]; simpa using Heap.get?_push_size _ rfl) (F.push _) (fun p hp => ⟨Heap.get?_push_of_some _ (N p hp).1, (N p hp).2⟩) ⟨rfl, hj⟩ ?_ ?_
  · intro hm
    exact absurd F.ns.lt ((List.mem_singleton.mp hm) ▸ Nat.lt_irrefl _)
  · intro b hb
    rw [List.mem_singleton.mp hb]
    exact next_is_new F
  · intro p hp hI
    exact absurd (Heap.lt_size (N p hp).1) ((List.mem_singleton.mp hI) ▸ Nat.lt_irrefl _)
  · intro p hp hI
    exact absurd (Heap.lt_size (N p hp).1) ((List.mem_singleton.mp hI) ▸ Nat.lt_irrefl _)
  · rintro i v m₁ nx h tk own hi ⟨_, t, rfl⟩ _ hoff ⟨rfl, hJ⟩ F₁ N₁
    have e1 : (0 : Int) + (i : Int) * 1 = (i : Int) := by omega
    rw [e1] at F₁
    refine wpAny_mono (turn i t m₁ h tk own hi hJ F₁ N₁) (fun f s₂ p => ?_) fun _ _ e => e
    have fin : (∃ h' tk' m' news', s₂ = { ({ s with heap := h, toks := tk } : Shared) with heap := h', toks := tk' } ∧ Fr h₀ env.locals h' m' ∧ News h₀ env.locals h' news' ∧ (∀ p ∈ nx ++ own, p ∈ news') ∧ J (i + 1) m') →
        InvEndN h₀ env.locals (fun m nx' => nx' = nx ∧ J (i + 1) m) own (nx.map (·.1)) { s with heap := h, toks := tk } s₂ := by
      rintro ⟨h', tk', m', news', e, F', N', hs, hj'⟩
      exact ⟨h', tk', m', news', nx, e, F', N', fun p hp => hs p (List.mem_append_left _ hp), fun p hp => hs p (List.mem_append_right _ hp), rfl, rfl, hj'⟩
    cases f with
    | ret v => exact p
    | brk => exact p
    | next => exact fin p
    | cont => exact fin p
  · rintro m₁ nx h tk ⟨rfl, hJ⟩ F₁ N₁
    exact done m₁ h tk hJ F₁ N₁
end
/-- the frame's map holds ps -/
inductive Keeps (ps : List (Str × Value)) (m : Str → Option Value) : Prop
  | mk (u : Str → Option Value) (e : m = kstB u ps)
theorem Keeps.of {ps : List (Str × Value)} {m : Str → Option Value} (hk : ∀ p ∈ ps, m p.1 = some p.2) : Keeps ps m := ⟨m, funext fun y => (kstB_eq hk fun _ => rfl).symm⟩
theorem lt5 {a : Int} {i : Nat} (h : i < (a.fmod 5 - 0).toNat) : i < 5 := by
  have := Int.fmod_lt_of_pos a (show (0 : Int) < 5 by decide)
  omega
theorem le5 (a : Int) : (a.fmod 5 - 0).toNat ≤ 5 := by
  have := Int.fmod_lt_of_pos a (show (0 : Int) < 5 by decide)
  omega
theorem pow_small {b : Int} {i : Nat} (hb : b = 2 ∨ b = 4) (hi : i ≤ 5) : b ^ ((i : Int).toNat) ≠ 0 ∧ (b ^ ((i : Int).toNat)).natAbs < 1073741824 := by
  have h : i = 0 ∨ i = 1 ∨ i = 2 ∨ i = 3 ∨ i = 4 ∨ i = 5 := by omega
  rcases hb with rfl | rfl <;> rcases h with rfl | rfl | rfl | rfl | rfl | rfl <;> decide
theorem fdiv_pow {prog : Program} {w : World} {A : Around} {E : Value → Shared → Prop} {s : Shared} {a b : Int} {i : Nat} {t u : Tok} {Q : Value → Shared → Prop} (hb : b = 2 ∨ b = 4) (hi : i ≤ 5) (h : Q (.int (a.fdiv (b ^ ((i : Int).toNat))) s.toks) { s with toks := s.toks + 1 }) :
    wpAny (model prog w) A (binaryOp .FloorDiv (.int a t) (.int (b ^ ((i : Int).toNat)) u)) Q E s :=
  floordiv_int (pow_small hb hi).1 h (Or.inl (PyProof.noPylong_small (pow_small hb hi).2))
/-- the walk halts here -/
def Stop (P : Prop) : Prop := P
theorem stop_ {P : Prop} (h : Stop P) : P := h
section
variable {prog : Program} {w : World} {A : Around} {E : Value → Shared → Prop} {s : Shared} {h₀ : Heap} {L : Addr} {m₀ : Str → Option Value} {news : List (Addr × Obj)}
theorem tuple_loop {env : Env} {x : Str} {body : List Stmt} {Q : Flow → Shared → Prop} {a : Addr} {vs : List Value} (J : Nat → (Str → Option Value) → Prop)
    (hh : A.handled = none) (F : Fr h₀ env.locals s.heap m₀) (N : News h₀ env.locals s.heap ((a, ({ cls := .type "tuple", data := .seq vs.toArray } : Obj)) :: news)) (hoff : ∀ p ∈ news, p.1 < a) (hj : J 0 m₀)
    (turn : ∀ (i : Nat) v m₁ h tk own, vs[i]? = some v → J i m₁ → Fr h₀ env.locals h (fun y => if y = x then some v else m₁ y) → News h₀ env.locals h (news ++ own) →
      wpAny (model prog w) A (execs body env) (RgPost h₀ env.locals (J (i + 1)) (news ++ own) { s with heap := h, toks := tk } Q) E { s with heap := h, toks := tk })
    (done : ∀ m₁ h tk, J vs.length m₁ → Fr h₀ env.locals h m₁ → News h₀ env.locals h news → Q .next { s with heap := h, toks := tk }) :
    wpAny (model prog w) A (pyIter (.ref a)) (fun it s₂ => LoopAtV prog w A h₀ env x body Q E it s₂) E s := by
  have ha := N _ (.head _)
  have Nn : News h₀ env.locals s.heap news := fun p hp => N p (.tail _ hp)
  have ht : s.heap.IsTuple a vs.toArray := ⟨_, ha.1, rfl, _, rfl⟩
  have hlt : a < s.heap.objs.size := Heap.lt_size ha.1
  refine wpAny_pyIter_tuple ht ?_
  have W := Walks.tuple (prog := prog) (w := w) hh s.heap.objs.size a (Nat.ne_of_lt hlt) vs.toArray
  have hsz : vs.toArray.size = vs.length := by simp
  rw [hsz] at W
  refine loop_invN (fun i m nx => nx = news ∧ J i m) W ?_ ?_ ?_ ?_ ⟨⟨_, Heap.get?_push_size _ rfl, rfl, rfl⟩, ⟨_, Heap.get?_push_of_some _ ha.1, rfl, _, rfl⟩⟩ (F.push _) (fun p hp => ⟨Heap.get?_push_of_some _ (Nn p hp).1, (Nn p hp).2⟩) ⟨rfl, hj⟩ ?_ ?_
  · intro hm
    rcases List.mem_cons.mp hm with e | hm
    · exact absurd F.ns.lt (e ▸ Nat.lt_irrefl _)
    · exact ha.2.1 (List.mem_singleton.mp hm).symm
  · intro b hb
    rw [List.mem_singleton.mp hb]
    exact next_is_new F
  · intro p hp hI
    exact absurd (Heap.lt_size (Nn p hp).1) ((List.mem_singleton.mp hI) ▸ Nat.lt_irrefl _)
  · intro p hp hI
    rcases List.mem_cons.mp hI with e | hI
    · exact absurd (Heap.lt_size (Nn p hp).1) (e ▸ Nat.lt_irrefl _)
    · exact absurd (hoff p hp) ((List.mem_singleton.mp hI) ▸ Nat.lt_irrefl _)
  · rintro i v m₁ nx h tk own hi hv _ hoff' ⟨rfl, hJ⟩ F₁ N₁
    refine wpAny_mono (turn i v m₁ h tk own (by simpa using hv) hJ F₁ N₁) (fun f s₂ p => ?_) fun _ _ e => e
    have fin : (∃ h' tk' m' news', s₂ = { ({ s with heap := h, toks := tk } : Shared) with heap := h', toks := tk' } ∧ Fr h₀ env.locals h' m' ∧ News h₀ env.locals h' news' ∧ (∀ p ∈ nx ++ own, p ∈ news') ∧ J (i + 1) m') →
        InvEndN h₀ env.locals (fun m nx' => nx' = nx ∧ J (i + 1) m) own (nx.map (·.1)) { s with heap := h, toks := tk } s₂ := by
      rintro ⟨h', tk', m', news', e, F', N', hs, hj'⟩
      exact ⟨h', tk', m', news', nx, e, F', N', fun p hp => hs p (List.mem_append_left _ hp), fun p hp => hs p (List.mem_append_right _ hp), rfl, rfl, hj'⟩
    cases f with
    | ret v => exact p
    | brk => exact p
    | next => exact fin p
    | cont => exact fin p
  · rintro m₁ nx h tk ⟨rfl, hJ⟩ F₁ N₁
    exact done m₁ h tk hJ F₁ N₁
end
end
section
theorem eq_str (c d : Nat) (s : String) (h : Str.ofString s = ⟨#[d]⟩) : (Str.ofString s == (⟨#[c]⟩ : Str)) = (c == d) := by
  rw [h, Bool.eq_iff_iff]
  simp only [beq_iff_eq, Str.mk.injEq]
  constructor
  · intro q; cases q; rfl
  · intro q; rw [q]
theorem blank_any (c : Nat) : ([Str.ofString " ", Str.ofString "\t", Str.ofString "\n", Str.ofString "\x0b", Str.ofString "\x0c", Str.ofString "\x0d"].any fun x => x == (⟨#[c]⟩ : Str)) = blankC c := by
  simp only [List.any_cons, List.any_nil, Bool.or_false]
  rw [eq_str c 32 " " (by decide), eq_str c 9 "\t" (by decide), eq_str c 10 "\n" (by decide), eq_str c 11 "\x0b" (by decide), eq_str c 12 "\x0c" (by decide), eq_str c 13 "\x0d" (by decide)]
  unfold blankC
  simp only [Bool.or_assoc]
theorem is_blank_meets (w : World) (c : Nat) (t : Tok) : Meets w 2 52 [.str ⟨#[c]⟩ t] (BoolIs (blankC c)) := by
  w_top off
  k_with_none
  k_with "call ref" => ((k_here; (with_reducible show wpAny _ _ (call (Value.ref 59) _) _ _ _); ktn_end (digit_meets _ _ _); rename_i O9; cases O9))
  ((unfold Meets; intro prog mean mg mb dp un gd cn cs a ccd cl outer A₀ base h₀ L m news s Q E B F X N T hk hdp hun hret; refine wpAny_call ?_; (k_dflt cell_enter)))
  k_steps
  all_goals (cb_end hret; exact .of (blank_any c))
theorem dig_a {c : Nat} (h1 : (48 : Int) ≤ c) (h2 : (c : Int) ≤ 57) : (c : Int) - 48 = digitC c := by
  have a : 48 ≤ c := Int.ofNat_le.mp h1
  have b : c ≤ 57 := Int.ofNat_le.mp h2
  unfold digitC
  rw [if_pos ⟨a, b⟩]
theorem dig_b {c : Nat} (h0 : ¬(48 : Int) ≤ c ∨ ¬(c : Int) ≤ 57) (h1 : (97 : Int) ≤ c) (h2 : (c : Int) ≤ 122) : (c : Int) - 87 = digitC c := by
  have a : 97 ≤ c := Int.ofNat_le.mp h1
  have b : c ≤ 122 := Int.ofNat_le.mp h2
  unfold digitC
  rw [if_neg (fun q => h0.elim (fun n => n (Int.ofNat_le.mpr q.1)) (fun n => n (Int.ofNat_le.mpr q.2))), if_pos ⟨a, b⟩]
theorem dig_c {c : Nat} (h0 : ¬(48 : Int) ≤ c ∨ ¬(c : Int) ≤ 57) (h3 : ¬(97 : Int) ≤ c ∨ ¬(c : Int) ≤ 122) (h1 : (65 : Int) ≤ c) (h2 : (c : Int) ≤ 90) : (c : Int) - 55 = digitC c := by
  have a : 65 ≤ c := Int.ofNat_le.mp h1
  have b : c ≤ 90 := Int.ofNat_le.mp h2
  unfold digitC
  rw [if_neg (fun q => h0.elim (fun n => n (Int.ofNat_le.mpr q.1)) (fun n => n (Int.ofNat_le.mpr q.2))), if_neg (fun q => h3.elim (fun n => n (Int.ofNat_le.mpr q.1)) (fun n => n (Int.ofNat_le.mpr q.2))), if_pos ⟨a, b⟩]
theorem dig_no {c : Nat} (h0 : ¬(48 : Int) ≤ c ∨ ¬(c : Int) ≤ 57) (h3 : ¬(97 : Int) ≤ c ∨ ¬(c : Int) ≤ 122) (h4 : ¬(65 : Int) ≤ c ∨ ¬(c : Int) ≤ 90) : -1 = digitC c := by
  unfold digitC
  rw [if_neg (fun q => h0.elim (fun n => n (Int.ofNat_le.mpr q.1)) (fun n => n (Int.ofNat_le.mpr q.2))), if_neg (fun q => h3.elim (fun n => n (Int.ofNat_le.mpr q.1)) (fun n => n (Int.ofNat_le.mpr q.2))), if_neg (fun q => h4.elim (fun n => n (Int.ofNat_le.mpr q.1)) (fun n => n (Int.ofNat_le.mpr q.2)))]
theorem digit_meets (w : World) (c : Nat) (t : Tok) : Meets w 2 59 [.str ⟨#[c]⟩ t] (IntIs (digitC c)) := by
  w_top off
  k_with_none
  k_with "call ref" => ((k_here; (with_reducible show wpAny _ _ (call (Value.ref 59) _) _ _ _); ktn_end (digit_meets _ _ _); rename_i O9; cases O9))
  ((unfold Meets; intro prog mean mg mb dp un gd cn cs a ccd cl outer A₀ base h₀ L m news s Q E B F X N T hk hdp hun hret; refine wpAny_call ?_; (k_dflt cell_enter)))
  k_steps
  all_goals (cb_end hret; refine .of ?_)
  all_goals first
    | exact dig_a (by assumption) (by assumption)
    | exact dig_b (by first | exact .inl (by assumption) | exact .inr (by assumption)) (by assumption) (by assumption)
    | exact dig_c (by first | exact .inl (by assumption) | exact .inr (by assumption)) (by first | exact .inl (by assumption) | exact .inr (by assumption)) (by assumption) (by assumption)
    | exact dig_no (by first | exact .inl (by assumption) | exact .inr (by assumption) | exact .inl (by omega)) (by first | exact .inl (by assumption) | exact .inr (by assumption) | exact .inl (by omega)) (by first | exact .inl (by assumption) | exact .inr (by assumption) | exact .inr (by omega) | exact .inl (by omega))


theorem two_any (c d d' : Nat) (s s' : String) (h : Str.ofString s = ⟨#[d]⟩) (h' : Str.ofString s' = ⟨#[d']⟩) : ([Str.ofString s, Str.ofString s'].any fun x => x == (⟨#[c]⟩ : Str)) = (c == d || c == d') := by
  simp only [List.any_cons, List.any_nil, Bool.or_false, eq_str c d s h, eq_str c d' s' h']
theorem any_yes {c d d' : Nat} {s s' : String} (e : ([Str.ofString s, Str.ofString s'].any fun x => x == (⟨#[c]⟩ : Str)) = true) (h : Str.ofString s = ⟨#[d]⟩) (h' : Str.ofString s' = ⟨#[d']⟩) : c = d ∨ c = d' := by
  rw [two_any c d d' s s' h h'] at e
  simpa using e
theorem any_not {c d d' : Nat} {s s' : String} (e : ([Str.ofString s, Str.ofString s'].any fun x => x == (⟨#[c]⟩ : Str)) = false) (h : Str.ofString s = ⟨#[d]⟩) (h' : Str.ofString s' = ⟨#[d']⟩) : ¬(c = d ∨ c = d') := by
  rw [two_any c d d' s s' h h'] at e
  simpa using e
abbrev IsX (c : Nat) (b : Bool) : Prop := ([Str.ofString "x", Str.ofString "X"].any fun x => x == (⟨#[c]⟩ : Str)) = b
abbrev IsO (c : Nat) (b : Bool) : Prop := ([Str.ofString "o", Str.ofString "O"].any fun x => x == (⟨#[c]⟩ : Str)) = b
abbrev IsB (c : Nat) (b : Bool) : Prop := ([Str.ofString "b", Str.ofString "B"].any fun x => x == (⟨#[c]⟩ : Str)) = b
abbrev IsD (c : Nat) (b : Bool) : Prop := ([Str.ofString "d", Str.ofString "D"].any fun x => x == (⟨#[c]⟩ : Str)) = b
theorem base_x {c : Nat} (h : IsX c true) : 16 = baseOf c := by
  unfold baseOf
  rw [if_pos (any_yes h (by decide) (by decide))]
theorem base_o {c : Nat} (h : IsX c false) (h1 : IsO c true) : 8 = baseOf c := by
  unfold baseOf
  rw [if_neg (any_not h (by decide) (by decide)), if_pos (any_yes h1 (by decide) (by decide))]
theorem base_b {c : Nat} (h : IsX c false) (h1 : IsO c false) (h2 : IsB c true) : 2 = baseOf c := by
  unfold baseOf
  rw [if_neg (any_not h (by decide) (by decide)), if_neg (any_not h1 (by decide) (by decide)), if_pos (any_yes h2 (by decide) (by decide))]
theorem base_d {c : Nat} (h : IsX c false) (h1 : IsO c false) (h2 : IsB c false) (h3 : IsD c true) : 10 = baseOf c := by
  unfold baseOf
  rw [if_neg (any_not h (by decide) (by decide)), if_neg (any_not h1 (by decide) (by decide)), if_neg (any_not h2 (by decide) (by decide)), if_pos (any_yes h3 (by decide) (by decide))]
theorem base_n {c : Nat} (h : IsX c false) (h1 : IsO c false) (h2 : IsB c false) (h3 : IsD c false) : 0 = baseOf c := by
  unfold baseOf
  rw [if_neg (any_not h (by decide) (by decide)), if_neg (any_not h1 (by decide) (by decide)), if_neg (any_not h2 (by decide) (by decide)), if_neg (any_not h3 (by decide) (by decide))]
theorem base_of_meets (w : World) (c : Nat) (t : Tok) : Meets w 2 73 [.str ⟨#[c]⟩ t] (IntIs (baseOf c)) := by
  w_top off
  k_with_none
  k_with "call ref" => ((k_here; (with_reducible show wpAny _ _ (call (Value.ref 59) _) _ _ _); ktn_end (digit_meets _ _ _); rename_i O9; cases O9))
  ((unfold Meets; intro prog mean mg mb dp un gd cn cs a ccd cl outer A₀ base h₀ L m news s Q E B F X N T hk hdp hun hret; refine wpAny_call ?_; (k_dflt cell_enter)))
  k_steps
  all_goals (
    cb_end hret
    refine .of ?_)
  all_goals first
    | exact base_x (by assumption)
    | exact base_o (by assumption) (by assumption)
    | exact base_b (by assumption) (by assumption) (by assumption)
    | exact base_d (by assumption) (by assumption) (by assumption) (by assumption)
    | exact base_n (by assumption) (by assumption) (by assumption) (by assumption)
theorem toNats (x : Str) : (KStt.codes x).map Int.toNat = x.cps.toList := by
  unfold KStt.codes
  rw [List.map_map]
  exact List.map_id'' (fun n => by simp) _
theorem nats_split {x : Str} {pre post : List Int} {n : Nat} (h : KStt.codes x = pre ++ (n : Int) :: post) : x.cps.toList = pre.map Int.toNat ++ n :: post.map Int.toNat := by
  rw [← toNats, h]; simp
theorem nats_snoc (pre : List Int) (n : Nat) : (pre ++ [(n : Int)]).map Int.toNat = pre.map Int.toNat ++ [n] := by simp
theorem dv_append (b : Int) : ∀ (l r : List Nat) (acc : Int), dv b acc (l ++ r) = (dv b acc l).bind fun v => dv b v r
  | [], _, _ => rfl
  | c :: l, r, acc => by
    simp only [List.cons_append, dv]
    split
    · rfl
    · exact dv_append b l r _
theorem dv_nil (b : Int) : dv b 0 (List.map Int.toNat []) = some 0 := rfl
theorem dv_snoc {b v : Int} {pre : List Int} {n : Nat} (h : dv b 0 (pre.map Int.toNat) = some v) (h1 : 0 ≤ digitC n) (h2 : digitC n < b) : dv b 0 ((pre ++ [(n : Int)]).map Int.toNat) = some (v * b + digitC n) := by
  rw [nats_snoc, dv_append, h]
  simp only [Option.bind_some, dv]
  rw [if_neg (by omega)]
theorem dv_fail {x : Str} {b v : Int} {pre post : List Int} {n : Nat} (e : KStt.codes x = pre ++ (n : Int) :: post) (h : dv b 0 (pre.map Int.toNat) = some v) (h1 : digitC n < 0 ∨ b ≤ digitC n) : digitsValue x.cps.toList b = none := by
  unfold digitsValue
  rw [nats_split e, if_neg (by simp), dv_append, h]
  simp only [Option.bind_some, dv]
  rw [if_pos h1]
theorem dv_all {x : Str} {b v : Int} (hx : (x == Str.ofString "") = false) (h : dv b 0 ((KStt.codes x).map Int.toNat) = some v) : digitsValue x.cps.toList b = some v := by
  rw [toNats] at h
  unfold digitsValue
  rw [if_neg, h]
  intro q
  have : x = Str.ofString "" := by
    obtain ⟨⟨l⟩⟩ := x
    have q' : l = [] := q
    rw [q']; rfl
  rw [this] at hx; simp at hx
theorem dv_empty {x : Str} {b : Int} (hx : (x == Str.ofString "") = true) : digitsValue x.cps.toList b = none := by
  rw [eq_of_beq hx]; rfl
section

theorem digits_value_meets (w : World) (x : Str) (b : Int) (t u : Tok) (h1 : 1 ≤ b) (h2 : b ≤ 36) : Meets w 4 66 [.str x t, .int b u] (OptIs (digitsValue x.cps.toList b)) := by
  w_top off
  k_with_none
  k_with "call ref" => ((k_here; (with_reducible show wpAny _ _ (call (Value.ref 59) _) _ _ _); ktn_end (digit_meets _ _ _); rename_i O9; cases O9))
  ((unfold Meets; intro prog mean mg mb dp un gd cn cs a ccd cl outer A₀ base h₀ L m news s Q E B F X N T hk hdp hun hret; refine wpAny_call ?_; (k_dflt cell_enter)))
  k_with_none
  k_with "call ref" => ((k_here; (with_reducible show wpAny _ _ (call (Value.ref 59) _) _ _ _); ktn_end (digit_meets _ _ _); rename_i O9; cases O9))
  k_with "pyIter str" => k_state (fun pre v => dv b 0 (pre.map Int.toNat) = some v) "value"
  k_with "state" => first | exact dv_nil _ | (refine dv_snoc (by assumption) ?_ ?_ <;> omega)
  k_steps
  k_with_none
  k_with "call ref" => ((k_here; (with_reducible show wpAny _ _ (call (Value.ref 59) _) _ _ _); ktn_end (digit_meets _ _ _); rename_i O9; cases O9))
  all_goals (cb_end hret)
  all_goals first
    | exact .ofN (dv_empty (by assumption))
    | exact .ofS (dv_all (by assumption) (by assumption))
    | exact .ofN (dv_fail (by assumption) (by assumption) (by omega))
end
end
section
theorem blanks_up {x : Str} {f : Int} (h : ∀ j, 0 ≤ j → j < f → blankC (cp x j) = true) (hf : blankC ((Txt.charAt x f).getD 0) = true) : ∀ j, 0 ≤ j → j < f + 1 → blankC (cp x j) = true := by
  intro j h1 h2
  by_cases q : j = f
  · subst q; exact hf
  · exact h j h1 (by omega)
theorem blanks_down {x : Str} {b : Int} (h : ∀ j, b ≤ j → j < x.length → blankC (cp x j) = true) (hf : blankC ((Txt.charAt x (b - 1)).getD 0) = true) : ∀ j, b - 1 ≤ j → j < x.length → blankC (cp x j) = true := by
  intro j h1 h2
  by_cases q : j = b - 1
  · subst q; exact hf
  · exact h j (by omega) h2
theorem item_eq (x : Str) (f : Int) (d : Nat) (s : String) (h : Str.ofString s = ⟨#[d]⟩) : (Txt.item x f == Str.ofString s) = (cp x f == d) := by
  rw [h, item_is, Bool.eq_iff_iff]
  simp only [beq_iff_eq, Str.mk.injEq]
  constructor
  · intro q; cases q; rfl
  · intro q; rw [q]
theorem sign_yes {x : Str} {f b : Int} (h0 : 0 ≤ f) (h1 : f < b) (h2 : b ≤ x.length) (h : ([Str.ofString "+", Str.ofString "-"].any fun y => y == Txt.item x f) = true) :
    wholeSigned (sl x f b) = if (Txt.item x f == Str.ofString "-") = true then (wholeCore (sl x (f + 1) b)).map (fun v => -v) else wholeCore (sl x (f + 1) b) := by
  rw [item_is, two_any (cp x f) 43 45 "+" "-" (by decide) (by decide)] at h
  rw [item_eq x f 45 "-" (by decide)]
  simp only [Bool.or_eq_true, beq_iff_eq] at h
  by_cases q : cp x f = 45
  · rw [if_pos (by simp [q]), signed_minus h0 h1 h2 q]
  · rw [if_neg (by simp [q]), signed_plus h0 h1 h2 (by omega)]
theorem sign_no {x : Str} {f b : Int} (h0 : 0 ≤ f) (h2 : b ≤ x.length) (h : ([Str.ofString "+", Str.ofString "-"].any fun y => y == Txt.item x f) = false ∨ ¬ f < b) :
    wholeSigned (sl x f b) = if false = true then (wholeCore (sl x f b)).map (fun v => -v) else wholeCore (sl x f b) := by
  rw [if_neg (by simp)]
  refine signed_none h0 h2 fun q => ?_
  rcases h with h | h
  · rw [item_is, two_any (cp x f) 43 45 "+" "-" (by decide) (by decide)] at h
    simp only [Bool.or_eq_false_iff, beq_eq_false_iff_ne, ne_eq] at h
    exact ⟨h.2, h.1⟩
  · exact absurd q h
structure BaseSaid (x : Str) (f b B : Int) : Prop where
  small : B ≤ 16
  room : 0 < B → 2 < b - f
  yes : 0 < B → wholeCore (sl x f b) = digitsValue (sl x (f + 2) b) B
  no : ¬ 0 < B → wholeCore (sl x f b) = digitsValue (sl x f b) 10
theorem base_le (c : Nat) : baseOf c ≤ 16 := by unfold baseOf; (repeat' split) <;> omega
theorem base_yes {x : Str} {f b : Int} (h0 : 0 ≤ f) (h2 : b ≤ x.length) (h1 : 2 < b - f) (h : (Txt.item x f == Str.ofString "0") = true) : BaseSaid x f b (baseOf (cp x (f + 1))) := by
  rw [item_eq x f 48 "0" (by decide), beq_iff_eq] at h
  exact ⟨base_le _, fun _ => h1, fun q => core_based h0 h1 h2 h q, fun q => core_plain h0 h2 fun _ _ => q⟩
theorem base_no1 {x : Str} {f b : Int} (h0 : 0 ≤ f) (h2 : b ≤ x.length) (h : (Txt.item x f == Str.ofString "0") = false) : BaseSaid x f b 0 := by
  rw [item_eq x f 48 "0" (by decide), beq_eq_false_iff_ne] at h
  exact ⟨by omega, fun q => absurd q (by omega), fun q => absurd q (by omega), fun _ => core_plain h0 h2 fun _ q => absurd q h⟩
theorem base_no2 {x : Str} {f b : Int} (h0 : 0 ≤ f) (h2 : b ≤ x.length) (h : ¬ 2 < b - f) : BaseSaid x f b 0 :=
  ⟨by omega, fun q => absurd q (by omega), fun q => absurd q (by omega), fun _ => core_plain h0 h2 fun q => absurd q h⟩
theorem value_yes {x : Str} {f b B : Int} {v : Value} (hB : BaseSaid x f b B) (h0 : 0 ≤ f) (h2 : b ≤ x.length) (hp : 0 < B) (h : OptIs (digitsValue (Txt.slice x (some (f + 2)) (some b)).cps.toList B) v) : OptIs (wholeCore (sl x f b)) v := by
  have := hB.room hp
  rw [slice_is (by omega) (by omega) h2] at h
  rw [hB.yes hp]; exact h
theorem value_no {x : Str} {f b B : Int} {v : Value} (hB : BaseSaid x f b B) (h0 : 0 ≤ f) (h1 : f ≤ b) (h2 : b ≤ x.length) (hp : ¬ 0 < B) (h : OptIs (digitsValue (Txt.slice x (some f) (some b)).cps.toList 10) v) : OptIs (wholeCore (sl x f b)) v := by
  rw [slice_is h0 h1 h2] at h
  rw [hB.no hp]; exact h
theorem opt_neg {g : Bool} {v : Int} {t : Tok} (h : g = true) : OptIs (if g = true then Option.map (fun v => -v) (some v) else some v) (.int (-v) t) := by
  subst h; exact .some _ _
theorem opt_pos {g : Bool} {v : Int} {t : Tok} (h : g = false) : OptIs (if g = true then Option.map (fun v => -v) (some v) else some v) (.int v t) := by
  subst h; exact .some _ _
section

theorem whole_of_meets (w : World) (x : Str) (t : Tok) (hx : x.length ≤ 100) : Meets w 6 80 [.str x t] (OptIs (wholeOf x.cps.toList)) := by
  w_top off
  k_with_none
  k_with "call ref" => ((k_here; (with_reducible show wpAny _ _ (call (Value.ref 52) _) _ _ _); ktn_end (is_blank_meets _ _ _); rename_i O9; cases O9))
  k_with "call ref" => ((k_here; (with_reducible show wpAny _ _ (call (Value.ref 73) _) _ _ _); ktn_end (base_of_meets _ _ _); rename_i O9; cases O9))
  k_with "call ref" => ((k_here; (with_reducible show wpAny _ _ (call (Value.ref 66) _) _ _ _); ktn_end (digits_value_meets _ _ _ _ _ (by omega) (by omega))))
  ((unfold Meets; intro prog mean mg mb dp un gd cn cs a ccd cl outer A₀ base h₀ L m news s Q E B F X N T hk hdp hun hret; refine wpAny_call ?_; (k_dflt cell_enter)))
  rename_i g1 L1 h1 FG F1 N1 B1 X1 T1
  refine seq_cut (fun s' => ∃ t0 t1, At g1 L1 news s [(Str.ofString "text", .str x t), (Str.ofString "first", .int 0 t0), (Str.ofString "behind", .int x.length t1)] s' ∧ True) ?_ ?_
  · k_steps
    (refine And.intro rfl ?_; (repeat apply Exists.intro); refine And.intro (At.of (by k_asm) (by k_asm) (by kcj_all) (by kst_all)) (by (exact trivial)))
  rintro s' ⟨t0, t1, ⟨u, h', tk', rfl, F, N⟩, -⟩
  dsimp only [kstB] at F
  refine seq_cut (fun s' => ∃ f t0 t1, At g1 L1 news s [(Str.ofString "text", .str x t), (Str.ofString "first", .int f t0), (Str.ofString "behind", .int x.length t1)] s' ∧ (0 ≤ f ∧ f ≤ x.length ∧ (∀ j, 0 ≤ j → j < f → blankC (cp x j) = true) ∧ (f < x.length → blankC (cp x f) = false))) ?_ ?_
  · k_with_none
    k_with "call ref" => ((k_here; (with_reducible show wpAny _ _ (call (Value.ref 52) _) _ _ _); ktn_end (is_blank_meets _ _ _); rename_i O9; cases O9))
    k_with "call ref" => ((k_here; (with_reducible show wpAny _ _ (call (Value.ref 73) _) _ _ _); ktn_end (base_of_meets _ _ _); rename_i O9; cases O9))
    k_with "call ref" => ((k_here; (with_reducible show wpAny _ _ (call (Value.ref 66) _) _ _ _); ktn_end (digits_value_meets _ _ _ _ _ (by omega) (by omega))))
    k_with "state" => first | exact ⟨by omega, by omega, fun j a b => absurd a (by omega)⟩ | exact ⟨by omega, by omega, blanks_up (by assumption) (by assumption)⟩
    k_while (fun _ f => 0 ≤ f ∧ f ≤ x.length ∧ ∀ j, 0 ≤ j → j < f → blankC (cp x j) = true) (fun _ f => (x.length - f).toNat) "first"
    k_steps
    all_goals (refine And.intro rfl ?_; (repeat apply Exists.intro); refine And.intro (At.of (by k_asm) (by k_asm) (by kcj_all) (by kst_all)) (by ((first | exact ⟨by omega, by omega, by assumption, fun _ => by assumption⟩ | exact ⟨by omega, by omega, by assumption, fun q => absurd q (by omega)⟩))))
  rintro s' ⟨f, t0, t1, ⟨u, h', tk', rfl, F, N⟩, hf0, hf1, hf2, hf3⟩
  dsimp only [kstB] at F
  refine seq_cut (fun s' => ∃ f b t0 t1, At g1 L1 news s [(Str.ofString "text", .str x t), (Str.ofString "first", .int f t0), (Str.ofString "behind", .int b t1)] s' ∧ (0 ≤ f ∧ f ≤ b ∧ b ≤ x.length ∧ wholeOf x.cps.toList = wholeSigned (sl x f b))) ?_ ?_
  · k_with_none
    k_with "call ref" => ((k_here; (with_reducible show wpAny _ _ (call (Value.ref 52) _) _ _ _); ktn_end (is_blank_meets _ _ _); rename_i O9; cases O9))
    k_with "call ref" => ((k_here; (with_reducible show wpAny _ _ (call (Value.ref 73) _) _ _ _); ktn_end (base_of_meets _ _ _); rename_i O9; cases O9))
    k_with "call ref" => ((k_here; (with_reducible show wpAny _ _ (call (Value.ref 66) _) _ _ _); ktn_end (digits_value_meets _ _ _ _ _ (by omega) (by omega))))
    k_with "state" => first | exact ⟨hf1, by omega, fun j a b => absurd a (by omega)⟩ | exact ⟨by omega, by omega, blanks_down (by assumption) (by assumption)⟩
    k_while (fun _ b => f ≤ b ∧ b ≤ x.length ∧ ∀ j, b ≤ j → j < x.length → blankC (cp x j) = true) (fun _ b => (b - f).toNat) "behind"
    k_steps
    all_goals (refine And.intro rfl ?_; (repeat apply Exists.intro); refine And.intro (At.of (by k_asm) (by k_asm) (by kcj_all) (by kst_all)) (by ((first | exact ⟨hf0, by omega, by omega, whole_ix hf0 (by omega) (by omega) hf2 hf3 (by assumption) (fun _ => by assumption)⟩ | exact ⟨hf0, by omega, by omega, whole_ix hf0 (by omega) (by omega) hf2 hf3 (by assumption) (fun q => absurd q (by omega))⟩))))
  rintro s' ⟨f, b, t0, t1, ⟨u, h', tk', rfl, F, N⟩, hf0, hf1, hf2, hw⟩
  dsimp only [kstB] at F
  -- is_minus = False
  refine seq_cut (fun s' => At g1 L1 news s [(Str.ofString "text", .str x t), (Str.ofString "first", .int f t0), (Str.ofString "behind", .int b t1), (Str.ofString "is_minus", .bool false)] s' ∧ True) ?_ ?_
  · k_with_none
    k_with "call ref" => ((k_here; (with_reducible show wpAny _ _ (call (Value.ref 52) _) _ _ _); ktn_end (is_blank_meets _ _ _); rename_i O9; cases O9))
    k_with "call ref" => ((k_here; (with_reducible show wpAny _ _ (call (Value.ref 73) _) _ _ _); ktn_end (base_of_meets _ _ _); rename_i O9; cases O9))
    k_with "call ref" => ((k_here; (with_reducible show wpAny _ _ (call (Value.ref 66) _) _ _ _); ktn_end (digits_value_meets _ _ _ _ _ (by omega) (by omega))))
    k_steps
    all_goals (refine And.intro rfl ?_; (repeat apply Exists.intro); refine And.intro (At.of (by k_asm) (by k_asm) (by kcj_all) (by kst_all)) (by (exact trivial)))
  rintro s' ⟨⟨u, h', tk', rfl, F, N⟩, -⟩
  dsimp only [kstB] at F
  -- the sign
  refine seq_cut (fun s' => ∃ f g t0, At g1 L1 news s [(Str.ofString "text", .str x t), (Str.ofString "first", .int f t0), (Str.ofString "behind", .int b t1), (Str.ofString "is_minus", .bool g)] s' ∧ (0 ≤ f ∧ f ≤ b ∧ wholeOf x.cps.toList = if g = true then (wholeCore (sl x f b)).map (fun v => -v) else wholeCore (sl x f b))) ?_ ?_
  · k_with_none
    k_with "call ref" => ((k_here; (with_reducible show wpAny _ _ (call (Value.ref 52) _) _ _ _); ktn_end (is_blank_meets _ _ _); rename_i O9; cases O9))
    k_with "call ref" => ((k_here; (with_reducible show wpAny _ _ (call (Value.ref 73) _) _ _ _); ktn_end (base_of_meets _ _ _); rename_i O9; cases O9))
    k_with "call ref" => ((k_here; (with_reducible show wpAny _ _ (call (Value.ref 66) _) _ _ _); ktn_end (digits_value_meets _ _ _ _ _ (by omega) (by omega))))
    k_steps
    all_goals (refine And.intro rfl ?_; (repeat apply Exists.intro); refine And.intro (At.of (by k_asm) (by k_asm) (by kcj_all) (by kst_all)) (by ((first | exact ⟨by omega, by omega, hw.trans (sign_yes hf0 (by omega) hf2 (by assumption))⟩ | exact ⟨by omega, by omega, hw.trans (sign_no hf0 hf2 (.inl (by assumption)))⟩ | exact ⟨by omega, by omega, hw.trans (sign_no hf0 hf2 (.inr (by omega)))⟩))))
  rintro s' ⟨f, g, t0, ⟨u, h', tk', rfl, F, N⟩, hf0, hf1, hw⟩
  dsimp only [kstB] at F
  -- base = 0
  refine seq_cut (fun s' => ∃ t2, At g1 L1 news s [(Str.ofString "text", .str x t), (Str.ofString "first", .int f t0), (Str.ofString "behind", .int b t1), (Str.ofString "is_minus", .bool g), (Str.ofString "base", .int 0 t2)] s' ∧ True) ?_ ?_
  · k_with_none
    k_with "call ref" => ((k_here; (with_reducible show wpAny _ _ (call (Value.ref 52) _) _ _ _); ktn_end (is_blank_meets _ _ _); rename_i O9; cases O9))
    k_with "call ref" => ((k_here; (with_reducible show wpAny _ _ (call (Value.ref 73) _) _ _ _); ktn_end (base_of_meets _ _ _); rename_i O9; cases O9))
    k_with "call ref" => ((k_here; (with_reducible show wpAny _ _ (call (Value.ref 66) _) _ _ _); ktn_end (digits_value_meets _ _ _ _ _ (by omega) (by omega))))
    k_steps
    all_goals (refine And.intro rfl ?_; (repeat apply Exists.intro); refine And.intro (At.of (by k_asm) (by k_asm) (by kcj_all) (by kst_all)) (by (exact trivial)))
  rintro s' ⟨t2, ⟨u, h', tk', rfl, F, N⟩, -⟩
  dsimp only [kstB] at F
  -- the mark of a base
  refine seq_cut (fun s' => ∃ B t2, At g1 L1 news s [(Str.ofString "text", .str x t), (Str.ofString "first", .int f t0), (Str.ofString "behind", .int b t1), (Str.ofString "is_minus", .bool g), (Str.ofString "base", .int B t2)] s' ∧ (BaseSaid x f b B)) ?_ ?_
  · k_with_none
    k_with "call ref" => ((k_here; (with_reducible show wpAny _ _ (call (Value.ref 52) _) _ _ _); ktn_end (is_blank_meets _ _ _); rename_i O9; cases O9))
    k_with "call ref" => ((k_here; (with_reducible show wpAny _ _ (call (Value.ref 73) _) _ _ _); ktn_end (base_of_meets _ _ _); rename_i O9; cases O9))
    k_with "call ref" => ((k_here; (with_reducible show wpAny _ _ (call (Value.ref 66) _) _ _ _); ktn_end (digits_value_meets _ _ _ _ _ (by omega) (by omega))))
    k_steps
    all_goals (refine And.intro rfl ?_; (repeat apply Exists.intro); refine And.intro (At.of (by k_asm) (by k_asm) (by kcj_all) (by kst_all)) (by ((first | exact base_yes hf0 hf2 (by omega) (by assumption) | exact base_no1 hf0 hf2 (by assumption) | exact base_no2 hf0 hf2 (by omega)))))
  rintro s' ⟨B, t2, ⟨u, h', tk', rfl, F, N⟩, hB⟩
  dsimp only [kstB] at F
  -- the value
  refine seq_cut (fun s' => ∃ v, At g1 L1 news s [(Str.ofString "text", .str x t), (Str.ofString "is_minus", .bool g), (Str.ofString "value", v)] s' ∧ (OptIs (wholeCore (sl x f b)) v)) ?_ ?_
  · k_with_none
    k_with "call ref" => ((k_here; (with_reducible show wpAny _ _ (call (Value.ref 52) _) _ _ _); ktn_end (is_blank_meets _ _ _); rename_i O9; cases O9))
    k_with "call ref" => ((k_here; (with_reducible show wpAny _ _ (call (Value.ref 73) _) _ _ _); ktn_end (base_of_meets _ _ _); rename_i O9; cases O9))
    k_with "call ref" => ((k_here; (with_reducible show wpAny _ _ (call (Value.ref 66) _) _ _ _); ktn_end (digits_value_meets _ _ _ _ _ (by omega) (by omega))))
    have hB0 := hB.small
    have hB1 := hB.room
    k_steps
    all_goals (refine And.intro rfl ?_; (repeat apply Exists.intro); refine And.intro (At.of (by k_asm) (by k_asm) (by kcj_all) (by kst_all)) (by ((first | exact value_yes hB hf0 hf2 (by assumption) (by assumption) | exact value_no hB hf0 hf1 hf2 (by assumption) (by assumption)))))
  rintro s' ⟨v, ⟨u, h', tk', rfl, F, N⟩, hv⟩
  dsimp only [kstB] at F
  rcases OptIs.split hv with ⟨ho, rfl⟩ | ⟨v, t9, ho, rfl⟩
  · k_with_none
    k_with "call ref" => ((k_here; (with_reducible show wpAny _ _ (call (Value.ref 52) _) _ _ _); ktn_end (is_blank_meets _ _ _); rename_i O9; cases O9))
    k_with "call ref" => ((k_here; (with_reducible show wpAny _ _ (call (Value.ref 73) _) _ _ _); ktn_end (base_of_meets _ _ _); rename_i O9; cases O9))
    k_with "call ref" => ((k_here; (with_reducible show wpAny _ _ (call (Value.ref 66) _) _ _ _); ktn_end (digits_value_meets _ _ _ _ _ (by omega) (by omega))))
    k_steps
    cb_end hret
    rw [hw, ho]
    cases g <;> exact .none
  · k_with_none
    k_with "call ref" => ((k_here; (with_reducible show wpAny _ _ (call (Value.ref 52) _) _ _ _); ktn_end (is_blank_meets _ _ _); rename_i O9; cases O9))
    k_with "call ref" => ((k_here; (with_reducible show wpAny _ _ (call (Value.ref 73) _) _ _ _); ktn_end (base_of_meets _ _ _); rename_i O9; cases O9))
    k_with "call ref" => ((k_here; (with_reducible show wpAny _ _ (call (Value.ref 66) _) _ _ _); ktn_end (digits_value_meets _ _ _ _ _ (by omega) (by omega))))
    k_steps
    all_goals (cb_end hret; rw [hw, ho]; first | exact opt_neg (by assumption) | exact opt_pos (by assumption))
end
end
section
theorem news_cons {h₀ h : Heap} {L : Addr} {p : Addr × Obj} {news : List (Addr × Obj)} (N : News h₀ L h news) (hp : p ∈ news) : News h₀ L h (p :: news) := fun q hq => (List.mem_cons.mp hq).elim (fun e => by rw [e]; exact N p hp) fun e => N q e
theorem getD_small {fs : List Int} (h : ∀ f ∈ fs, 0 ≤ f ∧ f ≤ 36) (k : Nat) : 0 ≤ fs.getD k 0 ∧ fs.getD k 0 ≤ 36 := by
  by_cases q : k < fs.length
  · rw [getD_at q]; exact h _ (List.getElem_mem q)
  · rw [List.getD_eq_getElem?_getD, List.getElem?_eq_none (by omega)]; simp
theorem mul_small {fs : List Int} (h : ∀ f ∈ fs, 0 ≤ f ∧ f ≤ 36) (k : Nat) (x : Int) : IntMulOk (fs.getD k 0) x := by
  have := getD_small h k
  exact IntMulOk.of_left (PySem.intBits_le_64 (by omega) (by omega))
theorem worth_step {b v k : Int} {fs pre : List Int} {n : Nat} (e : k = 0 + (pre.length : Int)) (h : v = wsum b fs pre.length) (hn : n = fs.length - 1 - pre.length) : v + fs.getD k.toNat 0 * b ^ n = wsum b fs (pre ++ [k]).length := by
  subst hn e
  rw [List.length_append, List.length_singleton, wsum, h, show (0 + (pre.length : Int)).toNat = pre.length by omega]
theorem worth_end {b v : Int} {fs : List Int} {n : Int} (h : v = wsum b fs (rangeKs 0 ((fs.length : Int) - n).toNat).length) (hn : n = 0 := by rfl) : v = horner b fs := by
  subst hn
  rw [h, rangeKs_length, show ((fs.length : Int) - 0).toNat = fs.length by omega, wsum_all]
section
theorem law_worth_meets (w : World) (l : Addr) (vs : List Value) (fs : List Int) (nn : Nat) (b : Int) (t : Tok) (hi : IntsAre vs fs) (hlen : fs.length ≤ 100) (hb0 : 1 ≤ b) (hb : b ≤ 36) (hfs : ∀ f ∈ fs, 0 ≤ f ∧ f ≤ 36) :
    MeetsG w 4 157 [.ref l, .int b t] (fun _ news => (l, listOf vs.toArray nn) ∈ news) (fun tl r => tl = [] ∧ IntIs (horner b fs) r) := by
  w_top off
  k_with_none
  k_with "binaryOp Mult int int" => ((with_reducible refine mul_int ?_ (mul_small hfs _ _)))
  ((unfold MeetsG; intro prog mean mg mb dp un gd cn cs a ccd cl outer A₀ base h₀ L m news s Q E B F X N T hk hdp hun hpre hret; refine wpAny_call ?_; (k_dflt cell_enter)))
  rename_i g1 L1 h1 FG F1 N1 B1 X1 T1
  replace N1 := news_cons N1 hpre
  k_with_none
  k_with "binaryOp Mult int int" => ((with_reducible refine mul_int ?_ (mul_small hfs _ _)))
  k_with "pyIter ref" => k_state (fun pre v => v = wsum b fs pre.length) "total"
  k_with "state" => first | exact rfl | exact worth_step (by assumption) (by assumption) (by omega)
  k_steps
  all_goals (ktr_call hret []; refine ⟨rfl, .of (worth_end (by assumption))⟩)
end
end
section
abbrev ALPH : Str := Str.ofString "0123456789abcdefghijklmnopqrstuvwxyzABCDEFGHIJKLMNOPQRSTUVWXYZ"
def figIx (c : Nat) : Int := if 48 ≤ c ∧ c ≤ 57 then (c : Int) - 48 else if 97 ≤ c ∧ c ≤ 122 then (c : Int) - 87 else if 65 ≤ c ∧ c ≤ 90 then (c : Int) - 29 else -1
theorem find_none {x : Str} {c : Nat} (h : c ∉ x.cps.toList) : Txt.find x ⟨#[c]⟩ = -1 := by
  have e := StrLaws.found_one x c
  rw [decide_eq_false h] at e
  unfold Txt.find
  split
  · rename_i q
    rw [q] at e; simp at e
  · rfl
theorem find_low : ∀ c : Fin 128, Txt.find ALPH ⟨#[c.val]⟩ = figIx c.val := by decide +kernel
theorem alph_low : ∀ c ∈ ALPH.cps.toList, c < 128 := by decide +kernel
theorem find_alph (c : Nat) : Txt.find ALPH ⟨#[c]⟩ = figIx c := by
  by_cases h : c < 128
  · exact find_low ⟨c, h⟩
  · rw [find_none fun q => h (alph_low c q)]
    unfold figIx
    (repeat' split) <;> omega
theorem law_figure_meets (w : World) (c : Nat) (t : Tok) : Meets w 2 150 [.str ⟨#[c]⟩ t] (IntIs (digitC c)) := by
  w_top off
  k_with_none
  ((unfold Meets; intro prog mean mg mb dp un gd cn cs a ccd cl outer A₀ base h₀ L m news s Q E B F X N T hk hdp hun hret; refine wpAny_call ?_; (k_dflt cell_enter)))
  k_with_none
  k_steps
  all_goals (
    cb_end hret
    refine .of ?_
    simp only [find_alph] at *
    unfold figIx at *
    unfold digitC
    (repeat' split) <;> omega)
end
section
/-! a loop over a text's signs, its state told by J, which may name new objects -/
def TxPost (h₀ : Heap) (L I : Addr) (oI : Obj) (J : (Str → Option Value) → List (Addr × Obj) → Prop) (s : Shared) (Q : Flow → Shared → Prop) (f : Flow) (s₂ : Shared) : Prop :=
  match f with
  | .ret v => Q (.ret v) s₂
  | .brk => Q .next s₂
  | _ => ∃ h' tk' m' nx', s₂ = { s with heap := h', toks := tk' } ∧ Fr h₀ L h' m' ∧ News h₀ L h' ((I, oI) :: nx') ∧ (∀ p ∈ nx', p.1 ≠ I) ∧ J m' nx'
theorem text_loop {prog : Program} {w : World} {A : Around} {E : Value → Shared → Prop} {Q : Flow → Shared → Prop} {s : Shared} {env : Env} {h₀ : Heap} {x : Str} {body : List Stmt} {xt : Str} {tx : Tok} {m₀ : Str → Option Value} {news : List (Addr × Obj)}
    (J : List Nat → (Str → Option Value) → List (Addr × Obj) → Prop) (hh : A.handled = none) (F : Fr h₀ env.locals s.heap m₀) (N : News h₀ env.locals s.heap news) (hJ : J [] m₀ news)
    (turn : ∀ pre n post t m₁ nx h tk I oI, xt.cps.toList = pre ++ n :: post → J pre m₁ nx → (∀ p ∈ nx, p.1 ≠ I) → Fr h₀ env.locals h (fun y => if y = x then some (.str ⟨#[n]⟩ t) else m₁ y) → News h₀ env.locals h ((I, oI) :: nx) →
      wpAny (model prog w) A (execs body env) (TxPost h₀ env.locals I oI (J (pre ++ [n])) { s with heap := h, toks := tk } Q) E { s with heap := h, toks := tk })
    (done : ∀ m₁ nx h tk, J xt.cps.toList m₁ nx → Fr h₀ env.locals h m₁ → News h₀ env.locals h nx → Q .next { s with heap := h, toks := tk }) :
    wpAny (model prog w) A (pyIter (.str xt tx)) (fun it s₂ => LoopAtV prog w A h₀ env x body Q E it s₂) E s := by
  have main : ∀ (ty : String) (o : Obj), Walks prog w A s.heap.objs.size [s.heap.objs.size] [s.heap.objs.size] xt.cps.size (SignAt xt) (fun i h => h.IsStrIter s.heap.objs.size ty xt tx i) → o.isFreed = false →
      (s.heap.push o).IsStrIter s.heap.objs.size ty xt tx 0 → LoopAtV prog w A h₀ env x body Q E (.ref s.heap.objs.size) { s with heap := s.heap.push o } := by
    intro ty o W hof hst
    refine ⟨s.heap.objs.size, _, _, _, _, _, m₀, news, fun i m nx => J (xt.cps.toList.take i) m nx, rfl, W, ?_, ?_, ?_, hst, F.push _, fun p hp => ⟨Heap.get?_push_of_some _ (N p hp).1, (N p hp).2⟩, by simpa using hJ, ?_, ?_⟩
    · intro hm
      exact absurd F.ns.lt ((List.mem_singleton.mp hm) ▸ Nat.lt_irrefl _)
    · intro b hb
      rw [List.mem_singleton.mp hb]
      exact next_is_new F
    · intro p hp hI
      exact absurd (Heap.lt_size (N p hp).1) ((List.mem_singleton.mp hI) ▸ Nat.lt_irrefl _)
    · rintro i v m₁ nx s₁ own ⟨h, tk, rfl⟩ hi ⟨n, t, hn, rfl⟩ hj hoff hown hlive hin hst₁ F₁ N₁
      obtain ⟨oI, hoI, _⟩ := hst₁
      have hI : (s.heap.objs.size, oI) ∈ own := hin _ (List.mem_singleton.mpr rfl) (next_is_new F) oI hoI
      have hl : i < xt.cps.toList.length := by simpa using hi
      have e : xt.cps.toList = xt.cps.toList.take i ++ n :: xt.cps.toList.drop (i + 1) := by
        have e1 : xt.cps.toList[i] = n := by
          have := hn
          rw [← Array.getElem?_toList, List.getElem?_eq_getElem hl] at this
          exact Option.some.inj this
        conv => lhs; rw [← List.take_append_drop i xt.cps.toList, List.drop_eq_getElem_cons hl, e1]
      have hs : xt.cps.toList.take (i + 1) = xt.cps.toList.take i ++ [n] := by
        rw [List.take_succ_eq_append_getElem hl]
        have := hn
        rw [← Array.getElem?_toList, List.getElem?_eq_getElem hl] at this
        rw [Option.some.inj this]
      have same : ∀ p ∈ own, p = (s.heap.objs.size, oI) := fun p hp => by
        have h1 := List.mem_singleton.mp (hown p hp)
        have h2 := hlive p hp
        rw [h1] at h2
        have h2' : some oI = some p.2 := hoI.symm.trans h2
        exact Prod.ext h1 (Option.some.inj h2').symm
      have N₂ : News h₀ env.locals h ((s.heap.objs.size, oI) :: nx) := fun p hp => N₁ p ((List.mem_cons.mp hp).elim (fun q => by rw [q]; exact List.mem_append_left _ hI) fun q => List.mem_append_right _ q)
      refine wpAny_mono (turn (xt.cps.toList.take i) n (xt.cps.toList.drop (i + 1)) t m₁ nx h tk s.heap.objs.size oI e hj (fun p hp q => hoff p hp (by rw [q]; exact List.mem_singleton.mpr rfl)) F₁ N₂) (fun f s₂ q => ?_) fun _ _ z => z
      have fin : (∃ h' tk' m' nx', s₂ = { s with heap := h', toks := tk' } ∧ Fr h₀ env.locals h' m' ∧ News h₀ env.locals h' ((s.heap.objs.size, oI) :: nx') ∧ (∀ p ∈ nx', p.1 ≠ s.heap.objs.size) ∧ J (xt.cps.toList.take i ++ [n]) m' nx') →
          LoopStepU h₀ env.locals [s.heap.objs.size] own (fun m nx => J (xt.cps.toList.take (i + 1)) m nx) { s with heap := h, toks := tk } .next s₂ := by
        rintro ⟨h', tk', m', nx', rfl, F', N', ha, hj'⟩
        exact .intro F' (fun p hp => N' p ((List.mem_append.mp hp).elim (fun q => by rw [same p q]; exact .head _) fun q => .tail _ q)) (fun p hp hq => ha p hp (List.mem_singleton.mp hq)) (by rw [hs]; exact hj')
      cases f with
      | ret v => exact .ret q
      | brk => exact .brk q
      | next => exact .next (fin q)
      | cont => exact .cont (fin q)
    · intro h' tk m' nx' F' N' _ hj
      rw [show xt.cps.size = xt.cps.toList.length by simp, List.take_length] at hj
      exact done m' nx' h' tk hj F' N'
  cases ha : xt.cps.all (· < 128)
  · exact wpAny_pyIter_wide ha (main _ _ (Walks.strWide hh _ xt tx) rfl ⟨_, Heap.get?_push_size _ rfl, rfl, rfl⟩)
  · exact wpAny_pyIter_ascii ha (main _ _ (Walks.strAscii hh _ xt tx) rfl ⟨_, Heap.get?_push_size _ rfl, rfl, rfl⟩)
end
section
def stName : St → Str
  | .ahead => Str.ofString "ahead"
  | .signed => Str.ofString "signed"
  | .nought => Str.ofString "nought"
  | .based => Str.ofString "based"
  | .figures => Str.ofString "figures"
  | .behind => Str.ofString "behind"
structure LwOk (c : LS) (k : Nat) : Prop where
  sign : c.sign = 1 ∨ c.sign = -1
  b0 : 1 ≤ c.base
  b1 : c.base ≤ 36
  figs : ∀ f ∈ c.figs, 0 ≤ f ∧ f ≤ 36
  len : c.figs.length ≤ k
inductive LwJ (news : List (Addr × Obj)) (pre : List Nat) (m : Str → Option Value) (nx : List (Addr × Obj)) : Prop
  | mk (c : LS) (u : Str → Option Value) (a : Addr) (vs : List Value) (nn : Nat) (t1 t2 t3 : Tok) (hr : lawRun ⟨.ahead, 1, 10, []⟩ pre = some c)
      (hm : m = kstB u [(Str.ofString "state", .str (stName c.st) t1), (Str.ofString "sign", .int c.sign t2), (Str.ofString "base", .int c.base t3), (Str.ofString "figures", .ref a)])
      (hn : nx = (a, listOf vs.toArray nn) :: news) (hlt : AllLt a news) (hi : IntsAre vs c.figs) (ok : LwOk c pre.length)
theorem lw_start {news : List (Addr × Obj)} {m₀ : Str → Option Value} {a : Addr} {nn : Nat} {t0 t1 t2 : Tok} (hlt : AllLt a news)
    (hk : ∀ p ∈ [(Str.ofString "state", Value.str (Str.ofString "ahead") t0), (Str.ofString "sign", .int 1 t1), (Str.ofString "base", .int 10 t2), (Str.ofString "figures", .ref a)], m₀ p.1 = some p.2) :
    LwJ news [] m₀ ((a, listOf (List.toArray []) nn) :: news) :=
  ⟨⟨.ahead, 1, 10, []⟩, m₀, a, [], nn, t0, t1, t2, rfl, (funext fun y => (kstB_eq hk fun _ => rfl).symm), rfl, hlt, .nil, ⟨.inl rfl, by decide, by decide, (fun _ h => nomatch h), Nat.le_refl _⟩⟩
theorem lw_end {h₀ h' : Heap} {L I : Addr} {oI : Obj} {news nx : List (Addr × Obj)} {pre : List Nat} {n : Nat} {s : Shared} {Q : Flow → Shared → Prop} {f : Flow} {m' : Str → Option Value} {tk' : Nat} {a : Addr} {vs : List Value} {nn : Nat} {t1 t2 t3 : Tok} {c₀ : LS} (c : LS)
    (F : Fr h₀ L h' m') (N : News h₀ L h' nx) (hf : f = .next ∨ f = .cont) (hI : (I, oI) ∈ nx) (ha : (a, listOf vs.toArray nn) ∈ nx) (hs : ∀ p ∈ news, p ∈ nx) (hne : ∀ p ∈ news, p.1 ≠ I) (hna : a ≠ I) (hlt : AllLt a news)
    (hk : ∀ p ∈ [(Str.ofString "state", Value.str (stName c.st) t1), (Str.ofString "sign", .int c.sign t2), (Str.ofString "base", .int c.base t3), (Str.ofString "figures", .ref a)], m' p.1 = some p.2)
    (h0 : lawRun ⟨.ahead, 1, 10, []⟩ pre = some c₀) (hst : lawStep c₀ n = some c) (hi : IntsAre vs c.figs) (ok : LwOk c (pre.length + 1)) :
    TxPost h₀ L I oI (LwJ news (pre ++ [n])) s Q f { s with heap := h', toks := tk' } := by
  have hr : lawRun ⟨.ahead, 1, 10, []⟩ (pre ++ [n]) = some c := by rw [lawRun_snoc, h0]; exact hst
  have body : ∃ h'' tk'' m'' nx', ({ s with heap := h', toks := tk' } : Shared) = { s with heap := h'', toks := tk'' } ∧ Fr h₀ L h'' m'' ∧ News h₀ L h'' ((I, oI) :: nx') ∧ (∀ p ∈ nx', p.1 ≠ I) ∧ LwJ news (pre ++ [n]) m'' nx' := by
    refine ⟨h', tk', m', (a, listOf vs.toArray nn) :: news, rfl, F, fun p hp => N p ?_, fun p hp => ?_, ⟨c, m', a, vs, nn, t1, t2, t3, hr, (funext fun y => (kstB_eq hk fun _ => rfl).symm), rfl, hlt, hi, by rw [List.length_append]; exact ok⟩⟩
    · rcases List.mem_cons.mp hp with rfl | hp
      · exact hI
      · rcases List.mem_cons.mp hp with rfl | hp
        · exact ha
        · exact hs p hp
    · rcases List.mem_cons.mp hp with rfl | hp
      · exact hna
      · exact hne p hp
  rcases hf with rfl | rfl <;> exact body
theorem step_fig7 {st st' : St} {g b : Int} {f : List Int} {n : Nat} (he : (if (st = .ahead ∨ st = .signed) ∧ digitC n = 0 then St.nought else St.figures) = st') (hb : blankC n = false ∨ st = .signed ∨ st = .based) (hs : st ≠ .ahead ∨ isSign n = false) (hm : st ≠ .nought ∨ isMark n = false) (hn : st ≠ .behind)
    (h0 : 0 ≤ digitC n) (h1 : digitC n < b) : lawStep ⟨st, g, b, f⟩ n = some ⟨st', g, b, f ++ [digitC n]⟩ := step_fig hb hs hm hn h0 h1 he
theorem lw_fails {x : Str} {pre post : List Nat} {n : Nat} {c₀ : LS} (hl : x.cps.toList = pre ++ n :: post) (h0 : lawRun ⟨.ahead, 1, 10, []⟩ pre = some c₀) (hst : lawStep c₀ n = none) : lawWhole x.cps.toList = none := by
  unfold lawWhole
  rw [hl, lawRun_append, h0]
  simp only [Option.bind_some, lawRun, hst, Option.bind_none]
theorem ok_mark {g : Int} {k n : Nat} (hg : g = 1 ∨ g = -1) (hm : isMark n = true) : LwOk ⟨.based, g, baseOf n, []⟩ (k + 1) := by
  have h1 := (mark_base n).mp hm
  have h2 : baseOf n ≤ 16 := base_le n
  exact ⟨hg, by simp only; omega, by simp only; omega, (fun _ h => nomatch h), Nat.zero_le _⟩
theorem gapF {n : Nat} (h : (Builtin.Str.occurrences (Str.ofString " \t\n\x0b\x0c\x0d") ⟨#[n]⟩ 0 (Str.ofString " \t\n\x0b\x0c\x0d").length 1).isEmpty = true) : blankC n = false := by
  rw [gap_is] at h; simpa using h
theorem gapT {n : Nat} (h : (Builtin.Str.occurrences (Str.ofString " \t\n\x0b\x0c\x0d") ⟨#[n]⟩ 0 (Str.ofString " \t\n\x0b\x0c\x0d").length 1).isEmpty = false) : blankC n = true := by
  rw [gap_is] at h; simpa using h
theorem signF {n : Nat} (h : (Builtin.Str.occurrences (Str.ofString "+-") ⟨#[n]⟩ 0 (Str.ofString "+-").length 1).isEmpty = true) : isSign n = false := by
  rw [sign_is] at h; simpa using h
theorem signT {n : Nat} (h : (Builtin.Str.occurrences (Str.ofString "+-") ⟨#[n]⟩ 0 (Str.ofString "+-").length 1).isEmpty = false) : isSign n = true := by
  rw [sign_is] at h; simpa using h
theorem markF {n : Nat} (h : (Builtin.Str.occurrences (Str.ofString "xXoObBdD") ⟨#[n]⟩ 0 (Str.ofString "xXoObBdD").length 1).isEmpty = true) : isMark n = false := by
  rw [mark_is] at h; simpa using h
theorem markT {n : Nat} (h : (Builtin.Str.occurrences (Str.ofString "xXoObBdD") ⟨#[n]⟩ 0 (Str.ofString "xXoObBdD").length 1).isEmpty = false) : isMark n = true := by
  rw [mark_is] at h; simpa using h
theorem eq_one (n d : Nat) (s : String) (h : Str.ofString s = ⟨#[d]⟩) : ((⟨#[n]⟩ : Str) == Str.ofString s) = (n == d) := by
  rw [h, Bool.eq_iff_iff]
  simp only [beq_iff_eq, Str.mk.injEq]
  constructor
  · intro q; cases q; rfl
  · intro q; rw [q]
theorem step_minus {g b : Int} {f : List Int} {n : Nat} (hb : blankC n = false) (hs : isSign n = true) (h : ((⟨#[n]⟩ : Str) == Str.ofString "-") = true) : lawStep ⟨.ahead, g, b, f⟩ n = some ⟨.signed, -1, b, f⟩ := by
  rw [eq_one n 45 "-" (by decide), beq_iff_eq] at h
  rw [step_sign hb hs, if_pos h]
theorem step_plus {g b : Int} {f : List Int} {n : Nat} (hb : blankC n = false) (hs : isSign n = true) (h : ((⟨#[n]⟩ : Str) == Str.ofString "-") = false) : lawStep ⟨.ahead, g, b, f⟩ n = some ⟨.signed, 1, b, f⟩ := by
  rw [eq_one n 45 "-" (by decide), beq_eq_false_iff_ne] at h
  rw [step_sign hb hs, if_neg h]
theorem mark_menu {n : Nat} (h : isMark n = true) : [16, 8, 2, 10].getD ((Txt.find (Str.ofString "xobdXOBD") ⟨#[n]⟩).fmod 4).toNat 0 = baseOf n := by
  unfold isMark at h
  simp only [Bool.or_eq_true, beq_iff_eq] at h
  rcases h with ((((((h | h) | h) | h) | h) | h) | h) | h <;> subst h <;> decide +kernel
theorem step_mark' {g b : Int} {f : List Int} {n : Nat} (hb : blankC n = false) (hm : isMark n = true) : lawStep ⟨.nought, g, b, f⟩ n = some ⟨.based, g, [16, 8, 2, 10].getD ((Txt.find (Str.ofString "xobdXOBD") ⟨#[n]⟩).fmod 4).toNat 0, []⟩ := by
  rw [mark_menu hm]; exact step_mark hb hm
theorem ok_mark' {g : Int} {k n : Nat} (hg : g = 1 ∨ g = -1) (hm : isMark n = true) : LwOk ⟨.based, g, [16, 8, 2, 10].getD ((Txt.find (Str.ofString "xobdXOBD") ⟨#[n]⟩).fmod 4).toNat 0, []⟩ (k + 1) := by
  rw [mark_menu hm]; exact ok_mark hg hm
theorem ok_same {st' : St} {g b : Int} {f : List Int} {k : Nat} (hg : g = 1 ∨ g = -1) (h0 : 1 ≤ b) (h1 : b ≤ 36) (hf : ∀ x ∈ f, 0 ≤ x ∧ x ≤ 36) (hl : f.length ≤ k) : LwOk ⟨st', g, b, f⟩ (k + 1) := ⟨hg, h0, h1, hf, Nat.le_succ_of_le hl⟩
theorem ok_fig {st : St} {g b d : Int} {f : List Int} {k : Nat} (hg : g = 1 ∨ g = -1) (h0 : 1 ≤ b) (h1 : b ≤ 36) (hf : ∀ x ∈ f, 0 ≤ x ∧ x ≤ 36) (hl : f.length ≤ k) (hd : 0 ≤ d ∧ d < b) : LwOk ⟨st, g, b, f ++ [d]⟩ (k + 1) := by
  refine ⟨hg, h0, h1, fun x hx => ?_, by simp only [List.length_append, List.length_singleton]; omega⟩
  rcases List.mem_append.mp hx with hx | hx
  · exact hf x hx
  · rw [List.mem_singleton.mp hx]; omega
section
local macro_rules | `(tactic| walk_at "lw_hb") => `(tactic| first | exact .inl (gapF (by with_reducible assumption)) | exact .inr (.inl rfl) | exact .inr (.inr rfl))
local macro_rules | `(tactic| walk_at "lw_hs") => `(tactic| first | exact .inl (by decide) | exact .inr (signF (by with_reducible assumption)))
local macro_rules | `(tactic| walk_at "lw_hm") => `(tactic| first | exact .inl (by decide) | exact .inr (markF (by with_reducible assumption)))
local macro_rules | `(tactic| walk_at "lw_st") => `(tactic| first | exact if_pos ⟨.inl rfl, by with_reducible assumption⟩ | exact if_pos ⟨.inr rfl, by with_reducible assumption⟩ | exact if_neg (fun q => absurd q.2 (by with_reducible assumption)) | exact if_neg (fun q => by rcases q.1 with q | q <;> cases q))
local macro_rules | `(tactic| walk_at "lw_step") => `(tactic| first
  | (refine' step_gap1 ?s1 ?s2; (case s1 => first | exact .inl rfl | exact .inr rfl); (case s2 => exact gapT (by with_reducible assumption)))
  | (refine' step_gap2 ?s1 ?s2; (case s1 => first | exact .inl rfl | exact .inr rfl); (case s2 => exact gapT (by with_reducible assumption)))
  | exact step_minus (gapF (by with_reducible assumption)) (signT (by with_reducible assumption)) (by with_reducible assumption)
  | exact step_plus (gapF (by with_reducible assumption)) (signT (by with_reducible assumption)) (by with_reducible assumption)
  | exact step_mark (gapF (by with_reducible assumption)) (markT (by with_reducible assumption))
  | (refine' step_fig7 ?s7 ?s1 ?s2 ?s3 ?s4 ?s5 ?s6; (case s7 => walk_at "lw_st"); (case s1 => walk_at "lw_hb"); (case s2 => walk_at "lw_hs"); (case s3 => walk_at "lw_hm"); (case s4 => decide); (case s5 => with_reducible assumption); (case s6 => with_reducible assumption)))
local macro_rules | `(tactic| walk_at "call ref") => `(tactic| (k_here; (with_reducible show wpAny _ _ (call (Value.ref 150) _) _ _ _); ktn_end (law_figure_meets _ _ _); rename_i O9; cases O9))
theorem mul_sign {g : Int} (h : g = 1 ∨ g = -1) (x : Int) : IntMulOk g x := IntMulOk.of_left (PySem.intBits_le_64 (by omega) (by omega))
theorem lw_val {st : St} {g b v : Int} {f : List Int} (h : st = .nought ∨ st = .figures ∨ st = .behind) (hv : v = horner b f) : lawEnd ⟨st, g, b, f⟩ = some (g * v) := by
  unfold lawEnd; rw [if_pos h, hv]
theorem lw_no {st : St} {g b : Int} {f : List Int} (h : ¬ (st = .nought ∨ st = .figures ∨ st = .behind)) : lawEnd ⟨st, g, b, f⟩ = none := by
  unfold lawEnd; rw [if_neg h]
set_option hygiene false in
local macro_rules | `(tactic| walk_at "call ref") => `(tactic| (k_here; (with_reducible show wpAny _ _ (call (Value.ref 157) _) _ _ _); ktn_call hW (by k_mem); rename_i r9 tl9 h9 tk9 F9 N9 O9; (obtain ⟨e9, O9⟩ := O9); subst e9; cases O9; (simp only [List.nil_append] at N9)))
set_option hygiene false in
local macro_rules | `(tactic| walk_at "binaryOp Mult int int") => `(tactic| (with_reducible refine mul_int ?_ (mul_sign hsg _)))
theorem law_whole_meets (w : World) (x : Str) (t : Tok) (hx : x.length ≤ 100) : Meets w 8 164 [.str x t] (OptIs (lawWhole x.cps.toList)) := by
  w_top off
  k_with_none
  ((unfold Meets; intro prog mean mg mb dp un gd cn cs a ccd cl outer A₀ base h₀ L m news s Q E B F X N T hk hdp hun hret; refine wpAny_call ?_; (k_dflt cell_enter)))
  rename_i g1 L1 h1 FG F1 N1 B1 X1 T1
  refine seq_cut (fun s' => ∃ t0, At g1 L1 news s [(Str.ofString "text", .str x t), (Str.ofString "state", .str (Str.ofString "ahead") t0)] s' ∧ True) ?_ ?_
  · k_with_none
    k_steps
    (refine And.intro rfl ?_; (repeat apply Exists.intro); refine And.intro (At.of (by k_asm) (by k_asm) (by kcj_all) (by kst_all)) (by (exact trivial)))
  rintro s' ⟨t0, ⟨u, h', tk', rfl, F, N⟩, -⟩
  dsimp only [kstB] at F
  refine seq_cut (fun s' => ∃ t1, At g1 L1 news s [(Str.ofString "text", .str x t), (Str.ofString "state", .str (Str.ofString "ahead") t0), (Str.ofString "sign", .int 1 t1)] s' ∧ True) ?_ ?_
  · k_steps
    (refine And.intro rfl ?_; (repeat apply Exists.intro); refine And.intro (At.of (by k_asm) (by k_asm) (by kcj_all) (by kst_all)) (by (exact trivial)))
  rintro s' ⟨t1, ⟨u, h', tk', rfl, F, N⟩, -⟩
  dsimp only [kstB] at F
  refine seq_cut (fun s' => ∃ t2, At g1 L1 news s [(Str.ofString "text", .str x t), (Str.ofString "state", .str (Str.ofString "ahead") t0), (Str.ofString "sign", .int 1 t1), (Str.ofString "base", .int 10 t2)] s' ∧ True) ?_ ?_
  · k_steps
    (refine And.intro rfl ?_; (repeat apply Exists.intro); refine And.intro (At.of (by k_asm) (by k_asm) (by kcj_all) (by kst_all)) (by (exact trivial)))
  rintro s' ⟨t2, ⟨u, h', tk', rfl, F, N⟩, -⟩
  dsimp only [kstB] at F
  refine seq_cut (fun s' => ∃ a nn, At g1 L1 ((a, listOf (List.toArray []) nn) :: news) s [(Str.ofString "text", .str x t), (Str.ofString "state", .str (Str.ofString "ahead") t0), (Str.ofString "sign", .int 1 t1), (Str.ofString "base", .int 10 t2), (Str.ofString "figures", .ref a)] s' ∧ AllLt a news) ?_ ?_
  · k_steps
    (refine And.intro rfl ?_; (repeat apply Exists.intro); refine And.intro (At.of (by k_asm) (by k_asm) (by kcj_all) (by kst_all)) (by (exact allLt_of (by with_reducible assumption))))
  rintro s' ⟨a, nn, ⟨u, h', tk', rfl, F, N⟩, hlt⟩
  dsimp only [kstB] at F
  refine seq_cutR (fun s' => ∃ c a nn vs t1 t2 t3, At g1 L1 ((a, listOf (List.toArray vs) nn) :: news) s [(Str.ofString "state", .str (stName (LS.st c)) t1), (Str.ofString "sign", .int (LS.sign c) t2), (Str.ofString "base", .int (LS.base c) t3), (Str.ofString "figures", .ref a)] s' ∧
      (lawRun ⟨.ahead, 1, 10, []⟩ x.cps.toList = some c ∧ IntsAre vs c.figs ∧ LwOk c x.cps.toList.length)) ?_ ?_
  · (with_unfolding_all refine' For_invVF F ?k1 ?k2 ?_; (case k1 => exact rfl); (case k2 => exact rfl))
    (k_dflt (refine' ld ?k1 ?k2 ?_; (case k1 => k_asm); (case k2 => exact rfl)))
    refine text_loop (LwJ news) rfl F N ?_ ?_ ?_
    · exact lw_start hlt (by kst_all)
    · rintro pre n post tn m₁ nx h tk I oI hl ⟨c, u, a, vs, nn, t1, t2, t3, hr, rfl, rfl, hlt, hi, ok⟩ hoff F N
      dsimp only [kstB] at F
      obtain ⟨st, sg, bs, fg⟩ := c
      obtain ⟨hsg, hb0, hb1, hfg, hfl⟩ := ok
      dsimp only at hi hsg hb0 hb1 hfg hfl
      have hna : a ≠ I := hoff _ (.head _)
      have hnaN : @Ne Nat a I := hna
      have hoA : OwnOff news [a] := fun p hp b hb => by
        rw [List.mem_singleton.mp hb]; exact Nat.ne_of_lt (ktn_ltOf hlt p hp)
      have hoI : ∀ p ∈ news, p.1 ≠ I := fun p hp => hoff p (.tail _ hp)
      have hpl : pre.length < x.length := by
        have := congrArg List.length hl
        rw [len_list, List.length_append, List.length_cons] at this
        omega
      have hvl : vs.length ≤ 100 := by rw [IntsAre.length hi]; omega
      cases st
      all_goals dsimp only [stName] at F
      all_goals k_steps
      all_goals (try dsimp only)
      all_goals (try ((rename News _ _ _ _ => nE); (simp only [List.push_toArray] at nE)))
      all_goals first
        | (refine' lw_end _ ?F ?N ?f ?I ?a ?s hoI hna hlt ?k hr ?st ?i ?ok
           (case st => walk_at "lw_step")
           (case F => k_asm)
           (case N => k_asm)
           (case f => first | exact .inl rfl | exact .inr rfl)
           (case a => k_mem)
           (case I => k_mem)
           (case s => kcj_all)
           (case k => kst_all)
           (case i => first | with_reducible assumption | exact .nil | l_ints)
           (case ok => first | exact ok_same (by with_reducible assumption) (by with_reducible assumption) (by with_reducible assumption) (by with_reducible assumption) (by with_reducible assumption) | exact ok_same (.inl rfl) (by with_reducible assumption) (by with_reducible assumption) (by with_reducible assumption) (by with_reducible assumption) | exact ok_same (.inr rfl) (by with_reducible assumption) (by with_reducible assumption) (by with_reducible assumption) (by with_reducible assumption) | exact ok_fig hsg hb0 hb1 hfg hfl ⟨by with_reducible assumption, by with_reducible assumption⟩ | exact ok_mark hsg (markT (by with_reducible assumption))))
        | (dsimp only [TxPost, Nr]; k_steps; cb_end hret; exact .ofN (lw_fails hl hr (step_none (by walk_at "lw_hb") (by walk_at "lw_hs") (by walk_at "lw_hm") (by first | exact .inl rfl | exact .inr (.inl (by with_reducible assumption)) | exact .inr (.inr (by with_reducible assumption))))))
        | ((rename _ < _ ∧ _ => hq9); (obtain ⟨_, _, _, hI9, _, hA9⟩ := hq9)
           refine' lw_end _ ?F ?N ?f ?I ?a ?s hoI (Nat.ne_of_gt hI9) hA9 ?k hr (step_mark' (gapF (by with_reducible assumption)) (markT (by with_reducible assumption))) .nil (ok_mark' hsg (markT (by with_reducible assumption)))
           (case F => k_asm)
           (case N => k_asm)
           (case f => first | exact .inl rfl | exact .inr rfl)
           (case a => k_mem)
           (case I => k_mem)
           (case s => kcj_all)
           (case k => kst_all))
    · rintro m₁ nx h tk ⟨c, u, a, vs, nn, t1, t2, t3, hr, rfl, rfl, hlt, hi, ok⟩ F N
      exact ⟨c, a, nn, vs, t1, t2, t3, ⟨u, h, tk, rfl, F, N⟩, hr, hi, ok⟩
  rintro s' ⟨c, a, nn, vs, t1, t2, t3, ⟨u, h', tk', rfl, F, N⟩, hr, hi, ok⟩
  dsimp only [kstB] at F
  obtain ⟨st, sg, bs, fg⟩ := c
  obtain ⟨hsg, hb0, hb1, hfg, hfl⟩ := ok
  dsimp only at hi hsg hb0 hb1 hfg hfl
  have hW := law_worth_meets w a vs fg nn bs t3 hi (by rw [len_list] at hfl; omega) hb0 hb1 hfg
  have hL : lawWhole x.cps.toList = lawEnd ⟨st, sg, bs, fg⟩ := by
    unfold lawWhole; rw [hr]; rfl
  cases st
  all_goals dsimp only [stName] at F
  all_goals k_steps
  all_goals cb_end hret
  all_goals rw [hL]
  all_goals first | exact .ofN (lw_no (by decide)) | exact .ofS (lw_val (by decide) rfl)
end
end
section
/-! an exception of the class Raised: its own dict -/
open PySem.Builtin PySem.Builtin.ObjectAttr
def excMro : List Value := [.ref 33, .type "Exception", .type "BaseException", .type "object"]
section
variable {prog : Program} {w : World} {A : Around} {E : Value → Shared → Prop} {s : Shared} {K : Frag} {x L : Addr} {h₀ : Heap} {m : Str → Option Value} {news : List (Addr × Obj)}
theorem osaE_open {ox : Obj} {od : Option Obj} {name : Str} {tk : Tok} {v : Value} {cd : ClassData} {R : Result → Shared → Prop} (X : K.In s.heap) (I : InstAt s.heap x ox 33 od) (hc : clsIn K 33 = some cd) (hm : cd.mro = excMro) (ha : findIn K (.ref 33) name = some none)
    (h : wpAny (model prog w) A.in1 (storeInOwnDict (.ref x) (.ref 33) (.str name tk) name v false)
      (fun fin s' => match fin with | .done f => R (.ok f) s' | .again c' => c'.quiet = true ∧ codeAny (model prog w) A c' R s') (fun e s' => R (.error e) s') s) :
    codeAny (model prog w) A (.call (.builtin "object.__setattr__") ⟨[.ref x, .str name tk, v], []⟩) R s := by
  have SF := PySem.F.store_object
  have sub : Looks (model prog w) s.heap (isInstance (.ref x) (.type "object")) true := I.type.andThen (looks_mroIn X (by unfold mroIn; rw [hc, Option.bind_some, hm]; decide))
  refine codeAny_call_builtin SF.slot.plain SF.entry (@check_slot (model prog w) _ _ s "object.__setattr__" "object" "__setattr__" (.ref x) [.str name tk, v] [] _ SF.kind SF.split sub (SF.args (.ref x) (.str name tk) v) ?_)
  have hmr : Looks (model prog w) s.heap (mroOf (.ref 33)) cd.mro := (looks_clsIn X hc).andThen .now
  have L3 : Looks (model prog w) s.heap (storeTaker? none) none := .now
  rw [osa_eq, refuse_eq]
  refine wpAny_bind (wpAny_bind (I.type.here (wpAny_bind (hmr.here ?_))))
  rw [hm, excMro, refuseLoop_ref, PySem.F.store_Exception.passes]
  refine wpAny_pure (wpAny_bind (I.type.here (wpAny_bind ((looks_findIn X ha).here (wpAny_bind (L3.here ?_))))))
  exact h

theorem nsOk32 (P : Params) : nsOkIn (hd.heap_1 P) 32 = true := by kernel_rfl
abbrev excO (d : Option Addr) (fs : Array Value) : Obj := { cls := .ref 33, dict := d, data := .fields fs }
theorem exc_inst0 {h : Heap} {fs : Array Value} (e : h.get? x = some (excO none fs)) : InstAt h x (excO none fs) 33 none := ⟨e, rfl, rfl, trivial⟩
theorem exc_instD {h : Heap} {fs : Array Value} {dx : Addr} {od : Obj} (e : h.get? x = some (excO (some dx) fs)) (ed : h.get? dx = some od) : InstAt h x (excO (some dx) fs) 33 (some od) := ⟨e, rfl, rfl, ed⟩

theorem osaE_dict0 {fs : Array Value} {name : Str} {v : Value} {tk : Tok} {cd : ClassData} {R : Result → Shared → Prop} {pre post : List (Addr × Obj)} (F : Fr h₀ L s.heap m) (X : K.In s.heap) (N : News h₀ L s.heap (pre ++ (x, excO none fs) :: post))
    (h1 : ∀ p ∈ pre, p.1 ≠ x) (h2 : ∀ p ∈ post, p.1 ≠ x)
    (hc : clsIn K 33 = some cd) (hm : cd.mro = excMro) (hd : cd.hasDict = true) (ha : findIn K (.ref 33) name = some none)
    (h : ∀ dx h', Fr h₀ L h' m → News h₀ L h' ((dx, dictOf [⟨PyData.keyHash w.params name, .str name s.toks, v⟩] 1) :: (pre ++ (x, excO (some dx) fs) :: post)) → (∀ p ∈ pre ++ (x, excO none fs) :: post, p.1 < dx) → R (.ok (.ret .none)) { s with heap := h', toks := s.toks + 1 }) :
    codeAny (model prog w) A (.call (.builtin "object.__setattr__") ⟨[.ref x, .str name tk, v], []⟩) R s := by
  have hx : s.heap.get? x = some (excO none fs) := (N (x, excO none fs) (by simp)).1
  refine osaE_open X (exc_inst0 hx) hc hm ha ?_
  have lt : ∀ p ∈ pre ++ (x, excO none fs) :: post, p.1 < s.heap.objs.size := fun p hp => Heap.lt_size (N p hp).1
  have F₁ := F.push (dictOf [] 0)
  have N₁ := N.push F (dictOf [] 0)
  have hx₁ : (s.heap.push (dictOf [] 0)).get? x = some (excO none fs) := Heap.get?_push_of_some _ hx
  have hxd : x < s.heap.objs.size := Heap.lt_size hx
  obtain ⟨F₂, N₂⟩ := news_upd (pre := (s.heap.objs.size, dictOf [] 0) :: pre) (post := post) (d := x) (o := excO none fs) (o' := excO (some s.heap.objs.size) fs) (f := fun o => { o with dict := some s.heap.objs.size }) F₁ N₁
    (fun p hp => (List.mem_cons.mp hp).elim (fun e => by rw [e]; exact Nat.ne_of_gt hxd) (h1 p)) h2 rfl rfl
  have eP : Obj.putName name (PyData.keyHash w.params name) (.str name s.toks) v (dictOf [] 0) = dictOf [⟨PyData.keyHash w.params name, .str name s.toks, v⟩] 1 := by rw [putName_dict]; rfl
  obtain ⟨F₃, N₃⟩ := news_upd (pre := []) (post := pre ++ (x, excO (some s.heap.objs.size) fs) :: post) (d := s.heap.objs.size) (o := dictOf [] 0) (o' := dictOf [⟨PyData.keyHash w.params name, .str name s.toks, v⟩] 1)
    (f := Obj.putName name (PyData.keyHash w.params name) (.str name s.toks) v) F₂ N₂ (fun _ h => nomatch h)
    (fun p hp => by
      rcases List.mem_append.mp hp with hp | hp
      · exact Nat.ne_of_lt (lt p (List.mem_append_left _ hp))
      · rcases List.mem_cons.mp hp with rfl | hp
        · exact Nat.ne_of_lt hxd
        · exact Nat.ne_of_lt (lt p (List.mem_append_right _ (.tail _ hp)))) eP rfl
  have D := (N₂ (s.heap.objs.size, dictOf [] 0) (.head _)).1
  have D' := (N₃ (s.heap.objs.size, _) (.head _)).1
  refine wpAny_bind (wpAny_pure (wpAny_bind (wpAny_bind (wpAny_loadPart hx (wpAny_bind ((looks_clsIn X hc).here ?_))))))
  rw [hd]
  refine wpAny_bind (wpAny_alloc ?_)
  refine wpAny_bind (wpAny_update hx₁ ?_)
  refine wpAny_pure (a := some s.heap.objs.size) ?_
  refine wpAny_bind (wpAny_pure (wpAny_bind ?_))
  unfold nsSet
  refine wpAny_bind (wpAny_bind (wpAny_askSetting (wpAny_pure (wpAny_bind (wpAny_mkText (wpAny_bind (wpAny_loadPart D ?_)))))))
  refine wpAny_updatePart D ?_
  refine wpAny_bind (wpAny_lookBehind D' (pastItsLine_dict (by rw [sizeLine_eq]; simp)) ?_)
  exact wpAny_pure (h _ _ F₃ N₃ lt)
theorem set_exc0 {fs : Array Value} {name : Str} {v : Value} {cd : ClassData} {Q : Unit → Shared → Prop} {pre post : List (Addr × Obj)} (F : Fr h₀ L s.heap m) (X₀ : K.In h₀) (N : News h₀ L s.heap (pre ++ (x, excO none fs) :: post))
    (h1 : ∀ p ∈ pre, p.1 ≠ x) (h2 : ∀ p ∈ post, p.1 ≠ x)
    (hs : findIn K (.ref 33) "__setattr__" = some (some (.builtin "object.__setattr__"))) (hc : clsIn K 33 = some cd) (hm : cd.mro = excMro) (hd : cd.hasDict = true) (ha : findIn K (.ref 33) name = some none)
    (h : ∀ dx h', Fr h₀ L h' m → News h₀ L h' ((dx, dictOf [⟨PyData.keyHash w.params name, .str name (s.toks + 1), v⟩] 1) :: (pre ++ (x, excO (some dx) fs) :: post)) → (∀ p ∈ pre ++ (x, excO none fs) :: post, p.1 < dx) → Q () { s with heap := h', toks := s.toks + 2 }) :
    wpAny (model prog w) A (setAttr (.ref x) name v) Q E s := by
  have X := X₀.keeps F.keep
  have hx : s.heap.get? x = some (excO none fs) := (N (x, excO none fs) (by simp)).1
  exact set_plain X (exc_inst0 hx) hs (osaE_dict0 (s := { s with toks := s.toks + 1 }) F X N h1 h2 hc hm hd ha fun dx h' F' N' l => h dx h' F' N' l)
theorem osaE_dict {fs : Array Value} {dx : Addr} {name : Str} {v : Value} {tk : Tok} {cd : ClassData} {R : Result → Shared → Prop} {pre post : List (Addr × Obj)} {es es' : List DictEntry} {n n' : Nat} (F : Fr h₀ L s.heap m) (X : K.In s.heap) (N : News h₀ L s.heap (pre ++ (dx, dictOf es n) :: post))
    (h1 : ∀ p ∈ pre, p.1 ≠ dx) (h2 : ∀ p ∈ post, p.1 ≠ dx) (hx : s.heap.get? x = some (excO (some dx) fs))
    (hc : clsIn K 33 = some cd) (hm : cd.mro = excMro) (hd : cd.hasDict = true) (ha : findIn K (.ref 33) name = some none) (hl : (getL name es).isSome = true)
    (e : (putL name (PyData.keyHash w.params name) (.str name s.toks) v es, putN name es n) = (es', n')) (hz : es'.length ≤ 1000)
    (h : ∀ h', Fr h₀ L h' m → News h₀ L h' (pre ++ (dx, dictOf es' n') :: post) → R (.ok (.ret .none)) { s with heap := h', toks := s.toks + 1 }) :
    codeAny (model prog w) A (.call (.builtin "object.__setattr__") ⟨[.ref x, .str name tk, v], []⟩) R s := by
  have D : s.heap.get? dx = some (dictOf es n) := (N (dx, dictOf es n) (by simp)).1
  refine osaE_open X (exc_instD hx D) hc hm ha ?_
  obtain ⟨e1, e2⟩ := Prod.mk.inj e
  have eP : Obj.putName name (PyData.keyHash w.params name) (.str name s.toks) v (dictOf es n) = dictOf es' n' := by rw [putName_dict, e1, e2]
  obtain ⟨F₃, N₃⟩ := news_upd (f := Obj.putName name (PyData.keyHash w.params name) (.str name s.toks) v) F N h1 h2 eP rfl
  have D' := (N₃ (dx, dictOf es' n') (by simp)).1
  refine wpAny_bind (wpAny_pure (wpAny_bind (wpAny_bind (wpAny_loadPart hx (wpAny_bind ((looks_clsIn X hc).here ?_))))))
  rw [hd]
  refine wpAny_pure (a := some dx) (wpAny_bind (wpAny_pure (wpAny_bind ?_)))
  unfold nsSet
  refine wpAny_bind (wpAny_bind (wpAny_askSetting (wpAny_pure (wpAny_bind (wpAny_mkText (wpAny_bind (wpAny_loadPart D ?_)))))))
  have hl' := hl
  rw [← lookIn_dict name es n] at hl'
  unfold lookIn at hl'
  dsimp only at hl' ⊢
  have c : (!es.toArray.any (·.key.isStr name) && es.toArray.any (·.refKey)) = false := by
    rw [← Array.any_toList, ← Array.any_toList]
    split at hl'
    · rename_i en he
      rw [List.any_eq_true.mpr ⟨en, List.mem_of_find?_eq_some he, List.find?_some he⟩]; rfl
    · split at hl'
      · cases hl'
      · rename_i z; rw [Bool.not_eq_true] at z; rw [z, Bool.and_false]
  rw [aRefKeyMayBeTheName_at, c]
  refine wpAny_updatePart D ?_
  refine wpAny_bind (wpAny_lookBehind D' (pastItsLine_dict (by rw [List.size_toArray, sizeLine_eq]; omega)) ?_)
  exact wpAny_pure (h _ F₃ N₃)
theorem set_excD {fs : Array Value} {dx : Addr} {name : Str} {v : Value} {cd : ClassData} {Q : Unit → Shared → Prop} {news' : List (Addr × Obj)} {es es' : List DictEntry} {n n' : Nat} (F : Fr h₀ L s.heap m) (X₀ : K.In h₀) (N : News h₀ L s.heap news)
    (hx : (x, excO (some dx) fs) ∈ news) (_hdx : (dx, dictOf es n) ∈ news)
    (hs : findIn K (.ref 33) "__setattr__" = some (some (.builtin "object.__setattr__"))) (hc : clsIn K 33 = some cd) (hm : cd.mro = excMro) (hd : cd.hasDict = true) (ha : findIn K (.ref 33) name = some none) (hl : (getL name es).isSome = true)
    (e : (putL name (PyData.keyHash w.params name) (.str name (s.toks + 1)) v es, putN name es n) = (es', n')) (U : Upd dx (dictOf es n) (dictOf es' n') news news') (hz : es'.length ≤ 1000)
    (h : ∀ h', Fr h₀ L h' m → News h₀ L h' news' → Q () { s with heap := h', toks := s.toks + 2 }) :
    wpAny (model prog w) A (setAttr (.ref x) name v) Q E s := by
  obtain ⟨pre, post, rfl, rfl, a, b⟩ := U.split
  have X := X₀.keeps F.keep
  have hx' := (N _ hx).1
  have D : s.heap.get? dx = some (dictOf es n) := (N (dx, dictOf es n) (by simp)).1
  exact set_plain X (exc_instD hx' D) hs (osaE_dict (s := { s with toks := s.toks + 1 }) F X N a b hx' hc hm hd ha hl e hz fun h' F' N' => h h' F' N')
abbrev tupO (vs : List Value) : Obj := { cls := .type "tuple", data := .seq vs.toArray }
abbrev excBm : List Value := [.type "Exception", .type "BaseException", .type "object"]
abbrev excFs (t : Addr) : Array Value := #[.ref t, .none, .none, .none, .bool false, .none]
theorem ns_val {h : Heap} {N : Addr} {mg : Str → Option Value} {n : Str} {v : Value} (X : K.In h) (G : h.Ns N mg) (e : nsIn K N n = some (some v)) : mg n = some v := by
  obtain ⟨o, es, ep, ho, hd, _, hf⟩ := G
  unfold nsIn at e
  split at e
  · rename_i c d es' n' sl q
    have q' := X _ _ q
    rw [ho] at q'
    cases q'
    cases hd
    rw [← hf]
    unfold nsFind findBy
    rw [← Array.find?_toList]
    split at e
    · rename_i he
      rw [he]
      exact Option.some.inj e
    · split at e <;> cases e
  · cases e
theorem make_exc {rest : List Value} {nm q : Str} {bs : List Value} {sn : List Str} {sub : List Value} {ab : Bool} {col : Option Bool} {dd : Option Addr} {k0 k1 k2 k3 k5 : Option Value} {oI : Obj} {Q : Value → Shared → Prop} (F : Fr h₀ L s.heap m) (X₀ : K.In h₀) (N : News h₀ L s.heap news)
    (hl : K.lookup 33 = some (excClassObj nm q 33 32 bs excBm true sn sub ab col dd k0 k1 k2 k3 k5 "Exception.__new__")) (hok : nsOkIn K 32 = true) (hi : nsIn K 32 "__init__" = some (some (.ref 30))) (hf : K.lookup 30 = some oI)
    (h : ∀ e t h', Fr h₀ L h' m → News h₀ L h' ((e, excO none (excFs t)) :: (t, tupO rest) :: news) → OwnOff news [e, t] → @Ne Nat e t →
      codeAny (model prog w) (A.under (.builtin "type.__call__" ⟨.ref 33 :: rest, []⟩)) (.call (.ref 30) ⟨.ref e :: rest, []⟩) (InitBack e fun r s' => match r with | .ok (.ret v) => Q v s' | .ok _ => False | .error e => E e s') { s with heap := h' })
    (hfc : oI.cls = .type "function" := by rfl) (hrest : rest.length ≤ sizeLine := by size_fits) : wpAny (model prog w) A (call (.ref 33) rest) Q E s := by
  have X := X₀.keeps F.keep
  have hC := X _ _ hl
  have hn : s.heap.Ns 32 (s.heap.nsMap 32) := .of_isNs (isNs_of_in X hok)
  refine wpAny_call_exc_init PySem.F.excBase_Exception hC hn (ns_val X hn hi) (X _ _ hf) hfc (fun h' e hm => ?_) hrest
  obtain ⟨t, he, htn, ht⟩ := hm.there
  have old : ∀ b, s.heap.get? b = none → h₀.get? b = none := fun b hb => by
    cases q : h₀.get? b with
    | none => rfl
    | some o => have := F.keep b o q; rw [hb] at this; cases this
  have offL : ∀ b, s.heap.get? b = none → b ≠ L := fun b hb q => by
    obtain ⟨o, _, _, ho, _⟩ := F.ns
    rw [q, ho] at hb; cases hb
  have offN : ∀ b, s.heap.get? b = none → ∀ p ∈ news, p.1 ≠ b := fun b hb p hp q => by
    have := (N p hp).1; rw [q, hb] at this; cases this
  have het : e ≠ t := fun q => by
    rw [q, ht] at he
    have := Option.some.inj he
    simp only [Obj.mk.injEq, reduceCtorEq, false_and] at this
  have N' : News h₀ L h' ((e, excO none (excFs t)) :: (t, tupO rest) :: news) := fun p hp => by
    rcases List.mem_cons.mp hp with rfl | hp
    · exact ⟨he, offL e hm.new, old e hm.new⟩
    · rcases List.mem_cons.mp hp with rfl | hp
      · exact ⟨ht, offL t htn, old t htn⟩
      · exact ⟨hm.keeps _ _ (N p hp).1, (N p hp).2⟩
  have off : OwnOff news [e, t] := fun p hp b hb => by
    rcases List.mem_cons.mp hb with rfl | hb
    · exact offN _ hm.new p hp
    · rw [List.mem_singleton.mp hb]; exact offN t htn p hp
  refine wpAny_call (codeAny_mono (h e t h' (F.keeps hm.keeps) N' off het) fun r s' z => ?_)
  rcases r with er | (v | _ | _ | _) <;> first | exact z | exact z.elim
theorem init_excOwn {rest : List Value} {nm q : Str} {bs : List Value} {sn : List Str} {sub : List Value} {ab : Bool} {col : Option Bool} {dd : Option Addr} {k0 k1 k2 k3 k5 : Option Value} {t0 : Addr} {pre post : List (Addr × Obj)} {Q : Value → Shared → Prop} (F : Fr h₀ L s.heap m) (X₀ : K.In h₀) (N : News h₀ L s.heap (pre ++ (x, excO none (excFs t0)) :: post))
    (h1 : ∀ p ∈ pre, p.1 ≠ x) (h2 : ∀ p ∈ post, p.1 ≠ x)
    (hl : K.lookup 33 = some (excClassObj nm q 33 32 bs excBm true sn sub ab col dd k0 k1 k2 k3 k5 "Exception.__new__"))
    (h : ∀ t h', Fr h₀ L h' m → News h₀ L h' ((t, tupO rest) :: (pre ++ (x, excO none (excFs t)) :: post)) → (∀ p ∈ pre ++ (x, excO none (excFs t0)) :: post, p.1 < t) → Q .none { s with heap := h' })
    (hrest : rest.length ≤ sizeLine := by size_fits) : wpAny (model prog w) A (call (.builtin "Exception.__init__") (.ref x :: rest)) Q E s := by
  obtain ⟨hh, g, d, tk, os⟩ := s
  have X := X₀.keeps F.keep
  have hC := X _ _ hl
  have FB := PySem.F.excBase_Exception
  have he : hh.get? x = some (excO none (excFs t0)) := (N (x, _) (by simp)).1
  have lt : ∀ p ∈ pre ++ (x, excO none (excFs t0)) :: post, p.1 < hh.objs.size := fun p hp => Heap.lt_size (N p hp).1
  have hxs : x < hh.objs.size := Heap.lt_size he
  refine wpAny_call (codeAny_call_builtin FB.init.plain FB.initEntry (wpAny_check_init_sub FB hC he rfl ?_))
  unfold Builtin.«BaseException.__init__»
  dsimp only
  rw [if_neg (by simp)]
  unfold newTuple Builtin.BaseException.bexcPut
  have he₁ := Heap.get?_push_of_some (h := hh) (tupO rest) he
  obtain ⟨F₂, N₂⟩ := news_upd (pre := (hh.objs.size, tupO rest) :: pre) (post := post) (d := x) (o := excO none (excFs t0)) (o' := excO none (excFs hh.objs.size)) (f := Obj.mapFields (·.setIfInBounds 0 (.ref hh.objs.size))) (F.push (tupO rest)) (N.push F (tupO rest))
    (fun p hp => (List.mem_cons.mp hp).elim (fun e => by rw [e]; exact Nat.ne_of_gt hxs) (h1 p)) h2 rfl rfl
  refine wpAny_bind (wpAny_newObj_type (wpAny_bind (wpAny_bind (wpAny_field he₁ rfl (x := .ref t0) rfl (wpAny_bind (wpAny_setField he₁ rfl (show 0 < 6 by decide) ?_))))) (by show rest.toArray.size ≤ sizeLine; rw [List.size_toArray]; exact hrest))
  exact wpAny_letGo (wpAny_pure (h _ _ F₂ N₂ lt))
theorem off_all {e t : Addr} {o : Obj} (h : OwnOff news [e, t]) (n : @Ne Nat e t) : ∀ p ∈ (t, o) :: news, p.1 ≠ e := fun p hp => by
  rcases List.mem_cons.mp hp with rfl | hp
  · exact Ne.symm n
  · exact h p hp e (.head _)
theorem off_tail {a b c d : Addr × Obj} {dx : Addr} (h : ∀ p ∈ a :: b :: c :: d :: news, p.1 < dx) : OwnOff news [dx] := fun p hp y hy => by
  rw [List.mem_singleton.mp hy]; exact Nat.ne_of_lt (h p (.tail _ (.tail _ (.tail _ (.tail _ hp)))))
end
end
section
open PySem.Builtin PySem.Builtin.ObjectAttr
/-! trees that leave every object its dict -/
def DK (h h' : Heap) : Prop := ∀ (a : Nat) (o : Obj), h.objs[a]? = some o → ∃ o' : Obj, h'.objs[a]? = some o' ∧ o'.dict = o.dict
theorem DK.refl (h : Heap) : DK h h := fun _ o e => ⟨o, e, rfl⟩
theorem DK.trans {h₁ h₂ h₃ : Heap} (x : DK h₁ h₂) (y : DK h₂ h₃) : DK h₁ h₃ := fun a o e => by
  obtain ⟨o', e', d⟩ := x a o e
  obtain ⟨o'', e'', d'⟩ := y a o' e'
  exact ⟨o'', e'', d'.trans d⟩
theorem raw_of_get {h : Heap} {a : Addr} {o : Obj} (e : h.get? a = some o) : h.objs[a]? = some o := by
  unfold Heap.get? at e
  split at e
  · cases e
  · exact e
theorem DK.push {h : Heap} (o : Obj) : DK h (h.push o) := fun a o' e => by
  obtain ⟨objs, l⟩ := h
  refine ⟨o', ?_, rfl⟩
  show (objs.push o)[a]? = some o'
  rw [Array.getElem?_push]
  have : a < objs.size := (Array.getElem?_eq_some_iff.mp e).1
  rw [if_neg (Nat.ne_of_lt this)]; exact e
theorem DK.update {h : Heap} (b : Addr) {f : Obj → Obj} (hf : ∀ o, (f o).dict = o.dict) : DK h (h.update b f) := fun a o e => by
  obtain ⟨objs, l⟩ := h
  show ∃ o' : Obj, (objs.modify b f)[a]? = some o' ∧ o'.dict = o.dict
  rw [Array.getElem?_modify]
  split
  · exact ⟨f o, by rw [show objs[a]? = some o from e]; rfl, hf o⟩
  · exact ⟨o, e, rfl⟩
def Gen {α : Type} (t : Sem α) : Prop := ∀ M Γ Q E p s, Sem.wp M Γ t Q E p s → Sem.wp M Γ t (fun a p' s' => Q a p' s' ∧ DK s.heap s'.heap) (fun e p' s' => E e p' s' ∧ DK s.heap s'.heap) p s
theorem Gen.bind {α β : Type} {m : Sem α} {f : α → Sem β} (hm : Gen m) (hf : ∀ a, Gen (f a)) : Gen (m >>= f) := fun M Γ Q E p s h => by
  rw [Sem.wp_bind'] at h ⊢
  refine Sem.wp_mono M Γ m (fun a p' s' x => ?_) (fun e p' s' x => x) p s (hm M Γ _ _ p s h)
  exact Sem.wp_mono M Γ (f a) (fun b p'' s'' y => ⟨y.1, x.2.trans y.2⟩) (fun e p'' s'' y => ⟨y.1, x.2.trans y.2⟩) p' s' (hf a M Γ _ _ p' s' x.1)
theorem Gen.pure {α : Type} (a : α) : Gen (Pure.pure a : Sem α) := fun _ _ _ _ _ _ h => ⟨h, .refl _⟩
theorem Gen.uns {α : Type} (x : String) : Gen (PySem.unsupported x : Sem α) := fun M Γ Q E p s h => by simp [PySem.unsupported] at h
theorem Gen.load (a : Addr) : Gen (PySem.load a) := fun M Γ Q E p s h => by
  simp only [PySem.load, Sem.wp] at h ⊢
  obtain ⟨o, e, q⟩ := h
  exact ⟨o, e, q, .refl _⟩
theorem Gen.update (a : Addr) {f : Obj → Obj} (hf : ∀ o, (f o).dict = o.dict) : Gen (PySem.update a f) := fun M Γ Q E p s h => by
  simp only [PySem.update, Sem.wp] at h ⊢
  exact ⟨h.1, h.2, .update a hf⟩
theorem Gen.alloc (o : Obj) : Gen (PySem.alloc o) := fun M Γ Q E p s h => by
  simp only [PySem.alloc, Sem.wp] at h ⊢
  exact ⟨h, .push o⟩
theorem Gen.register (a : Addr) : Gen (PySem.register a) := fun M Γ Q E p s h => by
  simp only [PySem.register, Sem.wp] at h
theorem Gen.stack : Gen PySem.stack := fun M Γ Q E p s h => by
  simp only [PySem.stack, Sem.wp] at h ⊢
  exact ⟨h, .refl _⟩
theorem dict_mapFields (o : Obj) (f : Array Value → Array Value) : (o.mapFields f).dict = o.dict := by
  unfold Obj.mapFields; split <;> rfl
theorem gen_field (v : Value) (i : Nat) : Gen (field v i) := by unfold field fieldsOf; (repeat (first | exact Gen.pure _ | exact Gen.uns _ | exact Gen.load _ | exact Gen.stack | exact Gen.alloc _ | exact Gen.register _ | (exact Gen.update _ fun o => dict_mapFields o _) | (exact Gen.update _ fun _ => rfl) | assumption | refine Gen.bind ?_ fun _ => ?_ | split))
theorem gen_setField (v : Value) (i : Nat) (x : Value) : Gen (setField v i x) := by unfold setField updateField; (repeat (first | exact Gen.pure _ | exact Gen.uns _ | exact Gen.load _ | exact Gen.stack | exact Gen.alloc _ | exact Gen.register _ | (exact Gen.update _ fun o => dict_mapFields o _) | (exact Gen.update _ fun _ => rfl) | assumption | refine Gen.bind ?_ fun _ => ?_ | split))
theorem gen_newFields (ty : String) (vs : List Value) : Gen (newFields ty vs) := by unfold newFields newObj newObjAsIs classHasDel; dsimp only; (repeat (first | exact Gen.pure _ | exact Gen.uns _ | exact Gen.load _ | exact Gen.stack | exact Gen.alloc _ | exact Gen.register _ | (exact Gen.update _ fun o => dict_mapFields o _) | (exact Gen.update _ fun _ => rfl) | assumption | refine Gen.bind ?_ fun _ => ?_ | split))
theorem gen_setFlight (e : Value) (f : Option Addr) : Gen (setFlight e f) := by unfold setFlight; (repeat (first | exact gen_field _ _ | exact gen_setField _ _ _ | (first | exact Gen.pure _ | exact Gen.uns _ | exact Gen.load _ | exact Gen.stack | exact Gen.alloc _ | exact Gen.register _ | (exact Gen.update _ fun o => dict_mapFields o _) | (exact Gen.update _ fun _ => rfl) | assumption | refine Gen.bind ?_ fun _ => ?_ | split)))
theorem gen_ready : ∀ l, Gen (readyFrames l)
  | [] => Gen.pure _
  | env :: outer => by
    have ih := gen_ready outer
    unfold readyFrames behindIsImport keptBack underTheClaimsCaller
    (repeat (first | exact gen_field _ _ | exact gen_setField _ _ _ | (first | exact Gen.pure _ | exact Gen.uns _ | exact Gen.load _ | exact Gen.stack | exact Gen.alloc _ | exact Gen.register _ | (exact Gen.update _ fun o => dict_mapFields o _) | (exact Gen.update _ fun _ => rfl) | assumption | refine Gen.bind ?_ fun _ => ?_ | split)))
theorem gen_frameObject : ∀ l, Gen (frameObject l)
  | [] => Gen.pure _
  | _ :: _ => by unfold frameObject; exact Gen.bind (gen_ready _) fun _ => Gen.pure _
theorem gen_frameOf (env : Env) : Gen (PySem.frameOf env) := by
  unfold PySem.frameOf frameEnvs
  (repeat (first | exact gen_frameObject _ | (first | exact Gen.pure _ | exact Gen.uns _ | exact Gen.load _ | exact Gen.stack | exact Gen.alloc _ | exact Gen.register _ | (exact Gen.update _ fun o => dict_mapFields o _) | (exact Gen.update _ fun _ => rfl) | assumption | refine Gen.bind ?_ fun _ => ?_ | split)))
theorem gen_note (e : Value) (env : Env) : Gen (noteFrame e env) := by
  unfold noteFrame entryPlaceOf EntryCells.newEntry
  (repeat (first | exact gen_field _ _ | exact gen_setField _ _ _ | exact gen_newFields _ _ | exact gen_frameOf _ | (first | exact Gen.pure _ | exact Gen.uns _ | exact Gen.load _ | exact Gen.stack | exact Gen.alloc _ | exact Gen.register _ | (exact Gen.update _ fun o => dict_mapFields o _) | (exact Gen.update _ fun _ => rfl) | assumption | refine Gen.bind ?_ fun _ => ?_ | split)))
theorem gen_leaving (env : Env) (e : Value) : Gen (leaving env e) := by unfold leaving; exact Gen.bind (gen_note _ _) fun _ => gen_setFlight _ _
theorem Gen.any {α : Type} {t : Sem α} (g : Gen t) {M : Model} {A : Around} {Q : α → Shared → Prop} {E : Value → Shared → Prop} {s : Shared} (h : wpAny M A t Q E s) :
    wpAny M A t (fun a s' => Q a s' ∧ DK s.heap s'.heap) (fun e s' => E e s' ∧ DK s.heap s'.heap) s := fun Γ p hΓ => g M Γ _ _ p s (h Γ p hΓ)
end
section
open PySem.Builtin PySem.Builtin.ObjectAttr
/-! raising and leaving with an exception of class Raised whose dict is kept -/
def ClsR (h : Heap) : Prop := ∃ nm q bs sn sub ab col dd k0 k1 k2 k3 k5, h.get? 33 = some (excClassObj nm q 33 32 bs excBm true sn sub ab col dd k0 k1 k2 k3 k5 "Exception.__new__")
def Made (E : Value → Shared → Prop) (v : Value) (s₁ : Shared) : Prop := ∃ (e d t : Addr), v = .ref e ∧ ClsR s₁.heap ∧ s₁.heap.get? e = some (excO (some d) (excFs t)) ∧ E (.ref e) s₁
section
variable {prog : Program} {w : World} {M : Model} {A : Around} {E : Value → Shared → Prop} {s : Shared} {K : Frag} {L a e d t0 : Addr} {h₀ : Heap} {m : Str → Option Value} {news : List (Addr × Obj)}
theorem raise_made {x : PySem.Expr} {pos : Pos} {env : Env} {Q : Flow → Shared → Prop} (hh : A.handled = none) (h : wpAny M A (eval x env) (Made E) E s) : wpAny M A (exec (.Raise (some x) none pos) env) Q E s := by
  rw [arm_exec_Raise]
  refine wpAny_bind (wpAny_standAt ?_)
  show wpAny M A (raiseStmt env (some (do let v ← eval x env; standAt pos; pure v)) none) Q E s
  unfold raiseStmt
  refine wpAny_bind (wpAny_bind (wpAny_mono h (fun v s₁ h₁ => wpAny_bind (wpAny_standAt (wpAny_pure ?_))) fun _ _ x => x))
  obtain ⟨e, d, t, rfl, ⟨nm, q, bs, sn, sub, ab, col, dd, k0, k1, k2, k3, k5, hC⟩, he, hE⟩ := h₁
  obtain ⟨hp, g, dr, tk, os⟩ := s₁
  have hcB : (Value.ref 33 :: excBm).contains (.type "BaseException") = true := by decide
  repeat (first | with_reducible refine wpAny_loadPart_at he ?_ | with_reducible refine wpAny_loadPart_at hC ?_ | (with_reducible refine wpAny_isSubtype_exc hC ?_; rw [hcB]) | wp_step)
  exact wpAny_raiseNew_none hh hE
def RaisedD (base : Heap) (l : List Env) (e d : Addr) (news : List (Addr × Obj)) (h : Heap) : Prop := RaisedN base l e (.ref 33) news h ∧ ∃ o : Obj, h.objs[e]? = some o ∧ o.dict = some d
theorem raisedD_of {h h' : Heap} {base : Heap} {l : List Env} (R : RaisedN base l e (.ref 33) news h') (D : DK h h') {o : Obj} (ho : h.objs[e]? = some o) (hd : o.dict = some d) : RaisedD base l e d news h' := by
  obtain ⟨o', ho', hd'⟩ := D e o ho
  exact ⟨R, o', ho', hd'.trans hd⟩
variable {base g g₂ : Heap} {outer : List Env} {name : Str} {scope : Scope} {cd : Value} {Q : Unit → Shared → Prop} {s' : Shared}
theorem leave_newD (K : Below A base outer g) (F : Fr g L s'.heap m) (N : News g L s'.heap news) (ne : g.get? e = none) (neL : e ≠ L) (off : ∀ q ∈ news, q.1 ≠ e) (hx : s'.heap.get? e = some (excO (some d) (excFs t0)))
    (hQ : ∀ h', RaisedD base outer e d news h' → g.UpToSlots h' → Q () { s' with heap := h' }) (hk : scope.kind = .function) :
    wpAny M (A.deeper (envOf name scope L a cd)) (leaving (envOf name scope L a cd) (.ref e)) Q E s' := by
  have K' := K.push (name := name) (a := a) (cd := cd) F hk
  have hin : ∀ env ∈ (envOf name scope L a cd :: outer), ∀ b, env.frame = some b → b ∈ e :: (envOf name scope L a cd :: outer).filterMap (·.frame) := fun env he b hb => .tail _ (List.mem_filterMap.mpr ⟨env, he, hb⟩)
  have neF : e ∉ (envOf name scope L a cd :: outer).filterMap (·.frame) := fun hm => by
    obtain ⟨_, o, ho, hnf⟩ := K'.frames.mem hm
    rw [hx] at ho; cases ho; exact hnf _ rfl
  have neB : base.get? e = none := fresh_of_stays K.stays ne
  have st : base.StaysIn (hideAll s'.heap (e :: (envOf name scope L a cd :: outer).filterMap (·.frame))) := fun b o q => hideAll_get _ (K'.stays b o q) fun hm => by
    rcases List.mem_cons.mp hm with rfl | hm
    · rw [neB] at q; cases q
    · rw [(K'.frames.mem hm).1] at q; cases q
  have hl : ∀ q ∈ news, (hideAll s'.heap (e :: (envOf name scope L a cd :: outer).filterMap (·.frame))).get? q.1 = some q.2 ∧ base.get? q.1 = none := fun q hq => by
    refine ⟨hideAll_get _ (N q hq).1 fun hm => ?_, fresh_of_stays K.stays (N q hq).2.2⟩
    rcases List.mem_cons.mp hm with hm | hm
    · exact off q hq hm
    obtain ⟨env, he, hf⟩ := List.mem_filterMap.mp hm
    rcases List.mem_cons.mp he with rfl | he
    · exact (N q hq).2.1 (Option.some.inj hf).symm
    · obtain ⟨o, ho, _⟩ := (K.frames.mem (List.mem_filterMap.mpr ⟨env, he, hf⟩)).2
      rw [(N q hq).2.2] at ho; cases ho
  have hen : (hideAll s'.heap (e :: (envOf name scope L a cd :: outer).filterMap (·.frame))).get? e = none := hideAll_none _ (.head _)
  refine wpAny_mono (gen_leaving _ _ |>.any (wpAny_leaving_firstW (a0 := .ref t0) K'.stack (funFrames_hide K'.frames hin) rfl hx (fun b o hb => of_hideAll _ hb) hen rfl rfl rfl (Q := fun _ s₂ => ∃ h', s₂ = { s' with heap := h' } ∧ RaisedN base outer e (.ref 33) news h' ∧ g.UpToSlots h') fun h' hL => ?_)) (fun _ s₂ x => ?_) (fun _ _ x => x.1)
  · obtain ⟨k1, ⟨_, _, k2⟩, k3, k4⟩ := hL
    exact ⟨h', rfl, ⟨_, .ref t0, st, hl, k1, hen, k2, k3⟩, (Heap.UpToSlots.of_keeps F.keep).trans k4⟩
  · obtain ⟨⟨h', rfl, R, U⟩, D⟩ := x
    exact hQ h' (raisedD_of R D (raw_of_get hx) rfl) U
theorem leave_onD (K : Below A base outer g) (F : Fr g L g₂ m) (R : RaisedD base (envOf name scope L a cd :: outer) e d news s'.heap) (hsm : g₂.UpToSlots s'.heap)
    (hQ : ∀ h', RaisedD base outer e d news h' → g.UpToSlots h' → Q () { s' with heap := h' }) :
    wpAny M (A.deeper (envOf name scope L a cd)) (leaving (envOf name scope L a cd) (.ref e)) Q E s' := by
  obtain ⟨R, o, ho, hd⟩ := R
  refine wpAny_mono (gen_leaving _ _ |>.any (leave_onN K F R hsm (Q := fun _ s₂ => ∃ h', s₂ = { s' with heap := h' } ∧ RaisedN base outer e (.ref 33) news h' ∧ g.UpToSlots h') fun h' R' U' => ⟨h', rfl, R', U'⟩)) (fun _ s₂ x => ?_) (fun _ _ x => x.1)
  obtain ⟨⟨h', rfl, R, U⟩, D⟩ := x
  exact hQ h' (raisedD_of R D ho hd) U
end
end
section
open PySem.Builtin PySem.Builtin.ObjectAttr
/-! an exception of class Raised caught by its name, its dict kept -/
abbrev excH (d : Addr) (ws : Array Value) (sl : Array (Option Value)) : Obj := ⟨.ref 33, some d, .fields ws, sl⟩
theorem InstAt.of_exc {h₀ h : Heap} {L x dx : Addr} {news : List (Addr × Obj)} {od : Obj} {ws : Array Value} {sl : Array (Option Value)} (N : News h₀ L h news) (h1 : (x, excH dx ws sl) ∈ news) (h2 : (dx, od) ∈ news) :
    InstAt h x (excH dx ws sl) 33 (some od) := ⟨(N _ h1).1, rfl, rfl, (N _ h2).1⟩
section
variable {prog : Program} {w : World} {A₀ : Around} {E : Value → Shared → Prop} {s' : Shared} {h₀ h : Heap} {outer : List Env} {L a e d : Addr} {m : Str → Option Value} {name : Str} {scope : Scope} {cd : Value}
  {n : Str} {b₀ : Stmt} {suite : List Stmt} {pos np : Pos} {rest : List ExceptHandler} {Q : Flow → Shared → Prop} {news : List (Addr × Obj)} {KF : Frag}
  {p : Program} {loose : List Str} {mean : ExcName → Option Value} {mg mb : Str → Option Value} {x : Str}
  {nm q : Str} {bs : List Value} {sn : List Str} {sub : List Value} {ab : Bool} {col : Option Bool} {dd : Option Addr} {k0 k1 k2 k3 k5 : Option Value}
theorem caught_D (K : Below A₀ h₀ outer h₀) (F : Fr h₀ L h m) (hsm : h.UpToSlots s'.heap) (R : RaisedD h₀ (envOf name scope L a cd :: outer) e d news s'.heap)
    (X : KF.In h₀) (T : TopRead p loose mg mb h₀) (ex : nsIn KF mainGlobals x = some (some (.ref 33))) (hl : KF.lookup 33 = some (excClassObj nm q 33 32 bs excBm true sn sub ab col dd k0 k1 k2 k3 k5 "Exception.__new__"))
    (k : ∀ h' tk ws sl, Fr h₀ L h' (fun y => if y = n then some (.ref e) else m y) → News h₀ L h' ((e, excH d ws sl) :: news) →
      wpAny (model prog w) ((A₀.deeper (envOf name scope L a cd)).mark (some (.ref e))) (execs (b₀ :: suite) (envOf name scope L a cd))
        (fun f s₄ => wpAny (model prog w) (A₀.deeper (envOf name scope L a cd)) (do bindName (envOf name scope L a cd) n .none; unbindBehindTheSuite (envOf name scope L a cd) n pos) (fun _ s₅ => Q f s₅) E s₄)
        (AsSuiteRaised (model prog w) ((A₀.deeper (envOf name scope L a cd)).mark (some (.ref e))) (envOf name scope L a cd) n pos (notedBy (model prog w) ((A₀.deeper (envOf name scope L a cd)).mark (some (.ref e))) (envOf name scope L a cd) (cameBackBy (model prog w) (A₀.deeper (envOf name scope L a cd)) (envOf name scope L a cd) E)))
        { s' with heap := h', toks := tk })
    (hk : scope.kind = .function := by rfl) (hlo : (envOf name scope L a cd).kindOf n = some .local := by rfl) (hx : (envOf name scope L a cd).kindOf x = some .globalImplicit := by rfl) (hd : (x == ("__debug__" : Str)) = false := by decide) :
    wpAny (model prog w) (A₀.deeper (envOf name scope L a cd)) (noteFrame (.ref e) (envOf name scope L a cd))
      (fun _ s₂ => wpAny (model prog w) (A₀.deeper (envOf name scope L a cd)) (setFlight (.ref e) none) (fun _ s₃ =>
        wpAny (model prog w) (A₀.deeper (envOf name scope L a cd)) (handleBy (.ref e) (envOf name scope L a cd) (.ExceptHandler (some (.Name x np)) (some n) (b₀ :: suite) pos :: rest)) Q E s₃) E s₂) E s' := by
  obtain ⟨⟨B, a0, hB, hln, hfl⟩, od, hod, hodd⟩ := R
  have hL : B.get? L = none := by
    obtain ⟨_, ⟨L', _, hf, hn', _⟩, _⟩ := hfl.2.2.1
    obtain rfl : L = L' := Option.some.inj hf
    exact hn'
  refine wpAny_mono ((gen_note _ _).any (wpAny_looks_onW (Around.frames_deeper K.stack) rfl hfl (Q := fun _ s₂ => ∃ h₄, s₂ = { s' with heap := h₄ } ∧ Heap.HeldW B (envOf name scope L a cd :: outer) e (.ref 33) a0 L h₄ ∧ s'.heap.UpToSlots h₄) fun h₄ x1 x2 => ⟨h₄, rfl, x1, x2⟩)) (fun _ s₂ z => ?_) (fun _ _ z => z.1)
  obtain ⟨⟨h₄, rfl, hheld₄, hsm₄⟩, D₄⟩ := z
  refine wpAny_mono ((gen_setFlight _ _).any (wpAny_landsW hheld₄ (Q := fun _ s₃ => ∃ h₅, s₃ = { s' with heap := h₅ } ∧ Heap.FlyingW B (envOf name scope L a cd :: outer) e (.ref 33) a0 h₅ ∧ h₄.UpToSlots h₅) fun h₅ x1 x2 => ⟨h₅, rfl, x1, x2⟩)) (fun _ s₃ z => ?_) (fun _ _ z => z.1)
  obtain ⟨⟨h₅, rfl, hheld, hsm₅'⟩, D₅⟩ := z
  have hsm₅ := hsm₄.trans hsm₅'
  have hheld' := flyingW_base hB hheld
  have F₅ := F.of_stays hheld'.1 (hsm.trans hsm₅)
  obtain ⟨ob, hob, hobc⟩ := hheld'.there
  refine wpAny_handleBy_cons (codeAny_handlers_test (name_K F₅ X T ex ?_ hk hx hd)) (by intro q; cases q)
  have hC : h₅.get? 33 = _ := F₅.keep _ _ (X _ _ hl)
  refine wpAny_excMatches_sub_self hC hob hobc (by decide) (codeAny_handlers_suite_as ?_)
  refine wpAny_mono ((gen_setFlight _ _).any (lands_againW hheld (Q := fun _ s₃ => ∃ h₆, s₃ = { s' with heap := h₆ } ∧ Heap.FlyingW B (envOf name scope L a cd :: outer) e (.ref 33) a0 h₆ ∧ h₅.UpToSlots h₆) fun h₆ x1 x2 => ⟨h₆, rfl, x1, x2⟩)) (fun _ s₃ z => ?_) (fun _ _ z => z.1)
  obtain ⟨⟨h₆, rfl, hfl₆, hsm₆⟩, D₆⟩ := z
  have hfl₆' := flyingW_base hB hfl₆
  have F₆ := F.of_stays hfl₆'.1 ((hsm.trans hsm₅).trans hsm₆)
  obtain ⟨oe, ws, hoe, hoec, hoed, hoe0⟩ := hfl₆'.first
  obtain ⟨o', ho', hdd'⟩ := ((D₄.trans D₅).trans D₆) e od hod
  have eo : oe = o' := Option.some.inj ((raw_of_get hoe).symm.trans ho')
  have hoeD : oe.dict = some d := by rw [eo, hdd', hodd]
  have eoe : oe = excH d ws oe.slots := by
    obtain ⟨c1, c2, c3, c4⟩ := oe
    dsimp only at hoec hoed hoeD
    subst hoec hoed hoeD
    rfl
  have N₆ := News.more F₆ News.nil hoe (fun es n q => by rw [hoed] at q; cases q) hfl₆'.2.1
  have Nl : News h₀ L h₆ ((e, oe) :: news) := fun q hq => by
    rcases List.mem_cons.mp hq with rfl | hq
    · exact N₆ _ (.head _)
    · exact ⟨hfl₆.1 _ _ (hln q hq).1, (fun z => by have := (hln q hq).1; rw [z, hL] at this; cases this), (hln q hq).2⟩
  rw [eoe] at Nl
  exact stN F₆ Nl (fun h₇ F₇ N₇ => k h₇ _ _ _ F₇ N₇) hk hlo
end
end
section
/-! reading a field of an exception of class Raised -/
section
variable {prog : Program} {w : World} {A : Around} {E : Value → Shared → Prop} {s : Shared} {K : Frag} {x L : Addr} {h₀ : Heap} {m : Str → Option Value} {news : List (Addr × Obj)}
theorem gaE_call {ox : Obj} {od : Option Obj} {name : Str} {tk : Tok} {v : Value} {cd : ClassData} {R : Result → Shared → Prop} (X : K.In s.heap) (I : InstAt s.heap x ox 33 od) (hc : clsIn K 33 = some cd) (hm : cd.mro = excMro) (hf : findObj K 33 od name = some (.value v))
    (h : R (.ok (.ret v)) s) : codeAny (model prog w) A (.call (.builtin "BaseException.__getattribute__") ⟨[.ref x, .str name tk], []⟩) R s := by
  have FB := PySem.F.attrBase_Exception
  have hk : builtinKind "BaseException.__getattribute__" = some .slot := by decide +kernel
  have hsplit : splitId "BaseException.__getattribute__" = some ("BaseException", "__getattribute__") := by decide +kernel
  have sub : Looks (model prog w) s.heap (isInstance (.ref x) (.type "BaseException")) true := I.type.andThen (looks_mroIn X (by unfold mroIn; rw [hc, Option.bind_some, hm]; decide))
  have L1 := looks_find (M := model prog w) X I hf
  refine codeAny_call_builtin FB.ga.plain F.entry_bexc_ga (@check_slot (model prog w) _ _ s "BaseException.__getattribute__" "BaseException" "__getattribute__" (.ref x) [.str name tk] [] _ hk hsplit sub (F.args_bexc_ga (.ref x) (.str name tk)) ?_)
  refine wpAny_bind (wpAny_pure (wpAny_bind (wpAny_pure (wpAny_bind (I.type.here (wpAny_bind (L1.here ?_)))))))
  exact wpAny_pure h
theorem get_excO {expr : Bool} {ox : Obj} {od : Option Obj} {name : Str} {v : Value} {cd : ClassData} {Q : Value → Shared → Prop} (X : K.In s.heap) (I : InstAt s.heap x ox 33 od) (hga : findIn K (.ref 33) "__getattribute__" = some (some (.builtin "BaseException.__getattribute__"))) (hgt : findIn K (.ref 33) "__getattr__" = some none)
    (hc : clsIn K 33 = some cd) (hm : cd.mro = excMro) (hf : findObj K 33 od name = some (.value v)) (hh : handedIn v = true) (h : Q v { s with toks := s.toks + 1 }) :
    wpAny (model prog w) A (getAttr (.ref x) name expr) Q E s := by
  obtain ⟨hp, g, d, t, os⟩ := s
  have FB := PySem.F.attrBase_Exception
  have L0 := I.type (M := model prog w)
  have L1 := looks_findIn (M := model prog w) X hga
  have L2 := looks_findIn (M := model prog w) X hgt
  have hx2 : (Value.builtin "BaseException.__getattribute__" == Value.builtin "object.__getattribute__") = false := by decide +kernel
  have hx1 : (onTheHeap (Value.ref 33) && Value.builtin "BaseException.__getattribute__" == Value.builtin "object.__getattribute__") = false := by rw [hx2]; rfl
  have hx0 : (expr && onTheHeap (Value.builtin "BaseException.__getattribute__")) = false := by cases expr <;> rfl
  have f3 := FB.ga.bind (.ref x)
  unfold getAttr getAttrBy
  refine wpAny_bind (wpAny_mkText (wpAny_holding (wpAny_bind (L0.at (wpAny_bind (L1.at ?_))))))
  dsimp only
  rw [hx1]
  show wpAny _ _ (getAttrByItsOwn _ _ _ _ _ _) _ _ _
  unfold getAttrByItsOwn
  refine wpAny_bind (show wpAny _ _ (hookBefore (.ref 33)) _ _ _ from L2.at ?_)
  refine wpAny_bind (wpAny_attempt (wpAny_holding ?_))
  unfold callGetattribute
  rw [hx0]
  show wpAny _ _ (boundAndCalled _ _ _) _ _ _
  unfold boundAndCalled
  rw [f3]
  refine wpAny_bind (wpAny_pure ?_)
  refine wpAny_call (gaE_call X I hc hm hf ?_)
  show wpAny _ _ (handedOut v) _ _ _
  rw [handedOut_of hh]
  exact wpAny_pure h
theorem get_excF {expr : Bool} {fs : Array Value} {sl : Array (Option Value)} {dx : Addr} {es : List DictEntry} {n : Nat} {name : Str} {v : Value} {cd : ClassData} {attr : Option Value} {Q : Value → Shared → Prop} (F : Fr h₀ L s.heap m) (X₀ : K.In h₀) (N : News h₀ L s.heap news) (h1 : (x, excH dx fs sl) ∈ news) (h2 : (dx, dictOf es n) ∈ news)
    (hga : findIn K (.ref 33) "__getattribute__" = some (some (.builtin "BaseException.__getattribute__"))) (hgt : findIn K (.ref 33) "__getattr__" = some none)
    (hc : clsIn K 33 = some cd) (hm : cd.mro = excMro) (hd : hasDictIn K 33 = true) (ha : findIn K (.ref 33) name = some attr) (hn : noGet K attr = true) (hl : getL name es = some (some v)) (hh : handedIn v = true) (h : Q v { s with toks := s.toks + 1 }) :
    wpAny (model prog w) A (getAttr (.ref x) name expr) Q E s :=
  get_excO (X₀.keeps F.keep) (InstAt.of_exc N h1 h2) hga hgt hc hm (findObj_own hd ha hn (by rw [lookIn_dict]; exact hl)) hh h
end
end
section
/-! a comprehension over the signs of a text, bound to a name -/
section
variable {prog : Program} {w : World} {A : Around} {E : Value → Shared → Prop} {s : Shared} {h₀ : Heap} {L : Addr} {m : Str → Option Value} {env : Env}
/-- the source is a text -/
def SrcS (prog : Program) (w : World) (A : Around) (h₀ : Heap) (L : Addr) (m : Str → Option Value) (env : Env) (elt : PySem.Expr) (x : Str) (scope : Scope) (cl : List (Str × Addr)) (Fin : Shared → List Value → List (Addr × Obj) → Prop) (xv : Value) (s₁ : Shared) : Prop :=
  ∃ xt tx news, xv = .str xt tx ∧ A.handled = none ∧ Fr h₀ L s₁.heap m ∧ News h₀ L s₁.heap news ∧ xt.cps.size ≤ sizeLine ∧
    ∀ s₂ : Shared, (∃ h, s₂ = { s₁ with heap := h }) → LCg.CompRest prog w A h₀ L m env elt x scope cl s₂ (fun _ => True) (SignAt xt) (Fin s₂) xt.cps.size 0 [] news
theorem str_st {I : Addr} {ty : String} {xt : Str} {tx : Tok} : ∀ i (h h' : Heap) (o : Obj) (nw : List (Addr × Obj)), h.IsStrIter I ty xt tx i → h.get? I = some o → h'.get? I = some o → (∀ b o, h₀.get? b = some o → h'.get? b = some o) → News h₀ L h' nw → True → h'.IsStrIter I ty xt tx i :=
  fun i h h' o nw st e e' _ _ _ => by obtain ⟨o', q, r⟩ := st; rw [e] at q; cases q; exact ⟨o, e', r⟩
theorem Assign_ListComp_S {elt iter : PySem.Expr} {x y : Str} {px py : Pos} {scope : Scope} {cl : List (Str × Addr)} {pos spos : Pos} {Q : Flow → Shared → Prop} (F₀ : Fr h₀ L s.heap m) (hLe : env.locals = L)
    (hsw : swapsWith (.ListComp elt [⟨.Name x px, iter, [], 0⟩] scope pos) (some (.Name y py)) spos.line env = pure true)
    (hclos : closureFor scope env = pure cl) (hcell : ∀ z ∈ scope.names, z.2 ≠ .cell) (hkind : scope.kind = .function)
    (hnames : ∀ z ∈ scope.names, z.2 = .local → scope.names.lookup z.1 = some .local) (hx : scope.names.lookup x = some .local)
    (hy : env.kindOf y = some .local) (hp : (env.scope.kind == .class || (env.scope.kind == .module && env.locals != env.globals)) = false)
    (h : wpAny (model prog w) A (eval iter env) (SrcS prog w A h₀ L m env elt x scope cl (fun s₂ => LCg.FinA h₀ L m s₂ y Q)) E s)
    (hs : ∀ x, foldedSetIterable iter env x = pure x := by intro _; rfl) :
    wpAny (model prog w) A (exec (.Assign [.Name y py] (.ListComp elt [⟨.Name x px, iter, [], 0⟩] scope pos) spos) env) Q E s := by
  subst hLe
  rw [exec_Assign_Name_used _ _ _ _ hsw]
  refine wpAny_bind (wpAny_standAt (wpAny_bind ?_))
  show wpAny _ A (do let _ ← comprehension (.ListComp elt [⟨.Name x px, iter, [], 0⟩] scope pos) scope env _ (newList []) false (eval iter env) (some (assign (.Name y py) env))) _ _ s
  refine wpAny_bind (wpAny_mono (wpAny_comprehension_free (use := some (assign (.Name y py) env)) (Q := fun _ s' => Q .next s') rfl hs hclos hkind hnames
    (wpAny_mono h (fun xv s₁ h₁ => ?_) fun _ _ e => e)) (fun _ s' hq => wpAny_pure (wpAny_pure hq)) fun _ _ e => e)
  obtain ⟨xt, tx, news, rfl, hh, F, N, hsz, R⟩ := h₁
  cases ha : xt.cps.all (· < 128)
  · refine wpAny_pyIter_wide ha ?_
    refine LCg.block_U (Walks.strWide hh s₁.heap.objs.size xt tx) hsz (fun i h st => by obtain ⟨o, e, _⟩ := st; exact ⟨o, e⟩) str_st hcell hkind hx ⟨_, Heap.get?_push_size _ rfl, rfl, rfl⟩ (fun b hb => ?_)
      (F.keeps fun _ _ e => Heap.get?_push_of_some _ e) (N.grown fun _ _ e => Heap.get?_push_of_some _ e) (Nat.ne_of_lt F.ns.lt) (next_is_new F) (fun p hp => Nat.ne_of_lt (Heap.lt_size (N p hp).1)) trivial (R _ ⟨_, rfl⟩) ?_
    · rw [List.mem_singleton.mp hb]
      show s₁.heap.objs.size < (s₁.heap.push _).objs.size
      rw [Heap.size_push]; exact Nat.lt_succ_self _
    · intro D C h' tk m' ys news' F' N' o1 hn hC₀ hD₀ hCL hDL hCD offC fin
      show wpAny _ A (assign (.Name y py) env (.ref D)) _ _ _
      refine wpAny_assign_Name (wpAny_storeName_local hy F'.ns (fun h₂ hn₂ hs₂ => ?_) hp)
      have hL₀ : h₀.get? env.locals = none := Heap.get?_none_of_le F'.above
      have F₂ : Fr h₀ env.locals h₂ (fun z => if z = y then some (.ref D) else m z) := ⟨hn₂, fun b o e => hs₂.extBut b o (fun q => by rw [q, hL₀] at e; cases e) (F'.keep b o e), F'.above⟩
      refine ⟨m', hn.sameBut hs₂ hCL, fun h'' hs'' => fin D h'' _ (F₂.change hs'' hCL hC₀) (fun p hp => ?_) o1⟩
      have z : h₂.get? p.1 = some p.2 := hs₂.extBut _ _ (N' p hp).2.1 (N' p hp).1
      refine ⟨hs''.extBut _ _ ?_ z, (N' p hp).2⟩
      rcases List.mem_cons.mp hp with rfl | hp
      · exact Ne.symm hCD
      · exact offC p hp
  · refine wpAny_pyIter_ascii ha ?_
    refine LCg.block_U (Walks.strAscii hh s₁.heap.objs.size xt tx) hsz (fun i h st => by obtain ⟨o, e, _⟩ := st; exact ⟨o, e⟩) str_st hcell hkind hx ⟨_, Heap.get?_push_size _ rfl, rfl, rfl⟩ (fun b hb => ?_)
      (F.keeps fun _ _ e => Heap.get?_push_of_some _ e) (N.grown fun _ _ e => Heap.get?_push_of_some _ e) (Nat.ne_of_lt F.ns.lt) (next_is_new F) (fun p hp => Nat.ne_of_lt (Heap.lt_size (N p hp).1)) trivial (R _ ⟨_, rfl⟩) ?_
    · rw [List.mem_singleton.mp hb]
      show s₁.heap.objs.size < (s₁.heap.push _).objs.size
      rw [Heap.size_push]; exact Nat.lt_succ_self _
    · intro D C h' tk m' ys news' F' N' o1 hn hC₀ hD₀ hCL hDL hCD offC fin
      show wpAny _ A (assign (.Name y py) env (.ref D)) _ _ _
      refine wpAny_assign_Name (wpAny_storeName_local hy F'.ns (fun h₂ hn₂ hs₂ => ?_) hp)
      have hL₀ : h₀.get? env.locals = none := Heap.get?_none_of_le F'.above
      have F₂ : Fr h₀ env.locals h₂ (fun z => if z = y then some (.ref D) else m z) := ⟨hn₂, fun b o e => hs₂.extBut b o (fun q => by rw [q, hL₀] at e; cases e) (F'.keep b o e), F'.above⟩
      refine ⟨m', hn.sameBut hs₂ hCL, fun h'' hs'' => fin D h'' _ (F₂.change hs'' hCL hC₀) (fun p hp => ?_) o1⟩
      have z : h₂.get? p.1 = some p.2 := hs₂.extBut _ _ (N' p hp).2.1 (N' p hp).1
      refine ⟨hs''.extBut _ _ ?_ z, (N' p hp).2⟩
      rcases List.mem_cons.mp hp with rfl | hp
      · exact Ne.symm hCD
      · exact offC p hp
end
section
variable {prog : Program} {w : World} {A : Around} {h₀ : Heap} {L : Addr} {m : Str → Option Value} {env : Env} {elt : PySem.Expr} {x : Str} {scope : Scope} {cl : List (Str × Addr)} {s : Shared} {Fin : List Value → List (Addr × Obj) → Prop} {news : List (Addr × Obj)}
/-- one sign's number -/
def SgEl (news : List (Addr × Obj)) (v : Int) (y : Value) (news' : List (Addr × Obj)) : Prop := news' = news ∧ IntIs v y
theorem ints_snoc {v : Int} {t : Tok} : ∀ {vs : List Value} {ns : List Int}, IntsAre vs ns → IntsAre (vs ++ [.int v t]) (ns ++ [v])
  | _, _, h => IntsAre.append h (.cons v t .nil)
theorem sg_rest {xt : Str} (f : Nat → Int)
    (turn : ∀ c t I oI C oC D m₂ ys h tk (E' : Value → Shared → Prop), LCg.NsObj oC m₂ → m₂ x = some (.str ⟨#[c]⟩ t) → Fr h₀ L h m → News h₀ L h ((I, oI) :: (C, oC) :: (D, LCg.lst ys) :: news) → LCg.Off3 I C D news → ((@Ne Nat I C) ∧ (@Ne Nat I D) ∧ (@Ne Nat C D)) →
      wpAny (model prog w) A (eval elt (compEnvC scope cl C env)) (LCg.CompEnd h₀ L m { s with heap := h, toks := tk } I oI C oC D (LCg.lst ys) (fun _ => True) (fun y news' => SgEl news (f c) y news')) E' { s with heap := h, toks := tk })
    (fin : ∀ ys, IntsAre ys (xt.cps.toList.map f) → Fin ys news) : LCg.CompRest prog w A h₀ L m env elt x scope cl s (fun _ => True) (SignAt xt) Fin xt.cps.size 0 [] news := by
  have key : ∀ (j i : Nat) (ys : List Value), i + j = xt.cps.size → IntsAre ys ((xt.cps.toList.take i).map f) → LCg.CompRest prog w A h₀ L m env elt x scope cl s (fun _ => True) (SignAt xt) Fin j i ys news := by
    intro j
    induction j with
    | zero =>
      intro i ys hi hy
      refine LCg.CompRest.zero (fin ys ?_)
      rwa [List.take_of_length_le (by simp; omega)] at hy
    | succ j ih =>
      intro i ys hi hy
      refine LCg.CompRest.succ ?_
      rintro v I oI C oC D m₂ h tk E' ⟨c, t, hc, rfl⟩ hC hx F N off ne
      refine wpAny_mono (turn c t I oI C oC D m₂ ys h tk E' hC hx F N off ne) (fun y s₂ hq => ?_) fun _ _ e => e
      obtain ⟨h', tk', nw, e, F', N', off', hS, hn, ⟨t'⟩⟩ := hq
      rw [hn] at N' off'
      refine ⟨h', tk', news, e, F', N', off', hS, ih (i + 1) _ (by omega) ?_⟩
      have hl : i < xt.cps.toList.length := by simp; omega
      have e1 : xt.cps.toList[i] = c := by
        have := hc
        rw [← Array.getElem?_toList, List.getElem?_eq_getElem hl] at this
        exact Option.some.inj this
      rw [List.take_succ_eq_append_getElem hl, e1, List.map_append]
      exact ints_snoc hy
  exact key _ 0 [] (by omega) (by simpa using IntsAre.nil)
end
end
section
section
/-- the call of error: a new exception of class Raised whose dict tells the code, the words and the error code -/
def ErrMeets (w : World) (n : Nat) (x : Str) (t : Tok) (et : Addr) (to : Obj) : Prop :=
  ∀ (prog : Program) (mean : ExcName → Option Value) (mg mb : Str → Option Value) (dp un : Nat) (gd : Option (List Code)) (cn : Str) (cs : Scope) (a : Addr) (ccd : Value) (cl : List (Str × Addr)) (outer : List Env) (A₀ : Around) (base h₀ : Heap) (L : Addr) (m : Str → Option Value)
    (news : List (Addr × Obj)) (s : Shared) (Q E : Value → Shared → Prop),
    Below A₀ base outer h₀ → Fr h₀ L s.heap m → (hd.heap_1 w.params).In h₀ → News h₀ L s.heap news → Top viewP lse mean mg mb h₀ → cs.kind = .function → dp + n < recursionLimit → un + 40 * n < cLine → (et, to) ∈ news →
    (∀ (e d t0 t1 : Addr) (es : List DictEntry) (n : Nat) (h' : Heap) (tk' : Nat), Fr h₀ L h' m → News h₀ L h' ((d, dictOf es n) :: (e, excO (some d) (excFs t0)) :: news) → OwnOff news [e, t1] → OwnOff news [d] → @LT.lt Nat _ e d →
      (∃ k, getL "code" es = some (some (.int 1 k))) → getL "value" es = some (some (.str x t)) → getL "errorcode" es = some (some (.ref et)) → Q (.ref e) { s with heap := h', toks := tk' }) →
    wpAny (model prog w) (ktrTop dp un gd cn cs L a ccd cl outer) (call (.ref 45) [.str x t, .ref et]) Q E s
theorem pick_exc {l d t e t1 x : Addr × Obj} {news : List (Addr × Obj)} : ∀ p ∈ d :: e :: news, p ∈ l :: d :: t :: e :: t1 :: x :: news := fun p hp => by
  rcases List.mem_cons.mp hp with rfl | hp
  · exact .tail _ (.head _)
  · rcases List.mem_cons.mp hp with rfl | hp
    · exact .tail _ (.tail _ (.tail _ (.head _)))
    · exact .tail _ (.tail _ (.tail _ (.tail _ (.tail _ (.tail _ hp)))))
theorem own_tail {news : List (Addr × Obj)} {p : Addr × Obj} {l : List Addr} (h : OwnOff (p :: news) l) : OwnOff news l := fun q hq => h q (.tail _ hq)
theorem error_meets (w : World) (x : Str) (t : Tok) (et : Addr) (to : Obj) : ErrMeets w 8 x t et to := by
  w_top off
  k_with_none
  k_with "call ref" => ((k_here; (with_reducible show wpAny _ _ (call (Value.ref 33) _) _ _ _); (k_dflt (refine make_exc (by k_asm) (by k_asm) (by k_asm) (by k_is) (by exact nsOk32 _) (by k_is) (by k_is) ?_ (by exact rfl) (by size_fits); k_whole)); intro e9 t9 h9 F9 N9 o9 n9; (try k_sweep); (k_dflt ((refine code_def (by k_asm) (by k_asm) (by k_asm) (by k_asm) (by k_asm) (by exact rfl) (by exact rfl) (by first | exact rfl | assumption) (by k_is) (by k_is) (by ktr_room) (by exact binds_K (by k_in) rfl (by k_is) rfl rfl rfl) (by exact locs rfl) ?_ (by exact rfl) (by exact rfl) (by exact rfl) (by decide); k_whole; intro g' L' h' FG' F' N' B' X' T'; (try dsimp only); (try k_lift B'); (try k_fold))))))
  k_with "getMethod type:Exception" => ((k_here; k_dflt (refine method_type (by k_asm) (by k_asm) (by kernel_rfl) (by decide +kernel) (by k_is) (by k_handed) ?_; k_whole)))
  k_with "call builtin:Exception.__init__" => ((k_here; k_dflt (refine init_excOwn (pre := []) (by k_asm) (by k_asm) (by k_asm) (by exact fun _ h => nomatch h) (by exact off_all (by assumption) (by assumption)) (by k_is) ?_ (by size_fits); k_whole); intro t9 h9 F9 N9 l9; (simp only [List.nil_append] at N9 l9); (k_lt l9); (try k_sweep)))
  k_with "setAttr ref" => ((k_here; k_dflt (refine set_exc0 (pre := [(_, _)]) (by k_asm) (by k_asm) (by k_asm) (by k_all) (by exact off_all (by assumption) (by assumption)) (by k_is) (by k_is) (by exact rfl) (by exact rfl) (by k_is) ?_; k_whole); intro d9 h9 F9 N9 l9; (simp only [List.nil_append, List.cons_append] at N9 l9); (have oD9 := off_tail l9); (k_lt l9); (try k_sweep)))
  k_with "setAttr ref" => ((k_here; k_dflt (refine set_excD (by k_asm) (by k_asm) (by k_asm) (by k_mem) (by k_mem) (by k_is) (by k_is) (by exact rfl) (by exact rfl) (by k_is) (by k_get) (by k_put) (by k_upd) (by exact Nat.le_of_ble_eq_true rfl) ?_; k_whole); intro h9 F9 N9; (try k_sweep)))
  unfold ErrMeets; intro prog mean mg mb dp un gd cn cs a ccd cl outer A₀ base h₀ L m news s Q E B F X N T hk hdp hun hpre hret; refine wpAny_call ?_
  k_dflt ((refine code_def (by k_asm) (by k_asm) (by k_asm) (by k_asm) (by k_asm) (by exact rfl) (by exact rfl) (by first | exact rfl | assumption) (by k_is) (by k_is) (by ktr_room) (by exact binds_K (by k_in) rfl (by k_is) rfl rfl rfl) (by exact locs rfl) ?_ (by exact rfl) (by exact rfl) (by exact rfl) (by decide); k_whole; intro g1 L1 h1 FG F1 N1 B1 X1 T1; (try dsimp only); (try k_lift B1); (try k_fold)))
  skip
  replace N1 := news_cons N1 hpre
  k_with_none
  k_with "call ref" => ((k_here; (with_reducible show wpAny _ _ (call (Value.ref 33) _) _ _ _); (k_dflt (refine make_exc (by k_asm) (by k_asm) (by k_asm) (by k_is) (by exact nsOk32 _) (by k_is) (by k_is) ?_ (by exact rfl) (by size_fits); k_whole)); intro e9 t9 h9 F9 N9 o9 n9; (try k_sweep); (k_dflt ((refine code_def (by k_asm) (by k_asm) (by k_asm) (by k_asm) (by k_asm) (by exact rfl) (by exact rfl) (by first | exact rfl | assumption) (by k_is) (by k_is) (by ktr_room) (by exact binds_K (by k_in) rfl (by k_is) rfl rfl rfl) (by exact locs rfl) ?_ (by exact rfl) (by exact rfl) (by exact rfl) (by decide); k_whole; intro g' L' h' FG' F' N' B' X' T'; (try dsimp only); (try k_lift B'); (try k_fold))))))
  k_with "getMethod type:Exception" => ((k_here; k_dflt (refine method_type (by k_asm) (by k_asm) (by kernel_rfl) (by decide +kernel) (by k_is) (by k_handed) ?_; k_whole)))
  k_with "call builtin:Exception.__init__" => ((k_here; k_dflt (refine init_excOwn (pre := []) (by k_asm) (by k_asm) (by k_asm) (by exact fun _ h => nomatch h) (by exact off_all (by assumption) (by assumption)) (by k_is) ?_ (by size_fits); k_whole); intro t9 h9 F9 N9 l9; (simp only [List.nil_append] at N9 l9); (k_lt l9); (try k_sweep)))
  k_with "setAttr ref" => ((k_here; k_dflt (refine set_exc0 (pre := [(_, _)]) (by k_asm) (by k_asm) (by k_asm) (by k_all) (by exact off_all (by assumption) (by assumption)) (by k_is) (by k_is) (by exact rfl) (by exact rfl) (by k_is) ?_; k_whole); intro d9 h9 F9 N9 l9; (simp only [List.nil_append, List.cons_append] at N9 l9); (have oD9 := off_tail l9); (k_lt l9); (try k_sweep)))
  k_with "setAttr ref" => ((k_here; k_dflt (refine set_excD (by k_asm) (by k_asm) (by k_asm) (by k_mem) (by k_mem) (by k_is) (by k_is) (by exact rfl) (by exact rfl) (by k_is) (by k_get) (by k_put) (by k_upd) (by exact Nat.le_of_ble_eq_true rfl) ?_; k_whole); intro h9 F9 N9; (try k_sweep)))
  k_steps
  (refine' hret _ _ _ _ _ _ _ _ ?e1 ?e2 (own_tail (by with_reducible assumption)) ?e7 ?e3 ?e4 ?e5 ?e6; (case e1 => k_asm); (case e2 => (refine' cb_drop ?cbN ?cbS; (case cbN => with_reducible assumption); (case cbS => exact pick_exc))); (case e7 => with_reducible assumption); (case e3 => (repeat (first | with_reducible assumption | (rename _ ∧ _ => q; obtain ⟨_, _⟩ := q)))); (case e4 => apply Exists.intro; with_unfolding_all exact rfl); (case e5 => k_get); (case e6 => k_get))
end
end
section
/-- as MeetsG, of a def that may also raise an exception of class Raised: Err says what it tells -/
def MeetsR (w : World) (n : Nat) (f : Addr) (vs : List Value) (Out : List (Addr × Obj) → Value → Prop) (Err : List (Addr × Obj) → Addr → Prop) : Prop :=
  ∀ (prog : Program) (mean : ExcName → Option Value) (mg mb : Str → Option Value) (dp un : Nat) (gd : Option (List Code)) (cn : Str) (cs : Scope) (a : Addr) (ccd : Value) (cl : List (Str × Addr)) (outer : List Env) (A₀ : Around) (base h₀ : Heap) (L : Addr) (m : Str → Option Value)
    (news : List (Addr × Obj)) (s : Shared) (Q E : Value → Shared → Prop),
    Below A₀ base outer h₀ → Fr h₀ L s.heap m → (hd.heap_1 w.params).In h₀ → News h₀ L s.heap news → Top viewP lse mean mg mb h₀ → cs.kind = .function → dp + n < recursionLimit → un + 40 * n < cLine →
    (∀ (r : Value) (tl : List (Addr × Obj)) (h' : Heap) (tk' : Nat), Fr h₀ L h' m → News h₀ L h' (tl ++ news) → Out tl r → Q r { s with heap := h', toks := tk' }) →
    (∀ (e d : Addr) (tl : List (Addr × Obj)) (g₂ h' : Heap) (tk' : Nat), RaisedD base (envX cn cs L a ccd cl :: outer) e d (tl ++ news) h' → Fr h₀ L g₂ m → g₂.UpToSlots h' → Err tl d → E (.ref e) { s with heap := h', toks := tk' }) →
    wpAny (model prog w) (ktrTop dp un gd cn cs L a ccd cl outer) (call (.ref f) vs) Q E s
theorem MeetsR.use {w : World} {n : Nat} {f : Addr} {vs : List Value} {Out : List (Addr × Obj) → Value → Prop} {Err : List (Addr × Obj) → Addr → Prop} (C : MeetsR w n f vs Out Err) {prog : Program} {mean : ExcName → Option Value} {mg mb : Str → Option Value} {dp un : Nat} {gd : Option (List Code)} {cn : Str} {cs : Scope} {a : Addr} {ccd : Value} {cl : List (Str × Addr)} {outer : List Env} {A₀ : Around} {base h₀ : Heap} {L : Addr} {m : Str → Option Value}
    {news : List (Addr × Obj)} {s : Shared} {Q E : Value → Shared → Prop}
    (B : Below A₀ base outer h₀) (F : Fr h₀ L s.heap m) (X : (hd.heap_1 w.params).In h₀) (N : News h₀ L s.heap news) (T : Top viewP lse mean mg mb h₀) (hk : cs.kind = .function) (hdp : dp + n < recursionLimit) (hun : un + 40 * n < cLine)
    (ret : ∀ (r : Value) (tl : List (Addr × Obj)) (h' : Heap) (tk' : Nat), Fr h₀ L h' m → News h₀ L h' (tl ++ news) → Out tl r → Q r { s with heap := h', toks := tk' })
    (err : ∀ (e d : Addr) (tl : List (Addr × Obj)) (g₂ h' : Heap) (tk' : Nat), RaisedD base (envX cn cs L a ccd cl :: outer) e d (tl ++ news) h' → Fr h₀ L g₂ m → g₂.UpToSlots h' → Err tl d → E (.ref e) { s with heap := h', toks := tk' }) :
    wpAny (model prog w) (ktrTop dp un gd cn cs L a ccd cl outer) (call (.ref f) vs) Q E s := C _ _ _ _ _ _ _ _ _ _ _ _ _ _ _ _ _ _ _ _ _ _ B F X N T hk hdp hun ret err
/-- what the refusals tell: the words and the error code -/
def Fault (x kind : Str) (tl : List (Addr × Obj)) (d : Addr) : Prop :=
  ∃ (es : List DictEntry) (n k : Nat) (t t1 t2 t3 : Tok) (et : Addr), tl = [(d, dictOf es n), (et, tupO [.str "TCL" t1, .str "VALUE" t2, .str kind t3])] ∧ getL "code" es = some (some (.int 1 k)) ∧ getL "value" es = some (some (.str x t)) ∧ getL "errorcode" es = some (some (.ref et))
theorem fault_of {x kind : Str} {d : Addr} {es : List DictEntry} {n : Nat} {t t1 t2 t3 : Tok} {et : Addr} (c1 : ∃ k, getL "code" es = some (some (.int 1 k))) (c2 : getL "value" es = some (some (.str x t))) (c3 : getL "errorcode" es = some (some (.ref et))) :
    Fault x kind [(d, dictOf es n), (et, tupO [.str "TCL" t1, .str "VALUE" t2, .str kind t3])] d := by
  obtain ⟨k, c1⟩ := c1
  exact ⟨es, n, k, t, t1, t2, t3, et, rfl, c1, c2, c3⟩
theorem clsR_mk {K : Frag} {nm q : Str} {bs : List Value} {sn : List Str} {sub : List Value} {ab : Bool} {col : Option Bool} {dd : Option Addr} {k0 k1 k2 k3 k5 : Option Value} (e : K.lookup 33 = some (excClassObj nm q 33 32 bs excBm true sn sub ab col dd k0 k1 k2 k3 k5 "Exception.__new__")) :
    ∃ nm q bs sn sub ab col dd k0 k1 k2 k3 k5, K.lookup 33 = some (excClassObj nm q 33 32 bs excBm true sn sub ab col dd k0 k1 k2 k3 k5 "Exception.__new__") := ⟨_, _, _, _, _, _, _, _, _, _, _, _, _, e⟩
theorem clsR_lookup (w : World) : ∃ nm q bs sn sub ab col dd k0 k1 k2 k3 k5, (hd.heap_1 w.params).lookup 33 = some (excClassObj nm q 33 32 bs excBm true sn sub ab col dd k0 k1 k2 k3 k5 "Exception.__new__") := by
  w_top off
  k_with_none
  refine' clsR_mk ?h
  case h => k_is
theorem ErrMeets.raise {w : World} {n : Nat} {x : Str} {t : Tok} {et : Addr} {to : Obj} (C : ErrMeets w n x t et to) {prog : Program} {mean : ExcName → Option Value} {mg mb : Str → Option Value} {dp un : Nat} {gd : Option (List Code)} {cn : Str} {cs : Scope} {a : Addr} {ccd : Value} {cl : List (Str × Addr)} {outer : List Env} {A₀ : Around} {base h₀ : Heap} {L : Addr} {m : Str → Option Value}
    {news : List (Addr × Obj)} {s : Shared} {E : Value → Shared → Prop}
    (B : Below A₀ base outer h₀) (F : Fr h₀ L s.heap m) (X : (hd.heap_1 w.params).In h₀) (N : News h₀ L s.heap news) (T : Top viewP lse mean mg mb h₀) (hk : cs.kind = .function) (hdp : dp + n < recursionLimit) (hun : un + 40 * n < cLine) (hp : (et, to) ∈ news)
    (h : ∀ (e d t0 : Addr) (es : List DictEntry) (n : Nat) (h' : Heap) (tk' : Nat), Fr h₀ L h' m → News h₀ L h' ((d, dictOf es n) :: news) → h'.get? e = some (excO (some d) (excFs t0)) → h₀.get? e = none → @Ne Nat e L → (∀ q ∈ (d, dictOf es n) :: news, q.1 ≠ e) →
      (∃ k, getL "code" es = some (some (.int 1 k))) → getL "value" es = some (some (.str x t)) → getL "errorcode" es = some (some (.ref et)) → E (.ref e) { s with heap := h', toks := tk' }) :
    wpAny (model prog w) (ktrTop dp un gd cn cs L a ccd cl outer) (call (.ref 45) [.str x t, .ref et]) (Made E) E s := by
  refine C _ _ _ _ _ _ _ _ _ _ _ _ _ _ _ _ _ _ _ _ _ _ B F X N T hk hdp hun hp fun e d t0 t1 es n h' tk' F' N' oe od lt c1 c2 c3 => ?_
  obtain ⟨nm, q, bs, sn, sub, ab, col, dd, k0, k1, k2, k3, k5, hC⟩ := clsR_lookup w
  have he := N' (e, excO (some d) (excFs t0)) (.tail _ (.head _))
  refine ⟨e, d, t0, rfl, ⟨nm, q, bs, sn, sub, ab, col, dd, k0, k1, k2, k3, k5, F'.keep _ _ (X _ _ hC)⟩, he.1, h e d t0 es n h' tk' F' (fun p hp => N' p ?_) he.1 he.2.2 he.2.1 (fun p hp => ?_) c1 c2 c3⟩
  · rcases List.mem_cons.mp hp with rfl | hp
    · exact .head _
    · exact .tail _ (.tail _ hp)
  · rcases List.mem_cons.mp hp with rfl | hp
    · exact Nat.ne_of_gt lt
    · exact oe p hp e (.head _)
end
section
section
theorem need_whole_meets (w : World) (x : Str) (t : Tok) (hx : x.length ≤ 100) : MeetsR w 10 87 [.str x t] (fun tl r => tl = [] ∧ ∃ v, wholeOf x.cps.toList = some v ∧ IntIs v r) (fun tl d => wholeOf x.cps.toList = none ∧ Fault ("expected integer but got \"" ++ x ++ "\"") "NUMBER" tl d) := by
  w_top off
  k_with_none
  k_with "call ref" => ((k_here; (with_reducible show wpAny _ _ (call (Value.ref 80) _) _ _ _); ktn_end (whole_of_meets w x t hx); (rename OptIs _ _ => O9); rcases OptIs.split O9 with ⟨oe9, hr9⟩ | ⟨v9, t9, oe9, hr9⟩ <;> subst hr9))
  k_with "call ref" => ((k_here; (with_reducible show wpAny _ _ (call (Value.ref 45) _) _ _ _); (k_dflt (refine ErrMeets.raise (error_meets _ _ _ _ _) (by k_asm) (by k_asm) (by k_asm) (by k_asm) (by k_asm) (by first | exact rfl | assumption) (by ktr_room) (by ktr_units) (by k_mem) ?_); intro e9 d9 t9 es9 n9 h9 tk9 F9 N9 he9 ne9 neL9 of9 c91 c92 c93; (try k_sweep))))
  k_with "exec Raise some none" => ((k_here; k_dflt (refine raise_made (by exact rfl) ?_; k_whole)))
  k_with "leaving ref" => ((k_here; (refine leave_newD (by with_reducible assumption) (by k_asm) (by with_reducible assumption) (by with_reducible assumption) (by with_reducible assumption) (by with_reducible assumption) (by with_reducible assumption) ?_ (by first | exact rfl | assumption); k_whole); intro h9 R9 U9))
  ((unfold MeetsR; intro prog mean mg mb dp un gd cn cs a ccd cl outer A₀ base h₀ L m news s Q E B F X N T hk hdp hun hret herr; refine wpAny_call ?_; (k_dflt cell_enter)))
  rename_i g1 L1 h1 FG F1 N1 B1 X1 T1
  k_with_none
  k_with "call ref" => ((k_here; (with_reducible show wpAny _ _ (call (Value.ref 80) _) _ _ _); ktn_end (whole_of_meets w x t hx); (rename OptIs _ _ => O9); rcases OptIs.split O9 with ⟨oe9, hr9⟩ | ⟨v9, t9, oe9, hr9⟩ <;> subst hr9))
  k_with "call ref" => ((k_here; (with_reducible show wpAny _ _ (call (Value.ref 45) _) _ _ _); (k_dflt (refine ErrMeets.raise (error_meets _ _ _ _ _) (by k_asm) (by k_asm) (by k_asm) (by k_asm) (by k_asm) (by first | exact rfl | assumption) (by ktr_room) (by ktr_units) (by k_mem) ?_); intro e9 d9 t9 es9 n9 h9 tk9 F9 N9 he9 ne9 neL9 of9 c91 c92 c93; (try k_sweep))))
  k_with "exec Raise some none" => ((k_here; k_dflt (refine raise_made (by exact rfl) ?_; k_whole)))
  k_with "leaving ref" => ((k_here; (refine leave_newD (by with_reducible assumption) (by k_asm) (by with_reducible assumption) (by with_reducible assumption) (by with_reducible assumption) (by with_reducible assumption) (by with_reducible assumption) ?_ (by first | exact rfl | assumption); k_whole); intro h9 R9 U9))
  k_steps
  all_goals first
    | (ktr_call hret ([] : List (Addr × Obj)); exact ⟨rfl, _, by assumption, .mk _⟩)
    | (refine' herr _ _ [_, _] _ _ _ ?R ?F ?U ⟨?o, fault_of ?c1 ?c2 ?c3⟩; (case R => (rename RaisedD _ _ _ _ _ _ => RR; exact RR)); (case F => with_reducible assumption); (case U => with_reducible assumption); (case o => assumption); (case c1 => with_reducible assumption); (case c2 => with_reducible assumption); (case c3 => with_reducible assumption))
end
end
section
/-- what wide may give for n -/
def WideOk (n : Int) (r : Value) : Prop := ∃ v t, r = .int v t ∧ -2 ^ 63 ≤ v ∧ v < 2 ^ 63 ∧ (n - v) % 2 ^ 64 = 0
def SmallInt (r : Value) : Prop := ∃ v t, r = .int v t ∧ -10 ^ 40 < v ∧ v < 10 ^ 40
def SomeInt (r : Value) : Prop := ∃ v t, r = .int v t
theorem mask64 (n : Int) : Builtin.bitAnd n (2 ^ 64 - 1) = n % 2 ^ 64 := PySem.W.kbt_mask n 64
theorem wide_hi {n : Int} {t : Tok} (h : (Builtin.bitAnd n (1 * 2 ^ Int.toNat 64 - 1)).fdiv (2 ^ Int.toNat 63) = 1) : WideOk n (.int (Builtin.bitAnd n (1 * 2 ^ Int.toNat 64 - 1) - 1 * 2 ^ Int.toNat 64) t) := by
  have e : Builtin.bitAnd n (1 * 2 ^ Int.toNat 64 - 1) = n % 2 ^ 64 := mask64 n
  rw [e] at h ⊢
  have h' : (n % 2 ^ 64) / 2 ^ 63 = 1 := by rw [← Int.fdiv_eq_ediv_of_nonneg _ (by decide)]; exact h
  have e2 : (1 * 2 ^ Int.toNat 64 : Int) = 2 ^ 64 := by decide
  rw [e2]
  refine ⟨_, _, rfl, ?_, ?_, ?_⟩ <;> omega
theorem wide_lo {n : Int} {t : Tok} (h : (Builtin.bitAnd n (1 * 2 ^ Int.toNat 64 - 1)).fdiv (2 ^ Int.toNat 63) ≠ 1) : WideOk n (.int (Builtin.bitAnd n (1 * 2 ^ Int.toNat 64 - 1)) t) := by
  have e : Builtin.bitAnd n (1 * 2 ^ Int.toNat 64 - 1) = n % 2 ^ 64 := mask64 n
  rw [e] at h ⊢
  have h' : (n % 2 ^ 64) / 2 ^ 63 ≠ 1 := by rw [← Int.fdiv_eq_ediv_of_nonneg _ (by decide)]; exact h
  refine ⟨_, _, rfl, ?_, ?_, ?_⟩ <;> omega
theorem cap_pos (m : Int) : -10 ^ 40 < m.fmod (10 ^ Int.toNat 40) ∧ m.fmod (10 ^ Int.toNat 40) < 10 ^ 40 := by
  have e : (10 ^ Int.toNat 40 : Int) = 10 ^ 40 := by decide +kernel
  rw [e, Int.fmod_eq_emod_of_nonneg _ (by decide)]
  omega
theorem cap_neg (m : Int) : -10 ^ 40 < -(m.fmod (10 ^ Int.toNat 40)) ∧ -(m.fmod (10 ^ Int.toNat 40)) < 10 ^ 40 := by
  have := cap_pos m
  omega
section
theorem wide_meets (w : World) (n : Int) (t : Tok) : Meets w 4 122 [.int n t] (WideOk n) := by
  w_top off
  k_with_none
  ((unfold Meets; intro prog mean mg mb dp un gd cn cs a ccd cl outer A₀ base h₀ L m news s Q E B F X N T hk hdp hun hret; refine wpAny_call ?_; (k_dflt cell_enter)))
  rename_i g1 L1 h1 FG F1 N1 B1 X1 T1
  k_with_none
  k_steps
  all_goals (cb_end hret)
  all_goals first | exact wide_hi (by assumption) | exact wide_lo (by assumption)
theorem capped_meets (w : World) (n : Int) (t : Tok) : Meets w 4 218 [.int n t] SmallInt := by
  w_top off
  k_with_none
  ((unfold Meets; intro prog mean mg mb dp un gd cn cs a ccd cl outer A₀ base h₀ L m news s Q E B F X N T hk hdp hun hret; refine wpAny_call ?_; (k_dflt cell_enter)))
  rename_i g1 L1 h1 FG F1 N1 B1 X1 T1
  k_with_none
  k_steps
  all_goals (cb_end hret)
  all_goals first | exact ⟨_, _, rfl, cap_pos _⟩ | exact ⟨_, _, rfl, cap_neg _⟩
theorem number_meets (w : World) (l : Addr) (vs : List Value) (zs : List Int) (hi : IntsAre vs zs) (hz : ¬63 < (zs.length : Int)) (p : Int) (t : Tok) : MeetsG w 4 136 [.ref l, .int p t] (fun h₀ _ => h₀.IsList l vs.toArray) (fun tl r => tl = [] ∧ SomeInt r) := by
  w_top off
  k_with_none
  ((unfold MeetsG; intro prog mean mg mb dp un gd cn cs a ccd cl outer A₀ base h₀ L m news s Q E B F X N T hk hdp hun hpre hret; refine wpAny_call ?_; (k_dflt cell_enter)))
  rename_i g1 L1 h1 FG F1 N1 B1 X1 T1
  have hl1 : g1.IsList l vs.toArray := hpre.at fun o e => FG.keep l o e
  k_with_none
  k_steps
  all_goals (ktr_call hret ([] : List (Addr × Obj)); exact ⟨rfl, _, _, rfl⟩)
end
end
section
section
theorem same_int (w : World) (v : Int) (t u : Tok) : Meets w 4 211 [.int v t, .int v u] (BoolIs true) := by
  w_top off
  k_with_none
  k_with "compareOp Eq ref ref" => ((k_here; (k_dflt (refine eq_told (by k_asm) (by k_mem) (by k_mem) (by k_mem) (by k_mem) (by with_reducible assumption) (by with_reducible assumption) (by ktr_units) ?_))))
  ((unfold Meets; intro prog mean mg mb dp un gd cn cs a ccd cl outer A₀ base h₀ L m news s Q E B F X N T hk hdp hun hret; refine wpAny_call ?_; (k_dflt cell_enter)))
  rename_i g1 L1 h1 FG F1 N1 B1 X1 T1
  k_with_none
  k_with "compareOp Eq ref ref" => ((k_here; (k_dflt (refine eq_told (by k_asm) (by k_mem) (by k_mem) (by k_mem) (by k_mem) (by with_reducible assumption) (by with_reducible assumption) (by ktr_units) ?_))))
  k_steps
  all_goals (cb_end hret)
  all_goals first | exact .of rfl | (exfalso; contradiction)
theorem same_none (w : World) : Meets w 4 211 [.none, .none] (BoolIs true) := by
  w_top off
  k_with_none
  k_with "compareOp Eq ref ref" => ((k_here; (k_dflt (refine eq_told (by k_asm) (by k_mem) (by k_mem) (by k_mem) (by k_mem) (by with_reducible assumption) (by with_reducible assumption) (by ktr_units) ?_))))
  ((unfold Meets; intro prog mean mg mb dp un gd cn cs a ccd cl outer A₀ base h₀ L m news s Q E B F X N T hk hdp hun hret; refine wpAny_call ?_; (k_dflt cell_enter)))
  rename_i g1 L1 h1 FG F1 N1 B1 X1 T1
  k_with_none
  k_with "compareOp Eq ref ref" => ((k_here; (k_dflt (refine eq_told (by k_asm) (by k_mem) (by k_mem) (by k_mem) (by k_mem) (by with_reducible assumption) (by with_reducible assumption) (by ktr_units) ?_))))
  k_steps
  all_goals (cb_end hret)
  all_goals exact .of rfl
theorem same_bool (w : World) (b : Bool) : Meets w 4 211 [.bool b, .bool b] (BoolIs true) := by
  w_top off
  k_with_none
  k_with "compareOp Eq ref ref" => ((k_here; (k_dflt (refine eq_told (by k_asm) (by k_mem) (by k_mem) (by k_mem) (by k_mem) (by with_reducible assumption) (by with_reducible assumption) (by ktr_units) ?_))))
  ((unfold Meets; intro prog mean mg mb dp un gd cn cs a ccd cl outer A₀ base h₀ L m news s Q E B F X N T hk hdp hun hret; refine wpAny_call ?_; (k_dflt cell_enter)))
  rename_i g1 L1 h1 FG F1 N1 B1 X1 T1
  k_with_none
  k_with "compareOp Eq ref ref" => ((k_here; (k_dflt (refine eq_told (by k_asm) (by k_mem) (by k_mem) (by k_mem) (by k_mem) (by with_reducible assumption) (by with_reducible assumption) (by ktr_units) ?_))))
  k_steps
  all_goals (cb_end hret)
  all_goals exact .of (by cases b <;> first | rfl | contradiction)
end
/-- the tuple that a refusal is told by -/
def Told (x kind : Str) (tl : List (Addr × Obj)) (r : Value) : Prop :=
  ∃ (a et : Addr) (k t t1 t2 t3 : Tok), r = .ref a ∧ tl = [(a, tupO [.int 1 k, .str x t, .ref et]), (et, tupO [.str "TCL" t1, .str "VALUE" t2, .str kind t3])]
abbrev wordsN (x : Str) : Str := "expected integer but got \"" ++ x ++ "\""
abbrev wordsB (x : Str) : Str := "expected boolean value but got \"" ++ x ++ "\""
abbrev wordsI (x : Str) : Str := "bad index \"" ++ x ++ "\": must be integer?[+-]integer? or end?[+-]integer?"
theorem words_n (x : Str) : Str.ofString "expected " ++ Str.ofString "integer" ++ Str.ofString " but got \"" ++ x ++ Str.ofString "\"" = wordsN x := by
  have : Str.ofString "expected " ++ Str.ofString "integer" ++ Str.ofString " but got \"" = Str.ofString "expected integer but got \"" := by decide +kernel
  rw [this]
theorem words_b (x : Str) : Str.ofString "expected " ++ Str.ofString "boolean value" ++ Str.ofString " but got \"" ++ x ++ Str.ofString "\"" = wordsB x := by
  have : Str.ofString "expected " ++ Str.ofString "boolean value" ++ Str.ofString " but got \"" = Str.ofString "expected boolean value but got \"" := by decide +kernel
  rw [this]
theorem told_of {x kind y : Str} {a et : Addr} {k t t1 t2 t3 : Tok} (e : y = x) : Told x kind [(a, tupO [.int 1 k, .str y t, .ref et]), (et, tupO [.str "TCL" t1, .str "VALUE" t2, .str kind t3])] (.ref a) := by
  subst e; exact ⟨_, _, _, _, _, _, _, rfl, rfl⟩
section
theorem refusalN_meets (w : World) (x : Str) (t u : Tok) (hx : x.length ≤ 100) : MeetsG w 4 199 [.str x t, .str "NUMBER" u] (fun _ _ => True) (fun tl r => Told (wordsN x) "NUMBER" tl r) := by
  w_top off
  k_with_none
  k_with "compareOp Eq ref ref" => ((k_here; (k_dflt (refine eq_told (by k_asm) (by k_mem) (by k_mem) (by k_mem) (by k_mem) (by with_reducible assumption) (by with_reducible assumption) (by ktr_units) ?_))))
  ((unfold MeetsG; intro prog mean mg mb dp un gd cn cs a ccd cl outer A₀ base h₀ L m news s Q E B F X N T hk hdp hun hpre hret; refine wpAny_call ?_; (k_dflt cell_enter)))
  rename_i g1 L1 h1 FG F1 N1 B1 X1 T1
  k_with_none
  k_with "compareOp Eq ref ref" => ((k_here; (k_dflt (refine eq_told (by k_asm) (by k_mem) (by k_mem) (by k_mem) (by k_mem) (by with_reducible assumption) (by with_reducible assumption) (by ktr_units) ?_))))
  k_steps
  all_goals (ktr_call hret [_, _]; exact told_of (words_n x))
theorem refusalB_meets (w : World) (x : Str) (t u : Tok) (hx : x.length ≤ 100) : MeetsG w 4 199 [.str x t, .str "BOOLEAN" u] (fun _ _ => True) (fun tl r => Told (wordsB x) "BOOLEAN" tl r) := by
  w_top off
  k_with_none
  k_with "compareOp Eq ref ref" => ((k_here; (k_dflt (refine eq_told (by k_asm) (by k_mem) (by k_mem) (by k_mem) (by k_mem) (by with_reducible assumption) (by with_reducible assumption) (by ktr_units) ?_))))
  ((unfold MeetsG; intro prog mean mg mb dp un gd cn cs a ccd cl outer A₀ base h₀ L m news s Q E B F X N T hk hdp hun hpre hret; refine wpAny_call ?_; (k_dflt cell_enter)))
  rename_i g1 L1 h1 FG F1 N1 B1 X1 T1
  k_with_none
  k_with "compareOp Eq ref ref" => ((k_here; (k_dflt (refine eq_told (by k_asm) (by k_mem) (by k_mem) (by k_mem) (by k_mem) (by with_reducible assumption) (by with_reducible assumption) (by ktr_units) ?_))))
  k_steps
  all_goals (ktr_call hret [_, _]; exact told_of (words_b x))
theorem refusalI_meets (w : World) (x : Str) (t u : Tok) (hx : x.length ≤ 100) : MeetsG w 4 199 [.str x t, .str "INDEX" u] (fun _ _ => True) (fun tl r => Told (wordsI x) "INDEX" tl r) := by
  w_top off
  k_with_none
  k_with "compareOp Eq ref ref" => ((k_here; (k_dflt (refine eq_told (by k_asm) (by k_mem) (by k_mem) (by k_mem) (by k_mem) (by with_reducible assumption) (by with_reducible assumption) (by ktr_units) ?_))))
  ((unfold MeetsG; intro prog mean mg mb dp un gd cn cs a ccd cl outer A₀ base h₀ L m news s Q E B F X N T hk hdp hun hpre hret; refine wpAny_call ?_; (k_dflt cell_enter)))
  rename_i g1 L1 h1 FG F1 N1 B1 X1 T1
  k_with_none
  k_with "compareOp Eq ref ref" => ((k_here; (k_dflt (refine eq_told (by k_asm) (by k_mem) (by k_mem) (by k_mem) (by k_mem) (by with_reducible assumption) (by with_reducible assumption) (by ktr_units) ?_))))
  k_steps
  all_goals (ktr_call hret [_, _]; exact told_of rfl)
end
theorem eq_told {prog : Program} {w : World} {A : Around} {E : Value → Shared → Prop} {s : Shared} {Q : Value → Shared → Prop} {h₀ : Heap} {L a b e e' : Addr} {news : List (Addr × Obj)} {x kind : Str} {k k' t t' t1 t2 t3 u1 u2 u3 : Tok}
    (N : News h₀ L s.heap news) (ha : (a, tupO [.int 1 k, .str x t, .ref e]) ∈ news) (hb : (b, tupO [.int 1 k', .str x t', .ref e']) ∈ news) (he : (e, tupO [.str "TCL" t1, .str "VALUE" t2, .str kind t3]) ∈ news) (he' : (e', tupO [.str "TCL" u1, .str "VALUE" u2, .str kind u3]) ∈ news)
    (hx : PyData.strOk x = true) (hkd : PyData.strOk kind = true) (hu : A.units + 64 < cLine) (h : Q (.bool true) s) : wpAny (model prog w) A (compareOp .Eq (.ref a) (.ref b)) Q E s := by
  have r1 := reads_tuple_at (N.get he) rfl rfl (.cons (.str _ _) (.cons (.str _ _) (.cons (.str _ _) .nil)))
  have r2 := reads_tuple_at (N.get he') rfl rfl (.cons (.str _ _) (.cons (.str _ _) (.cons (.str _ _) .nil)))
  have ra := reads_tuple_at (N.get ha) rfl rfl (.cons (.int _ _) (.cons (.str _ _) (.cons r1 .nil)))
  have rb := reads_tuple_at (N.get hb) rfl rfl (.cons (.int _ _) (.cons (.str _ _) (.cons r2 .nil)))
  have hs : PySem.SeqAt.shaped (PyData.tuple [.int 1, .str x, .tuple [.str "TCL", .str "VALUE", .str kind]]) = true := by
    have e1 : PyData.strOk "TCL" = true := by decide +kernel
    have e2 : PyData.strOk "VALUE" = true := by decide +kernel
    simp [PySem.SeqAt.shaped, PyData.canLay0, PyData.canLayAll0, PyData.depth, PyData.depthAll, hx, hkd, e1, e2]
  refine eq_dataH ra rb hs hs hu ?_
  simp only [PyData.eqv, PyData.eqvAll, beq_self_eq_true, Bool.and_true]
  exact h
section
theorem same_told (w : World) (x kind : Str) (a b e e' : Addr) (k k' t t' t1 t2 t3 u1 u2 u3 : Tok) (hx : PyData.strOk x = true) (hkd : PyData.strOk kind = true) :
    MeetsG w 4 211 [.ref a, .ref b] (fun _ news => (a, tupO [.int 1 k, .str x t, .ref e]) ∈ news ∧ (b, tupO [.int 1 k', .str x t', .ref e']) ∈ news ∧ (e, tupO [.str "TCL" t1, .str "VALUE" t2, .str kind t3]) ∈ news ∧ (e', tupO [.str "TCL" u1, .str "VALUE" u2, .str kind u3]) ∈ news) (fun tl r => tl = [] ∧ BoolIs true r) := by
  w_top off
  k_with_none
  k_with "compareOp Eq ref ref" => ((k_here; (k_dflt (refine eq_told (by k_asm) (by k_mem) (by k_mem) (by k_mem) (by k_mem) (by with_reducible assumption) (by with_reducible assumption) (by ktr_units) ?_))))
  ((unfold MeetsG; intro prog mean mg mb dp un gd cn cs a ccd cl outer A₀ base h₀ L m news s Q E B F X N T hk hdp hun hpre hret; refine wpAny_call ?_; (k_dflt cell_enter)))
  rename_i g1 L1 h1 FG F1 N1 B1 X1 T1
  replace N1 := news_cons N1 hpre.1
  replace N1 := news_cons N1 (List.mem_cons_of_mem _ hpre.2.1)
  replace N1 := news_cons N1 (List.mem_cons_of_mem _ (List.mem_cons_of_mem _ hpre.2.2.1))
  replace N1 := news_cons N1 (List.mem_cons_of_mem _ (List.mem_cons_of_mem _ (List.mem_cons_of_mem _ hpre.2.2.2)))
  k_with_none
  k_with "compareOp Eq ref ref" => ((k_here; (k_dflt (refine eq_told (by k_asm) (by k_mem) (by k_mem) (by k_mem) (by k_mem) (by with_reducible assumption) (by with_reducible assumption) (by ktr_units) ?_))))
  k_steps
  all_goals (ktr_call hret ([] : List (Addr × Obj)); exact ⟨rfl, .of rfl⟩)
end
end
section
section
theorem whole_text_meets (w : World) (n k : Int) (t u : Tok) (h0 : 0 ≤ k) (h1 : k ≤ 12) : Meets w 4 143 [.int n t, .int k u] (StrIs (TextOk 60)) := by
  w_top off
  k_with_none
  k_with "subscriptTail" => ((k_here; (with_reducible show wpAny _ _ (subscriptTail _ _ (Value.ref _) (Value.int _ _)) _ _ _); (k_dflt (refine menu_tup (fun x => TextOk 6 x) (by k_asm) (by k_mem) (by l_fact) (by (simp only [List.length_cons, List.length_nil]; l_fact)) (by l_fact) ?_ ?_ (by with_unfolding_all rfl); (next => (repeat (first | exact List.forall_mem_nil _ | (refine List.forall_mem_cons.mpr ⟨⟨_, _, rfl, by decide, by decide +kernel⟩, ?_⟩)))))); intro x9 t9 p9))
  k_with "subscriptTail" => ((k_here; (with_reducible show wpAny _ _ (subscriptTail _ _ (Value.ref _) (Value.int _ _)) _ _ _); (k_dflt (refine menu_tup (fun x => 1 ≤ x.length ∧ TextOk 6 x) (by k_asm) (by k_mem) (by l_fact) (by (simp only [List.length_cons, List.length_nil]; l_fact)) (by l_fact) ?_ ?_ (by with_unfolding_all rfl); (next => (repeat (first | exact List.forall_mem_nil _ | (refine List.forall_mem_cons.mpr ⟨⟨_, _, rfl, by decide, by decide, by decide +kernel⟩, ?_⟩)))))); intro x9 t9 p9))
  k_with "binaryOp Add str str" => ((k_here; (refine add_ok (by first | with_reducible assumption | exact ok_item (TextOk.2 (by with_reducible assumption)) | exact ok_item (by decide +kernel)) (by first | with_reducible assumption | exact ok_item (TextOk.2 (by with_reducible assumption)) | exact ok_item (by decide +kernel)) (by omega) ?_); intro t9 k9 p9))
  k_with "binaryOp FloorDiv int int" => ((k_here; (with_reducible refine fdiv_pow (.inr rfl) (by omega) ?_)))
  k_with "call builtin:len" => ((k_here; (refine len_ok (by with_reducible assumption) (by omega) ?_); intro t9 k9 p9))
  k_with "subscriptTail" => ((k_here; (with_reducible show wpAny _ _ (subscriptTail _ _ (Value.str _ _) (Value.int (Int.fmod _ _) _)) _ _ _); (refine item_ok (by with_reducible assumption) (by with_reducible assumption) (by omega) ?_ (by with_unfolding_all rfl) (by (intro _; with_unfolding_all rfl))); intro p9))
  ((unfold Meets; intro prog mean mg mb dp un gd cn cs a ccd cl outer A₀ base h₀ L m news s Q E B F X N T hk hdp hun hret; refine wpAny_call ?_; (k_dflt cell_enter)))
  rename_i g1 L1 h1 FG F1 N1 B1 X1 T1
  k_with_none
  k_with "subscriptTail" => ((k_here; (with_reducible show wpAny _ _ (subscriptTail _ _ (Value.ref _) (Value.int _ _)) _ _ _); (k_dflt (refine menu_tup (fun x => TextOk 6 x) (by k_asm) (by k_mem) (by l_fact) (by (simp only [List.length_cons, List.length_nil]; l_fact)) (by l_fact) ?_ ?_ (by with_unfolding_all rfl); (next => (repeat (first | exact List.forall_mem_nil _ | (refine List.forall_mem_cons.mpr ⟨⟨_, _, rfl, by decide, by decide +kernel⟩, ?_⟩)))))); intro x9 t9 p9))
  k_with "subscriptTail" => ((k_here; (with_reducible show wpAny _ _ (subscriptTail _ _ (Value.ref _) (Value.int _ _)) _ _ _); (k_dflt (refine menu_tup (fun x => 1 ≤ x.length ∧ TextOk 6 x) (by k_asm) (by k_mem) (by l_fact) (by (simp only [List.length_cons, List.length_nil]; l_fact)) (by l_fact) ?_ ?_ (by with_unfolding_all rfl); (next => (repeat (first | exact List.forall_mem_nil _ | (refine List.forall_mem_cons.mpr ⟨⟨_, _, rfl, by decide, by decide, by decide +kernel⟩, ?_⟩)))))); intro x9 t9 p9))
  k_with "binaryOp Add str str" => ((k_here; (refine add_ok (by first | with_reducible assumption | exact ok_item (TextOk.2 (by with_reducible assumption)) | exact ok_item (by decide +kernel)) (by first | with_reducible assumption | exact ok_item (TextOk.2 (by with_reducible assumption)) | exact ok_item (by decide +kernel)) (by omega) ?_); intro t9 k9 p9))
  k_with "binaryOp FloorDiv int int" => ((k_here; (with_reducible refine fdiv_pow (.inr rfl) (by omega) ?_)))
  k_with "call builtin:len" => ((k_here; (refine len_ok (by with_reducible assumption) (by omega) ?_); intro t9 k9 p9))
  k_with "subscriptTail" => ((k_here; (with_reducible show wpAny _ _ (subscriptTail _ _ (Value.str _ _) (Value.int (Int.fmod _ _) _)) _ _ _); (refine item_ok (by with_reducible assumption) (by with_reducible assumption) (by omega) ?_ (by with_unfolding_all rfl) (by (intro _; with_unfolding_all rfl))); intro p9))
  k_with "pyIter ref" => (
    (rename Fr _ _ _ _ => lF)
    (rename News _ _ _ _ => lN)
    (rename IsRange _ _ _ _ _ _ _ _ => lR)
    (rename 1 ≤ _ ∧ TextOk 6 _ => pR)
    (obtain ⟨pR, pR'⟩ := pR)
    (refine' range_loop (fun i m => ∃ row x t1 t2 t3 t4, Keeps [(Str.ofString "number", .int n t1), (Str.ofString "k", .int k t2), (Str.ofString "row", .str row t3), (Str.ofString "text", .str x t4)] m ∧ (1 ≤ row.length ∧ TextOk 6 row ∧ TextOk (18 + i) x)) rfl lR ?s (rangeSize_nat _ _) lF lN ?j ?turn ?done)
    (case s => exact small_one (by decide) (by decide) (by l_fact) (by l_fact))
    (case j => exact ⟨_, _, _, _, _, _, Keeps.of (by kst_all), pR, pR', by assumption⟩)
    (case' turn => ((rintro i ti m₁ h tk own hi ⟨row, x, t1, t2, t3, t4, ⟨u, rfl⟩, p1, p2, p3⟩ F9 N9); (dsimp only [kstB] at F9); (replace hi := lt5 hi); (clear lF lN); (try k_fold)))
    (case' done => ((rintro m₁ h tk ⟨row, x, t1, t2, t3, t4, ⟨u, rfl⟩, p1, p2, p3⟩ F9 N9); (dsimp only [kstB] at F9); (replace p3 := ok_more (n := 23) p3 (by have := le5; exact Nat.add_le_add_left (le5 _) 18)); (clear lF lN); (try k_fold))))
  k_steps
  all_goals first
    | (cb_end hret; exact .mk _ _ (ok_more (by with_reducible assumption) (by decide)))
    | (cb_end hret; exact .mk _ _ (ok_app (ok_app (ok_slice (by with_reducible assumption) (by assumption)) (ok_item (by decide +kernel)) (Nat.le_refl _)) (ok_slice (by with_reducible assumption) (by assumption)) (by decide)))
    | (refine' rg_end (.inl rfl) ?rgF ?rgN ?rgS ⟨_, _, _, _, _, _, Keeps.of ?rgK, ?rgA, ?rgB, ?rgC⟩; (case rgF => k_asm); (case rgN => k_asm); (case rgS => first | exact fun _ h => h | kcj_all); (case rgK => kst_all); (case rgA => with_reducible assumption); (case rgB => with_reducible assumption); (case rgC => exact ok_more (by with_reducible assumption) (by omega)))
end
end
section
theorem upper_item {prog : Program} {w : World} {A : Around} {E : Value → Shared → Prop} {s : Shared} {x : Str} {t : Tok} {i : Nat} {Q : Value → Shared → Prop} (hw : x ∈ WORDS) (hi : i < x.length) (h : ∀ t' tk, Q (.str ⟨#[aup (cp x (i : Int))]⟩ t') { s with toks := tk }) :
    wpAny (model prog w) A (call (.builtin "str.upper") [.str (Txt.item x (i : Int)) t]) Q E s := by
  refine SCL.upper (by rw [item_is]; exact Nat.le_of_ble_eq_true rfl) fun _ => ?_
  rw [item_is, upper_one (cp_low hw hi)]
  exact h _ _
theorem item_word {prog : Program} {w : World} {A : Around} {E : Value → Shared → Prop} {s : Shared} {value slice : PySem.Expr} {x : Str} {t u : Tok} {i : Nat} {Q : Value → Shared → Prop} (hw : x ∈ WORDS) (hi : i < x.length) (h : Q (.str (Txt.item x (i : Int)) s.toks) { s with toks := s.toks + 1 })
    (hs : subscripted slice false (.str x t) (.int (i : Int) u) = operate [.str x t, .int (i : Int) u] (getItem (.str x t) (.int (i : Int) u)) := by with_unfolding_all rfl)
    (ht : ∀ r, letTemporaryGo value (.str x t) r = pure () := by intro _; with_unfolding_all rfl) : wpAny (model prog w) A (subscriptTail value slice (.str x t) (.int (i : Int) u)) Q E s := by
  have := words_len x hw
  exact PyProof.Rows.item_str (fitsSsize_of (N := 9223372036854775808) (by omega) (by omega) (Int.le_refl _)) (by omega) (by omega) (fun _ => h) hs ht
theorem len_word {prog : Program} {w : World} {A : Around} {E : Value → Shared → Prop} {s : Shared} {x : Str} {t : Tok} {Q : Value → Shared → Prop} (hx : x ∈ WORDS) (h : ∀ t' tk, 2 ≤ x.length → x.length ≤ 5 → Q (.int x.length t') { s with toks := tk }) :
    wpAny (model prog w) A (call (.builtin "len") [.str x t]) Q E s := by
  have := words_len x hx
  exact len_writK _ rfl (by omega) (h _ _ this.1 this.2)
theorem add_word {prog : Program} {w : World} {A : Around} {E : Value → Shared → Prop} {s : Shared} {x y : Str} {t u : Tok} {Q : Value → Shared → Prop} (hx : x.length ≤ 100) (hy : y.length ≤ 100) (h : ∀ t' tk, Q (.str (x ++ y) t') { s with toks := tk }) :
    wpAny (model prog w) A (binaryOp .Add (.str x t) (.str y u)) Q E s := PyProof.Rows.add_str h (by rw [sizeLine_eq]; omega)
theorem cased_start {w : Str} : Cased (Str.ofString "").cps.toList (w.cps.toList.take 0) := by
  rw [show (Str.ofString "").cps.toList = [] by decide +kernel]
  exact .nil
theorem word_small {a b : Int} (h1 : 2 ≤ b) (h2 : b ≤ 5) : Builtin.Range.small 0 (if 1 + a.fmod 5 < b then 1 + a.fmod 5 else b) 1 = true := by
  have h3 := Int.fmod_lt_of_pos a (show (0 : Int) < 5 by decide)
  have h4 := Int.fmod_nonneg_of_pos a (show (0 : Int) < 5 by decide)
  exact small_one (by decide) (by decide) (by split <;> omega) (by split <;> omega)
theorem word_n {a b : Int} (h1 : 2 ≤ b) : 1 ≤ ((if 1 + a.fmod 5 < b then 1 + a.fmod 5 else b) - 0).toNat ∧ (((if 1 + a.fmod 5 < b then 1 + a.fmod 5 else b) - 0).toNat : Int) ≤ b ∧ ((if 1 + a.fmod 5 < b then 1 + a.fmod 5 else b) - 0).toNat ≤ 5 := by
  have h3 := Int.fmod_lt_of_pos a (show (0 : Int) < 5 by decide)
  have h4 := Int.fmod_nonneg_of_pos a (show (0 : Int) < 5 by decide)
  split <;> omega
theorem word_hi {a : Int} {b i : Nat} (h1 : 2 ≤ b) (h : i < ((if 1 + a.fmod 5 < (b : Int) then 1 + a.fmod 5 else (b : Int)) - 0).toNat) : i < b ∧ i ≤ 5 := by
  have := word_n (a := a) (b := b) (by omega)
  omega
theorem word_hn {a : Int} {b : Nat} (h1 : 2 ≤ b) : 1 ≤ ((if 1 + a.fmod 5 < (b : Int) then 1 + a.fmod 5 else (b : Int)) - 0).toNat ∧ ((if 1 + a.fmod 5 < (b : Int) then 1 + a.fmod 5 else (b : Int)) - 0).toNat ≤ b := by
  have := word_n (a := a) (b := b) (by omega)
  omega
theorem word_done {w x y : Str} {i : Nat} (hw : w ∈ WORDS) (h : Cased x.cps.toList (w.cps.toList.take i)) (h1 : 1 ≤ i) (h2 : i ≤ w.length) (hy : y ∈ SUFS) : WordText (x ++ y) := ⟨⟨w, hw, i, h1, h2, _, h, y, hy, app_list x y⟩⟩
theorem cased_len {w x : Str} {i : Nat} (hw : w ∈ WORDS) (h : Cased x.cps.toList (w.cps.toList.take i)) : x.length ≤ 100 := by
  have := h.len
  rw [len_list, List.length_take, len_list] at this
  have := words_len w hw
  omega
section
theorem word_meets (w : World) (n k : Int) (t u : Tok) (h0 : 0 ≤ k) (h1 : k ≤ 14) : Meets w 4 171 [.int n t, .int k u] (StrIs WordText) := by
  w_top off
  k_with_none
  k_with "subscriptTail" => ((k_here; (with_reducible show wpAny _ _ (subscriptTail _ _ (Value.ref _) (Value.int _ _)) _ _ _); (k_dflt (refine menu_tup (fun x => x ∈ SUFS) (by k_asm) (by k_mem) (by l_fact) (by (simp only [List.length_cons, List.length_nil]; l_fact)) (by l_fact) ?_ ?_ (by with_unfolding_all rfl); (next => (repeat (first | exact List.forall_mem_nil _ | (refine List.forall_mem_cons.mpr ⟨⟨_, _, rfl, by decide⟩, ?_⟩)))))); intro x9 t9 p9))
  k_with "subscriptTail" => ((k_here; (with_reducible show wpAny _ _ (subscriptTail _ _ (Value.ref _) (Value.int _ _)) _ _ _); (k_dflt (refine menu_tup (fun x => x ∈ WORDS) (by k_asm) (by k_mem) (by l_fact) (by (simp only [List.length_cons, List.length_nil]; l_fact)) (by l_fact) ?_ ?_ (by with_unfolding_all rfl); (next => (repeat (first | exact List.forall_mem_nil _ | (refine List.forall_mem_cons.mpr ⟨⟨_, _, rfl, by decide⟩, ?_⟩)))))); intro wd9 tw9 pw9))
  k_with "subscriptTail" => ((k_here; (with_reducible show wpAny _ _ (subscriptTail _ _ (Value.str _ _) (Value.int _ _)) _ _ _); (refine item_word (by with_reducible assumption) (by with_reducible assumption) ?_ (by with_unfolding_all rfl) (by (intro _; with_unfolding_all rfl)))))
  k_with "binaryOp FloorDiv int int" => ((k_here; (with_reducible refine fdiv_pow (.inl rfl) (by omega) ?_)))
  k_with "call builtin:len" => ((k_here; (refine len_word (by with_reducible assumption) ?_); intro t9 k9 p9 q9))
  k_with "call builtin:str.upper" => ((k_here; (refine upper_item (by with_reducible assumption) (by with_reducible assumption) ?_); intro t9 k9))
  k_with "binaryOp Add str str" => ((k_here; (refine add_word (by exact cased_len (by with_reducible assumption) (by with_reducible assumption)) (by first | exact Nat.le_of_ble_eq_true rfl | (rw [item_is]; exact Nat.le_of_ble_eq_true rfl) | (have := sufs_len _ (by with_reducible assumption); omega)) ?_); intro t9 k9))
  ((unfold Meets; intro prog mean mg mb dp un gd cn cs a ccd cl outer A₀ base h₀ L m news s Q E B F X N T hk hdp hun hret; refine wpAny_call ?_; (k_dflt cell_enter)))
  rename_i g1 L1 h1 FG F1 N1 B1 X1 T1
  k_with_none
  k_with "subscriptTail" => ((k_here; (with_reducible show wpAny _ _ (subscriptTail _ _ (Value.ref _) (Value.int _ _)) _ _ _); (k_dflt (refine menu_tup (fun x => x ∈ SUFS) (by k_asm) (by k_mem) (by l_fact) (by (simp only [List.length_cons, List.length_nil]; l_fact)) (by l_fact) ?_ ?_ (by with_unfolding_all rfl); (next => (repeat (first | exact List.forall_mem_nil _ | (refine List.forall_mem_cons.mpr ⟨⟨_, _, rfl, by decide⟩, ?_⟩)))))); intro x9 t9 p9))
  k_with "subscriptTail" => ((k_here; (with_reducible show wpAny _ _ (subscriptTail _ _ (Value.ref _) (Value.int _ _)) _ _ _); (k_dflt (refine menu_tup (fun x => x ∈ WORDS) (by k_asm) (by k_mem) (by l_fact) (by (simp only [List.length_cons, List.length_nil]; l_fact)) (by l_fact) ?_ ?_ (by with_unfolding_all rfl); (next => (repeat (first | exact List.forall_mem_nil _ | (refine List.forall_mem_cons.mpr ⟨⟨_, _, rfl, by decide⟩, ?_⟩)))))); intro wd9 tw9 pw9))
  k_with "subscriptTail" => ((k_here; (with_reducible show wpAny _ _ (subscriptTail _ _ (Value.str _ _) (Value.int _ _)) _ _ _); (refine item_word (by with_reducible assumption) (by with_reducible assumption) ?_ (by with_unfolding_all rfl) (by (intro _; with_unfolding_all rfl)))))
  k_with "binaryOp FloorDiv int int" => ((k_here; (with_reducible refine fdiv_pow (.inl rfl) (by omega) ?_)))
  k_with "call builtin:len" => ((k_here; (refine len_word (by with_reducible assumption) ?_); intro t9 k9 p9 q9))
  k_with "call builtin:str.upper" => ((k_here; (refine upper_item (by with_reducible assumption) (by with_reducible assumption) ?_); intro t9 k9))
  k_with "binaryOp Add str str" => ((k_here; (refine add_word (by exact cased_len (by with_reducible assumption) (by with_reducible assumption)) (by first | exact Nat.le_of_ble_eq_true rfl | (rw [item_is]; exact Nat.le_of_ble_eq_true rfl) | (have := sufs_len _ (by with_reducible assumption); omega)) ?_); intro t9 k9))
  k_with "pyIter ref" => (refine' stop_ ?_)
  k_steps
  k_with_none
  k_with "subscriptTail" => ((k_here; (with_reducible show wpAny _ _ (subscriptTail _ _ (Value.ref _) (Value.int _ _)) _ _ _); (k_dflt (refine menu_tup (fun x => x ∈ SUFS) (by k_asm) (by k_mem) (by l_fact) (by (simp only [List.length_cons, List.length_nil]; l_fact)) (by l_fact) ?_ ?_ (by with_unfolding_all rfl); (next => (repeat (first | exact List.forall_mem_nil _ | (refine List.forall_mem_cons.mpr ⟨⟨_, _, rfl, by decide⟩, ?_⟩)))))); intro x9 t9 p9))
  k_with "subscriptTail" => ((k_here; (with_reducible show wpAny _ _ (subscriptTail _ _ (Value.ref _) (Value.int _ _)) _ _ _); (k_dflt (refine menu_tup (fun x => x ∈ WORDS) (by k_asm) (by k_mem) (by l_fact) (by (simp only [List.length_cons, List.length_nil]; l_fact)) (by l_fact) ?_ ?_ (by with_unfolding_all rfl); (next => (repeat (first | exact List.forall_mem_nil _ | (refine List.forall_mem_cons.mpr ⟨⟨_, _, rfl, by decide⟩, ?_⟩)))))); intro wd9 tw9 pw9))
  k_with "subscriptTail" => ((k_here; (with_reducible show wpAny _ _ (subscriptTail _ _ (Value.str _ _) (Value.int _ _)) _ _ _); (refine item_word (by with_reducible assumption) (by with_reducible assumption) ?_ (by with_unfolding_all rfl) (by (intro _; with_unfolding_all rfl)))))
  k_with "binaryOp FloorDiv int int" => ((k_here; (with_reducible refine fdiv_pow (.inl rfl) (by omega) ?_)))
  k_with "call builtin:len" => ((k_here; (refine len_word (by with_reducible assumption) ?_); intro t9 k9 p9 q9))
  k_with "call builtin:str.upper" => ((k_here; (refine upper_item (by with_reducible assumption) (by with_reducible assumption) ?_); intro t9 k9))
  k_with "binaryOp Add str str" => ((k_here; (refine add_word (by exact cased_len (by with_reducible assumption) (by with_reducible assumption)) (by first | exact Nat.le_of_ble_eq_true rfl | (rw [item_is]; exact Nat.le_of_ble_eq_true rfl) | (have := sufs_len _ (by with_reducible assumption); omega)) ?_); intro t9 k9))
  unfold Stop
  rename Fr _ _ _ _ => lF
  rename News _ _ _ _ => lN
  rename IsRange _ _ _ _ _ _ _ _ => lR
  have hl2 := (words_len wd9 pw9).1
  refine' range_loop (fun i m => ∃ x t1 t2 t3 t4, Keeps [(Str.ofString "number", .int n t1), (Str.ofString "k", .int k t2), (Str.ofString "word", .str wd9 t3), (Str.ofString "out", .str x t4)] m ∧ Cased x.cps.toList (wd9.cps.toList.take i)) rfl lR ?rgs (rangeSize_nat _ _) lF lN ?rgj ?rgturn ?rgdone
  (case rgs => exact word_small (by omega) (by have := (words_len wd9 pw9).2; omega))
  (case rgj => exact ⟨_, _, _, _, _, Keeps.of (by kst_all), cased_start⟩)
  (case' rgturn => ((rintro i ti m₁ h tk own hi ⟨x, t1, t2, t3, t4, ⟨u, rfl⟩, p2⟩ F9 N9); (dsimp only [kstB] at F9); (obtain ⟨hi, hi5⟩ := word_hi hl2 hi); (clear lF lN); (try k_fold)))
  (case' rgdone => ((rintro m₁ h tk ⟨x, t1, t2, t3, t4, ⟨u, rfl⟩, p2⟩ F9 N9); (dsimp only [kstB] at F9); (clear lF lN); (try k_fold)))
  all_goals k_steps
  all_goals first
    | (cb_end hret; exact .mk _ _ (word_done pw9 (by with_reducible assumption) (word_hn hl2).1 (word_hn hl2).2 (by with_reducible assumption)))
    | (refine' rg_end (.inl rfl) ?rgF ?rgN ?rgS ⟨_, _, _, _, _, Keeps.of ?rgK, ?rgA⟩; (case rgF => k_asm); (case rgN => k_asm); (case rgS => first | exact fun _ h => h | kcj_all); (case rgK => kst_all); (case rgA => first | exact cased_keep (by with_reducible assumption) (by with_reducible assumption) | exact cased_up (by with_reducible assumption) (by with_reducible assumption)))
end
end
section
theorem tx_end {h₀ h' : Heap} {L I : Addr} {oI : Obj} {J : (Str → Option Value) → List (Addr × Obj) → Prop} {nx news' : List (Addr × Obj)} {s : Shared} {Q : Flow → Shared → Prop} {f : Flow} {m' : Str → Option Value} {tk' : Nat} (hf : f = .next ∨ f = .cont) (F : Fr h₀ L h' m') (N : News h₀ L h' news') (hs : ∀ p ∈ (I, oI) :: nx, p ∈ news') (hne : ∀ p ∈ nx, p.1 ≠ I) (hj : J m' nx) :
    TxPost h₀ L I oI J s Q f { s with heap := h', toks := tk' } := by
  rcases hf with rfl | rfl <;> exact ⟨h', tk', m', nx, rfl, F, fun p hp => N p (hs p hp), hne, hj⟩
theorem add_low {prog : Program} {w : World} {A : Around} {E : Value → Shared → Prop} {s : Shared} {x y : Str} {pre : List Nat} {n c : Nat} {post : List Nat} {t u : Tok} {Q : Value → Shared → Prop} (hx : x.length ≤ 100) (hl : x.cps.toList = pre ++ n :: post) (hy : y.cps.toList = pre.map alow) (h : ∀ t' tk, Q (.str (y ++ (⟨#[c]⟩ : Str)) t') { s with toks := tk }) :
    wpAny (model prog w) A (binaryOp .Add (.str y t) (.str ⟨#[c]⟩ u)) Q E s := by
  refine PyProof.Rows.add_str h ?_
  have h1 := congrArg List.length hl
  have h2 := congrArg List.length hy
  rw [len_list, List.length_append] at h1
  rw [len_list, List.length_map] at h2
  rw [sizeLine_eq, show (⟨#[c]⟩ : Str).length = 1 from rfl]
  omega
section
theorem truth_meets (w : World) (x : Str) (t : Tok) (hx : x.length ≤ 100) : Meets w 10 178 [.str x t] (OptBIs (lawTruth x)) := by
  w_top off
  k_with_none
  k_with "compareOp LtE str str" => ((k_here; first | with_reducible refine leA ?_ | with_reducible refine leZ ?_))
  k_with "binaryOp Add str str" => ((k_here; (refine add_low hx hl p2 ?_); intro t9 k9))
  k_with "call ref" => ((k_here; (with_reducible show wpAny _ _ (call (Value.ref 164) _) _ _ _); ktn_end (law_whole_meets _ _ _ (by assumption)); (rename OptIs _ _ => O9); rcases OptIs.split O9 with ⟨oe9, hr9⟩ | ⟨v9, t9, oe9, hr9⟩ <;> subst hr9))
  ((unfold Meets; intro prog mean mg mb dp un gd cn cs a ccd cl outer A₀ base h₀ L m news s Q E B F X N T hk hdp hun hret; refine wpAny_call ?_; (k_dflt cell_enter)))
  rename_i g1 L1 h1 FG F1 N1 B1 X1 T1
  k_with_none
  k_with "compareOp LtE str str" => ((k_here; first | with_reducible refine leA ?_ | with_reducible refine leZ ?_))
  k_with "binaryOp Add str str" => ((k_here; (refine add_low hx hl p2 ?_); intro t9 k9))
  k_with "call ref" => ((k_here; (with_reducible show wpAny _ _ (call (Value.ref 164) _) _ _ _); ktn_end (law_whole_meets _ _ _ (by assumption)); (rename OptIs _ _ => O9); rcases OptIs.split O9 with ⟨oe9, hr9⟩ | ⟨v9, t9, oe9, hr9⟩ <;> subst hr9))
  k_with "pyIter str" => (refine' stop_ ?_)
  k_steps
  k_with_none
  k_with "compareOp LtE str str" => ((k_here; first | with_reducible refine leA ?_ | with_reducible refine leZ ?_))
  k_with "binaryOp Add str str" => ((k_here; (refine add_low hx hl p2 ?_); intro t9 k9))
  k_with "call ref" => ((k_here; (with_reducible show wpAny _ _ (call (Value.ref 164) _) _ _ _); ktn_end (law_whole_meets _ _ _ (by assumption)); (rename OptIs _ _ => O9); rcases OptIs.split O9 with ⟨oe9, hr9⟩ | ⟨v9, t9, oe9, hr9⟩ <;> subst hr9))
  unfold Stop
  rename Fr _ _ _ _ => lF
  rename News _ _ _ _ => lN
  refine' text_loop (fun pre m nx => nx = news ∧ ∃ y t1 t2, Keeps [(Str.ofString "text", .str x t1), (Str.ofString "low", .str y t2)] m ∧ y.cps.toList = pre.map alow) rfl lF lN ?tlj ?tlt ?tld
  case tlj => exact ⟨rfl, _, _, _, Keeps.of (by kst_all), by decide +kernel⟩
  case' tlt => ((rintro pre n post tn m₁ nx h tk I oI hl ⟨rfl, y, t1, t2, ⟨u, rfl⟩, p2⟩ hoff F9 N9); (dsimp only [kstB] at F9); (clear lF lN); (try k_fold))
  case' tld => ((rintro m₁ nx h tk ⟨rfl, y, t1, t2, ⟨u, rfl⟩, p2⟩ F9 N9); (dsimp only [kstB] at F9); (clear lF lN); (try k_fold))
  all_goals k_steps
  all_goals first
    | (cb_end hret; first | exact .ofS (truthT p2 (by with_reducible assumption)) | exact .ofS (truthF p2 (by with_reducible assumption) (by with_reducible assumption)) | (rw [truthN p2 (by with_reducible assumption) (by with_reducible assumption)]; (rename lawWhole _ = _ => oe9); rw [oe9]; first | exact .none | exact .some _))
    | (refine' tx_end (.inl rfl) ?txF ?txN ?txS hoff ⟨rfl, _, _, _, Keeps.of ?txK, ?txE⟩; (case txF => k_asm); (case txN => k_asm); (case txS => first | exact fun _ h => h | kcj_all); (case txK => kst_all); (case txE => first | exact low_keep p2 (by omega) | exact low_up p2 (by omega) (by omega)))
end
end
section
theorem tup3 {a b c : Str} {ta tb tc : Tok} {i : Nat} {v : Value} (h : [Value.str a ta, Value.str b tb, Value.str c tc][i]? = some v) : ∃ z tz, v = .str z tz ∧ [a, b, c][i]? = some z := by
  rcases i with _ | _ | _ | i
  · exact ⟨_, _, (Option.some.inj h).symm, rfl⟩
  · exact ⟨_, _, (Option.some.inj h).symm, rfl⟩
  · exact ⟨_, _, (Option.some.inj h).symm, rfl⟩
  · simp at h
section
theorem bool_of_meets (w : World) (x : Str) (t : Tok) (hx : x.length ≤ 100) : Meets w 8 94 [.str x t] (OptBIs (boolOf x)) := by
  w_top off
  k_with_none
  k_with "call ref" => ((k_here; (with_reducible show wpAny _ _ (call (Value.ref 80) _) _ _ _); ktn_end (whole_of_meets w x t hx); (rename OptIs _ _ => O9); rcases OptIs.split O9 with ⟨oe9, hr9⟩ | ⟨v9, t9, oe9, hr9⟩ <;> subst hr9))
  k_with "exec For Name Tuple cons nil" => ((k_here; (with_reducible show wpAny _ _ (exec (Stmt.For (Expr.Name _ _) (Expr.Tuple _ _ _) _ [] _) _) _ _ _); with_unfolding_all ((rename Fr _ _ _ _ => F'); (refine For_invVF F' (by rfl) (by rfl) ?_))))
  k_with "pyIter ref" => ((refine stop_ ?_))
  ((unfold Meets; intro prog mean mg mb dp un gd cn cs a ccd cl outer A₀ base h₀ L m news s Q E B F X N T hk hdp hun hret; refine wpAny_call ?_; (k_dflt cell_enter)))
  rename_i g1 L1 h1 FG F1 N1 B1 X1 T1
  k_with_none
  k_with "call ref" => ((k_here; (with_reducible show wpAny _ _ (call (Value.ref 80) _) _ _ _); ktn_end (whole_of_meets w x t hx); (rename OptIs _ _ => O9); rcases OptIs.split O9 with ⟨oe9, hr9⟩ | ⟨v9, t9, oe9, hr9⟩ <;> subst hr9))
  k_with "exec For Name Tuple cons nil" => ((k_here; (with_reducible show wpAny _ _ (exec (Stmt.For (Expr.Name _ _) (Expr.Tuple _ _ _) _ [] _) _) _ _ _); with_unfolding_all ((rename Fr _ _ _ _ => F'); (refine For_invVF F' (by rfl) (by rfl) ?_))))
  k_with "pyIter ref" => ((refine stop_ ?_))
  k_steps
  all_goals (try (cb_end hret; first | exact .ofN (bool1 (by with_reducible assumption) (by with_reducible assumption)) | exact .ofS (bool0 (by with_reducible assumption))))
  unfold Stop
  rename Fr _ _ _ _ => lF
  rename News _ _ _ _ => lN
  rename (List.any _ _) = false => hEm
  refine' tuple_loop (fun i m => ∃ t1 t2, Keeps [(Str.ofString "text", .str x t1), (Str.ofString "low", .str (Txt.lower x) t2)] m ∧ ∀ z ∈ YES.take i, Txt.startswith z (Txt.lower x) = false) ?tlh ?tlF ?tlN ?tla ?tlj ?tlt ?tld
  case tlh => rfl
  case tlF => exact lF
  case tlN => k_dflt exact lN
  case tla => (rename _ ∧ AllLt _ _ => lt9; exact ktn_ltOf lt9)
  case tlj => exact ⟨_, _, Keeps.of (by kst_all), fun _ h => nomatch h⟩
  case' tlt => ((rintro i v m₁ h tk own hv ⟨t1, t2, ⟨u, rfl⟩, p2⟩ F9 N9); (dsimp only [kstB] at F9); (obtain ⟨z, tz, rfl, hz⟩ := tup3 hv); (clear lF lN hv); (try k_fold))
  case' tld => ((rintro m₁ h tk ⟨t1, t2, ⟨u, rfl⟩, p2⟩ F9 N9); (dsimp only [kstB] at F9); (clear lF lN); (try k_fold))
  case' tlt => k_steps
  case' tld => k_steps
  all_goals first
    | ((try dsimp only); (try (k_unfold; try dsimp only)); dsimp only [RgPost]; k_steps; cb_end hret; exact .ofS (bool2 (by with_reducible assumption) hEm hz (by with_reducible assumption)))
    | (refine' rg_end (.inl rfl) ?rgF ?rgN ?rgS ⟨_, _, Keeps.of ?rgK, ?rgA⟩; (case rgF => k_asm); (case rgN => k_asm); (case rgS => first | exact fun _ h => h | kcj_all); (case rgK => kst_all); (case rgA => exact take_no p2 hz (by with_reducible assumption)))
    | skip
  unfold Stop
  rename Fr _ _ _ _ => lF
  rename News _ _ _ _ => lN
  refine' tuple_loop (fun i m => ∃ t1 t2, Keeps [(Str.ofString "text", .str x t1), (Str.ofString "low", .str (Txt.lower x) t2)] m ∧ ∀ z ∈ NAY.take i, Txt.startswith z (Txt.lower x) = false) ?tmh ?tmF ?tmN ?tma ?tmj ?tmt ?tmd
  case tmh => rfl
  case tmF => exact lF
  case tmN => k_dflt exact lN
  case tma => (rename _ ∧ AllLt _ _ => lt9; exact ktn_ltOf lt9)
  case tmj => exact ⟨_, _, Keeps.of (by kst_all), fun _ h => nomatch h⟩
  case' tmt => ((rintro i v m₁ h tk own hv ⟨t1, t2, ⟨u, rfl⟩, p3⟩ F9 N9); (dsimp only [kstB] at F9); (obtain ⟨z, tz, rfl, hz⟩ := tup3 hv); (clear lF lN hv); (try k_fold))
  case' tmd => ((rintro m₁ h tk ⟨t1, t2, ⟨u, rfl⟩, p3⟩ F9 N9); (dsimp only [kstB] at F9); (clear lF lN); (try k_fold))
  all_goals k_steps
  all_goals first
    | ((try dsimp only); (try (k_unfold; try dsimp only)); dsimp only [RgPost]; k_steps; cb_end hret; exact .ofS (bool3 (by with_reducible assumption) hEm p2 hz (by with_reducible assumption)))
    | (refine' rg_end (.inl rfl) ?rgF ?rgN ?rgS ⟨_, _, Keeps.of ?rgK, ?rgA⟩; (case rgF => k_asm); (case rgN => k_asm); (case rgS => first | exact fun _ h => h | kcj_all); (case rgK => kst_all); (case rgA => exact take_no p3 hz (by with_reducible assumption)))
    | (cb_end hret; exact .ofN (bool4 (by with_reducible assumption) hEm p2 p3))
end
end
section
section
theorem need_bool_meets (w : World) (x : Str) (t : Tok) (hx : x.length ≤ 100) : MeetsR w 10 101 [.str x t] (fun tl r => tl = [] ∧ ∃ v, boolOf x = some v ∧ BoolIs v r) (fun tl d => boolOf x = none ∧ Fault (wordsB x) "BOOLEAN" tl d) := by
  w_top off
  k_with_none
  k_with "call ref" => ((k_here; (with_reducible show wpAny _ _ (call (Value.ref 45) _) _ _ _); (k_dflt (refine ErrMeets.raise (error_meets _ _ _ _ _) (by k_asm) (by k_asm) (by k_asm) (by k_asm) (by k_asm) (by first | exact rfl | assumption) (by ktr_room) (by ktr_units) (by k_mem) ?_); intro e9 d9 t9 es9 n9 h9 tk9 F9 N9 he9 ne9 neL9 of9 c91 c92 c93; (try k_sweep))))
  k_with "exec Raise some none" => ((k_here; k_dflt (refine raise_made (by exact rfl) ?_; k_whole)))
  k_with "leaving ref" => ((k_here; (refine leave_newD (by with_reducible assumption) (by k_asm) (by with_reducible assumption) (by with_reducible assumption) (by with_reducible assumption) (by with_reducible assumption) (by with_reducible assumption) ?_ (by first | exact rfl | assumption); k_whole); intro h9 R9 U9))
  k_with "call ref" => ((k_here; (with_reducible show wpAny _ _ (call (Value.ref 94) _) _ _ _); ktn_end (bool_of_meets w x t hx); (rename OptBIs _ _ => O9); rcases OptBIs.split O9 with ⟨oe9, hr9⟩ | ⟨v9, oe9, hr9⟩ <;> subst hr9))
  ((unfold MeetsR; intro prog mean mg mb dp un gd cn cs a ccd cl outer A₀ base h₀ L m news s Q E B F X N T hk hdp hun hret herr; refine wpAny_call ?_; (k_dflt cell_enter)))
  rename_i g1 L1 h1 FG F1 N1 B1 X1 T1
  k_with_none
  k_with "call ref" => ((k_here; (with_reducible show wpAny _ _ (call (Value.ref 45) _) _ _ _); (k_dflt (refine ErrMeets.raise (error_meets _ _ _ _ _) (by k_asm) (by k_asm) (by k_asm) (by k_asm) (by k_asm) (by first | exact rfl | assumption) (by ktr_room) (by ktr_units) (by k_mem) ?_); intro e9 d9 t9 es9 n9 h9 tk9 F9 N9 he9 ne9 neL9 of9 c91 c92 c93; (try k_sweep))))
  k_with "exec Raise some none" => ((k_here; k_dflt (refine raise_made (by exact rfl) ?_; k_whole)))
  k_with "leaving ref" => ((k_here; (refine leave_newD (by with_reducible assumption) (by k_asm) (by with_reducible assumption) (by with_reducible assumption) (by with_reducible assumption) (by with_reducible assumption) (by with_reducible assumption) ?_ (by first | exact rfl | assumption); k_whole); intro h9 R9 U9))
  k_with "call ref" => ((k_here; (with_reducible show wpAny _ _ (call (Value.ref 94) _) _ _ _); ktn_end (bool_of_meets w x t hx); (rename OptBIs _ _ => O9); rcases OptBIs.split O9 with ⟨oe9, hr9⟩ | ⟨v9, oe9, hr9⟩ <;> subst hr9))
  k_steps
  all_goals first
    | (ktr_call hret ([] : List (Addr × Obj)); exact ⟨rfl, _, by assumption, .mk⟩)
    | (refine' herr _ _ [_, _] _ _ _ ?R ?F ?U ⟨?o, fault_of ?c1 ?c2 ?c3⟩; (case R => (rename RaisedD _ _ _ _ _ _ => RR; exact RR)); (case F => with_reducible assumption); (case U => with_reducible assumption); (case o => assumption); (case c1 => with_reducible assumption); (case c2 => with_reducible assumption); (case c3 => with_reducible assumption))
end
end
section
theorem add_idx {prog : Program} {w : World} {A : Around} {E : Value → Shared → Prop} {s : Shared} {x y : Str} {t u : Tok} {Q : Value → Shared → Prop} (hx : x.length ≤ 100) (hy : y.length ≤ 100) (h : ∀ t' tk, Q (.str (x ++ y) t') { s with toks := tk }) :
    wpAny (model prog w) A (binaryOp .Add (.str x t) (.str y u)) Q E s := PyProof.Rows.add_str h (by rw [sizeLine_eq]; omega)
theorem heads_len' {x : Str} (h : x ∈ HEADS) : x.length ≤ 100 := by have := heads_len x h; omega
theorem sgns_len' {x : Str} (h : x ∈ SGNS) : x.length ≤ 100 := by have := sgns_len x h; omega
theorem tails_len' {x : Str} (h : x ∈ TAILS) : x.length ≤ 100 := by have := tails_len x h; omega
theorem hs_len' {x y : Str} (h : x ∈ HEADS) (h' : y ∈ SGNS) : (x ++ y).length ≤ 100 := by have := heads_len x h; have := sgns_len y h'; rw [app_len]; omega
section
theorem index_text_meets (w : World) (n k : Int) (t u : Tok) (_h0 : 0 ≤ k) (_h1 : k ≤ 12) : Meets w 4 185 [.int n t, .int k u] (StrIs IdxText) := by
  w_top off
  k_with_none
  k_with "subscriptTail" => ((k_here; (with_reducible show wpAny _ _ (subscriptTail _ _ (Value.ref _) (Value.int _ _)) _ _ _); (k_dflt (refine menu_tup (fun x => x ∈ TAILS) (by k_asm) (by k_mem) (by l_fact) (by (simp only [List.length_cons, List.length_nil]; l_fact)) (by l_fact) ?_ ?_ (by with_unfolding_all rfl); (next => (repeat (first | exact List.forall_mem_nil _ | (refine List.forall_mem_cons.mpr ⟨⟨_, _, rfl, by decide⟩, ?_⟩)))))); intro x9 t9 p9))
  k_with "subscriptTail" => ((k_here; (with_reducible show wpAny _ _ (subscriptTail _ _ (Value.ref _) (Value.int _ _)) _ _ _); (k_dflt (refine menu_tup (fun x => x ∈ SGNS) (by k_asm) (by k_mem) (by l_fact) (by (simp only [List.length_cons, List.length_nil]; l_fact)) (by l_fact) ?_ ?_ (by with_unfolding_all rfl); (next => (repeat (first | exact List.forall_mem_nil _ | (refine List.forall_mem_cons.mpr ⟨⟨_, _, rfl, by decide⟩, ?_⟩)))))); intro x9 t9 p9))
  k_with "subscriptTail" => ((k_here; (with_reducible show wpAny _ _ (subscriptTail _ _ (Value.ref _) (Value.int _ _)) _ _ _); (k_dflt (refine menu_tup (fun x => x ∈ HEADS) (by k_asm) (by k_mem) (by l_fact) (by (simp only [List.length_cons, List.length_nil]; l_fact)) (by l_fact) ?_ ?_ (by with_unfolding_all rfl); (next => (repeat (first | exact List.forall_mem_nil _ | (refine List.forall_mem_cons.mpr ⟨⟨_, _, rfl, by decide⟩, ?_⟩)))))); intro x9 t9 p9))
  k_with "binaryOp Add str str" => ((k_here; (refine add_idx (by first | exact heads_len' (by with_reducible assumption) | exact hs_len' (by with_reducible assumption) (by with_reducible assumption)) (by first | exact sgns_len' (by with_reducible assumption) | exact tails_len' (by with_reducible assumption)) ?_); intro t9 k9))
  ((unfold Meets; intro prog mean mg mb dp un gd cn cs a ccd cl outer A₀ base h₀ L m news s Q E B F X N T hk hdp hun hret; refine wpAny_call ?_; (k_dflt cell_enter)))
  rename_i g1 L1 h1 FG F1 N1 B1 X1 T1
  k_with_none
  k_with "subscriptTail" => ((k_here; (with_reducible show wpAny _ _ (subscriptTail _ _ (Value.ref _) (Value.int _ _)) _ _ _); (k_dflt (refine menu_tup (fun x => x ∈ TAILS) (by k_asm) (by k_mem) (by l_fact) (by (simp only [List.length_cons, List.length_nil]; l_fact)) (by l_fact) ?_ ?_ (by with_unfolding_all rfl); (next => (repeat (first | exact List.forall_mem_nil _ | (refine List.forall_mem_cons.mpr ⟨⟨_, _, rfl, by decide⟩, ?_⟩)))))); intro x9 t9 p9))
  k_with "subscriptTail" => ((k_here; (with_reducible show wpAny _ _ (subscriptTail _ _ (Value.ref _) (Value.int _ _)) _ _ _); (k_dflt (refine menu_tup (fun x => x ∈ SGNS) (by k_asm) (by k_mem) (by l_fact) (by (simp only [List.length_cons, List.length_nil]; l_fact)) (by l_fact) ?_ ?_ (by with_unfolding_all rfl); (next => (repeat (first | exact List.forall_mem_nil _ | (refine List.forall_mem_cons.mpr ⟨⟨_, _, rfl, by decide⟩, ?_⟩)))))); intro x9 t9 p9))
  k_with "subscriptTail" => ((k_here; (with_reducible show wpAny _ _ (subscriptTail _ _ (Value.ref _) (Value.int _ _)) _ _ _); (k_dflt (refine menu_tup (fun x => x ∈ HEADS) (by k_asm) (by k_mem) (by l_fact) (by (simp only [List.length_cons, List.length_nil]; l_fact)) (by l_fact) ?_ ?_ (by with_unfolding_all rfl); (next => (repeat (first | exact List.forall_mem_nil _ | (refine List.forall_mem_cons.mpr ⟨⟨_, _, rfl, by decide⟩, ?_⟩)))))); intro x9 t9 p9))
  k_with "binaryOp Add str str" => ((k_here; (refine add_idx (by first | exact heads_len' (by with_reducible assumption) | exact hs_len' (by with_reducible assumption) (by with_reducible assumption)) (by first | exact sgns_len' (by with_reducible assumption) | exact tails_len' (by with_reducible assumption)) ?_); intro t9 k9))
  k_steps
  all_goals first
    | (cb_end hret; exact .mk _ _ ⟨_, by with_reducible assumption, _, by with_reducible assumption, _, by with_reducible assumption, rfl⟩)
end
end
section
theorem mv_list (x : Str) : (Txt.slice x (some 1) none).cps.toList = x.cps.toList.drop 1 := slice_from_any (by decide)
theorem mv_pos {x : Str} {v : Int} (e : digitsValue (Txt.slice x (some 1) none).cps.toList 10 = some v) : 0 < x.length := by
  rw [mv_list] at e
  rcases Nat.eq_zero_or_pos x.length with h | h
  · rw [List.drop_eq_nil_of_le (by rw [len_list]; omega)] at e
    cases e
  · exact h
theorem mv2_none {b : Int} {x : Str} (e : digitsValue (Txt.slice x (some 1) none).cps.toList 10 = none) : (movedS x.cps.toList).map (fun d => b + d) = none := by
  rw [mv_list] at e; unfold movedS; rw [e]; rfl
theorem head_cp2 {x : Str} (h : 0 < x.length) : x.cps.toList.head? = some (cp x 0) := by
  have := cp_at (x := x) (k := 0) (Int.le_refl _) (by omega)
  rw [List.head?_eq_getElem?]; exact this
theorem mv2_plus {b v : Int} {x : Str} (e : digitsValue (Txt.slice x (some 1) none).cps.toList 10 = some v) (c : (Txt.item x 0 == Str.ofString "+") = true) : (movedS x.cps.toList).map (fun d => b + d) = some (b + v) := by
  have h := mv_pos e
  rw [mv_list] at e; unfold movedS; rw [e, head_cp2 h]
  rw [item_eq x 0 43 "+" rfl, beq_iff_eq] at c
  dsimp only; rw [c, if_pos rfl]; rfl
theorem mv2_minus {b v : Int} {x : Str} (e : digitsValue (Txt.slice x (some 1) none).cps.toList 10 = some v) (c : (Txt.item x 0 == Str.ofString "+") = false) (c' : (Txt.item x 0 == Str.ofString "-") = true) : (movedS x.cps.toList).map (fun d => b + d) = some (b - v) := by
  have h := mv_pos e
  rw [mv_list] at e; unfold movedS; rw [e, head_cp2 h]
  rw [item_eq x 0 45 "-" rfl, beq_iff_eq] at c'
  dsimp only; rw [c', if_neg (by decide), if_pos rfl]; rfl
theorem mv2_else {b v : Int} {x : Str} (e : digitsValue (Txt.slice x (some 1) none).cps.toList 10 = some v) (c : (Txt.item x 0 == Str.ofString "+") = false) (c' : (Txt.item x 0 == Str.ofString "-") = false) : (movedS x.cps.toList).map (fun d => b + d) = none := by
  have h := mv_pos e
  rw [mv_list] at e; unfold movedS; rw [e, head_cp2 h]
  rw [item_eq x 0 45 "-" rfl, beq_eq_false_iff_ne] at c'
  rw [item_eq x 0 43 "+" rfl, beq_eq_false_iff_ne] at c
  dsimp only; rw [if_neg (fun q => c (Option.some.inj q)), if_neg (fun q => c' (Option.some.inj q))]; rfl
section
theorem moved_meets (w : World) (b : Int) (tb : Tok) (x : Str) (t : Tok) (hx : x.length ≤ 100) : Meets w 6 108 [.int b tb, .str x t] (OptIs ((movedS x.cps.toList).map fun d => b + d)) := by
  w_top off
  k_with_none
  k_with "call ref" => ((k_here; (with_reducible show wpAny _ _ (call (Value.ref 66) _) _ _ _); ktn_end (digits_value_meets w _ _ _ _ (by decide) (by decide)); (rename OptIs _ _ => O9); (rcases OptIs.split O9 with ⟨oe9, hr9⟩ | ⟨v9, t9, oe9, hr9⟩ <;> (subst hr9; try have hpos9 := mv_pos oe9))))
  ((unfold Meets; intro prog mean mg mb dp un gd cn cs a ccd cl outer A₀ base h₀ L m news s Q E B F X N T hk hdp hun hret; refine wpAny_call ?_; (k_dflt cell_enter)))
  rename_i g1 L1 h1 FG F1 N1 B1 X1 T1
  k_with_none
  k_with "call ref" => ((k_here; (with_reducible show wpAny _ _ (call (Value.ref 66) _) _ _ _); ktn_end (digits_value_meets w _ _ _ _ (by decide) (by decide)); (rename OptIs _ _ => O9); (rcases OptIs.split O9 with ⟨oe9, hr9⟩ | ⟨v9, t9, oe9, hr9⟩ <;> (subst hr9; try have hpos9 := mv_pos oe9))))
  k_steps
  all_goals (cb_end hret)
  all_goals first
    | exact .ofN (mv2_none (by with_reducible assumption))
    | exact .ofS (mv2_plus (by with_reducible assumption) (by with_reducible assumption))
    | exact .ofS (mv2_minus (by with_reducible assumption) (by with_reducible assumption) (by with_reducible assumption))
    | exact .ofN (mv2_else (by with_reducible assumption) (by with_reducible assumption) (by with_reducible assumption))
end
end
section
theorem ix_ok {x : Str} {last v : Int} {t : Tok} (h : ∃ p, indexS x = some p ∧ evalS last p = v) : ([] : List (Addr × Obj)) = [] ∧ ∃ p, indexS x = some p ∧ IntIs (evalS last p) (.int v t) := by
  obtain ⟨p, h1, h2⟩ := h
  exact ⟨rfl, p, h1, .of h2.symm⟩
theorem raisedD_third {base : Heap} {l : List Env} {e d : Addr} {a b c : Addr × Obj} {news : List (Addr × Obj)} {h : Heap} (R : RaisedD base l e d (a :: b :: c :: news) h) : RaisedD base l e d ([a, b] ++ news) h := by
  obtain ⟨⟨B, a0, hB, hl, hf⟩, r⟩ := R
  refine ⟨⟨B, a0, hB, fun q hq => hl q ?_, hf⟩, r⟩
  rcases List.mem_cons.mp hq with rfl | hq
  · exact .head _
  · rcases List.mem_cons.mp hq with rfl | hq
    · exact .tail _ (.head _)
    · exact .tail _ (.tail _ (.tail _ hq))
section
theorem index_of_meets (w : World) (x : Str) (t : Tok) (last : Int) (tl : Tok) (hx : x.length ≤ 100) : MeetsR w 10 115 [.str x t, .int last tl] (fun tl r => tl = [] ∧ ∃ p, indexS x = some p ∧ IntIs (evalS last p) r) (fun tl d => indexS x = none ∧ Fault (wordsI x) "INDEX" tl d) := by
  w_top off
  k_with_none
  k_with "call ref" => ((k_here; (with_reducible show wpAny _ _ (call (Value.ref 45) _) _ _ _); (k_dflt (refine ErrMeets.raise (error_meets _ _ _ _ _) (by k_asm) (by k_asm) (by k_asm) (by k_asm) (by k_asm) (by first | exact rfl | assumption) (by ktr_room) (by ktr_units) (by k_mem) ?_); intro e9 d9 t9 es9 n9 h9 tk9 F9 N9 he9 ne9 neL9 of9 c91 c92 c93; (try k_sweep))))
  k_with "exec Raise some none" => ((k_here; k_dflt (refine raise_made (by exact rfl) ?_; k_whole)))
  k_with "leaving ref" => ((k_here; (refine leave_newD (by with_reducible assumption) (by k_asm) (by with_reducible assumption) (by with_reducible assumption) (by with_reducible assumption) (by with_reducible assumption) (by with_reducible assumption) ?_ (by first | exact rfl | assumption); k_whole); intro h9 R9 U9))
  k_with "call ref" => ((k_here; (with_reducible show wpAny _ _ (call (Value.ref 80) _) _ _ _); ktn_end (whole_of_meets w _ _ (by omega)); (rename OptIs _ _ => O9); rcases OptIs.split O9 with ⟨oe9, hr9⟩ | ⟨v9, t9, oe9, hr9⟩ <;> subst hr9))
  k_with "call ref" => ((k_here; (with_reducible show wpAny _ _ (call (Value.ref 108) _) _ _ _); ktn_end (moved_meets w _ _ _ _ (by omega)); (rename OptIs _ _ => O9); rcases OptIs.split O9 with ⟨oe9, hr9⟩ | ⟨v9, t9, oe9, hr9⟩ <;> subst hr9))
  k_with "call ref" => ((k_here; (with_reducible show wpAny _ _ (call (Value.ref 52) _) _ _ _); ktn_end (is_blank_meets _ _ _); rename_i O9; cases O9))
  k_with "exec While Compare cons nil" => ((refine stop_ ?_))
  k_with "exec While" => ((refine stop_ ?_))
  ((unfold MeetsR; intro prog mean mg mb dp un gd cn cs a ccd cl outer A₀ base h₀ L m news s Q E B F X N T hk hdp hun hret herr; refine wpAny_call ?_; (k_dflt cell_enter)))
  rename_i g1 L1 h1 FG F1 N1 B1 X1 T1
  k_with_none
  k_with "call ref" => ((k_here; (with_reducible show wpAny _ _ (call (Value.ref 45) _) _ _ _); (k_dflt (refine ErrMeets.raise (error_meets _ _ _ _ _) (by k_asm) (by k_asm) (by k_asm) (by k_asm) (by k_asm) (by first | exact rfl | assumption) (by ktr_room) (by ktr_units) (by k_mem) ?_); intro e9 d9 t9 es9 n9 h9 tk9 F9 N9 he9 ne9 neL9 of9 c91 c92 c93; (try k_sweep))))
  k_with "exec Raise some none" => ((k_here; k_dflt (refine raise_made (by exact rfl) ?_; k_whole)))
  k_with "leaving ref" => ((k_here; (refine leave_newD (by with_reducible assumption) (by k_asm) (by with_reducible assumption) (by with_reducible assumption) (by with_reducible assumption) (by with_reducible assumption) (by with_reducible assumption) ?_ (by first | exact rfl | assumption); k_whole); intro h9 R9 U9))
  k_with "call ref" => ((k_here; (with_reducible show wpAny _ _ (call (Value.ref 80) _) _ _ _); ktn_end (whole_of_meets w _ _ (by omega)); (rename OptIs _ _ => O9); rcases OptIs.split O9 with ⟨oe9, hr9⟩ | ⟨v9, t9, oe9, hr9⟩ <;> subst hr9))
  k_with "call ref" => ((k_here; (with_reducible show wpAny _ _ (call (Value.ref 108) _) _ _ _); ktn_end (moved_meets w _ _ _ _ (by omega)); (rename OptIs _ _ => O9); rcases OptIs.split O9 with ⟨oe9, hr9⟩ | ⟨v9, t9, oe9, hr9⟩ <;> subst hr9))
  k_with "call ref" => ((k_here; (with_reducible show wpAny _ _ (call (Value.ref 52) _) _ _ _); ktn_end (is_blank_meets _ _ _); rename_i O9; cases O9))
  k_with "exec While Compare cons nil" => ((refine stop_ ?_))
  k_with "exec While" => ((refine stop_ ?_))
  k_steps
  all_goals first
    | (ktr_call hret ([] : List (Addr × Obj)); first | exact ix_ok (ix1 (t := tl) (by with_reducible assumption) (by with_reducible assumption) (by with_reducible assumption)) | exact ix_ok (ix3 (by with_reducible assumption) (by with_reducible assumption) (by with_reducible assumption) (by with_reducible assumption)) | exact ix_ok (ix4 (by with_reducible assumption)))
    | (refine' herr _ _ [_, _] _ _ _ ?R ?F ?U ⟨?o, fault_of ?c1 ?c2 ?c3⟩; (case R => (rename RaisedD _ _ _ _ _ _ => RR; exact RR)); (case F => with_reducible assumption); (case U => with_reducible assumption); (case o => exact ix2 (by with_reducible assumption) (by with_reducible assumption) (by with_reducible assumption) (by with_reducible assumption)); (case c1 => with_reducible assumption); (case c2 => with_reducible assumption); (case c3 => with_reducible assumption))
    | skip
  unfold Stop
  rename wholeOf _ = _ => hW0
  k_with_none
  k_with "call ref" => ((k_here; (with_reducible show wpAny _ _ (call (Value.ref 45) _) _ _ _); (k_dflt (refine ErrMeets.raise (error_meets _ _ _ _ _) (by k_asm) (by k_asm) (by k_asm) (by k_asm) (by k_asm) (by first | exact rfl | assumption) (by ktr_room) (by ktr_units) (by k_mem) ?_); intro e9 d9 t9 es9 n9 h9 tk9 F9 N9 he9 ne9 neL9 of9 c91 c92 c93; (try k_sweep))))
  k_with "exec Raise some none" => ((k_here; k_dflt (refine raise_made (by exact rfl) ?_; k_whole)))
  k_with "leaving ref" => ((k_here; (refine leave_newD (by with_reducible assumption) (by k_asm) (by with_reducible assumption) (by with_reducible assumption) (by with_reducible assumption) (by with_reducible assumption) (by with_reducible assumption) ?_ (by first | exact rfl | assumption); k_whole); intro h9 R9 U9))
  k_with "call ref" => ((k_here; (with_reducible show wpAny _ _ (call (Value.ref 80) _) _ _ _); ktn_end (whole_of_meets w _ _ (by omega)); (rename OptIs _ _ => O9); rcases OptIs.split O9 with ⟨oe9, hr9⟩ | ⟨v9, t9, oe9, hr9⟩ <;> subst hr9))
  k_with "call ref" => ((k_here; (with_reducible show wpAny _ _ (call (Value.ref 108) _) _ _ _); ktn_end (moved_meets w _ _ _ _ (by omega)); (rename OptIs _ _ => O9); rcases OptIs.split O9 with ⟨oe9, hr9⟩ | ⟨v9, t9, oe9, hr9⟩ <;> subst hr9))
  k_with "call ref" => ((k_here; (with_reducible show wpAny _ _ (call (Value.ref 52) _) _ _ _); ktn_end (is_blank_meets _ _ _); rename_i O9; cases O9))
  k_with "exec While Compare cons nil" => ((refine stop_ ?_))
  k_with "exec While" => ((refine stop_ ?_))
  k_with "state" => first | exact ⟨by omega, by omega, cut_start x⟩ | exact ⟨by omega, by omega, cut_step1 (by omega) (by omega) (by with_reducible assumption) (by with_reducible assumption)⟩ | exact ⟨by omega, by omega, cut_step2 (by omega) (by omega) (by with_reducible assumption) (by assumption)⟩
  k_while (fun _ a => 1 ≤ a ∧ a ≤ (x.length : Int) + 1 ∧ CutJ x a) (fun _ a => ((x.length : Int) + 1 - a).toNat) "at"
  k_steps
  all_goals (rename CutJ _ _ => hJ9)
  all_goals (have hCut := (by (first | exact cut_end1 (by with_reducible assumption) (by with_reducible assumption) | exact cut_end2 (by with_reducible assumption) (by with_reducible assumption) (by with_reducible assumption) (by with_reducible assumption) (by assumption)) : cutAt x.cps.toList = _))
  all_goals first
    | (ktr_call hret ([] : List (Addr × Obj)); exact ix_ok (ix7 hW0 (by with_reducible assumption) (by with_reducible assumption) hCut (by with_reducible assumption) (by with_reducible assumption)))
    | (refine' herr _ _ [_, _] _ _ _ ?R ?F ?U ⟨?o, fault_of ?c1 ?c2 ?c3⟩; (case R => (rename RaisedD _ _ _ _ _ _ => RR; first | exact RR | exact raisedD_third RR)); (case F => with_reducible assumption); (case U => with_reducible assumption); (case o => first | exact ix5 hW0 (by with_reducible assumption) (by with_reducible assumption) hCut (by with_reducible assumption) | exact ix6 hW0 (by with_reducible assumption) (by with_reducible assumption) hCut (by with_reducible assumption) (by with_reducible assumption)); (case c1 => with_reducible assumption); (case c2 => with_reducible assumption); (case c3 => with_reducible assumption))
end
end
section
/-- the pair that a part's ends make -/
def PairIs (b e last : Int) (tl : List (Addr × Obj)) (r : Value) : Prop :=
  ∃ (a : Addr) (v1 v2 : Int) (t1 t2 : Tok), r = .ref a ∧ tl = [(a, tupO [.int v1 t1, .int v2 t2])] ∧ v1 = max 0 (min b (last + 1)) ∧ v2 = max (-1) (min e last)
def PairErr (x y : Str) (tl : List (Addr × Obj)) (d : Addr) : Prop :=
  (indexS x = none ∧ Fault (wordsI x) "INDEX" tl d) ∨ ((∃ p, indexS x = some p) ∧ indexS y = none ∧ Fault (wordsI y) "INDEX" tl d)
section
local macro_rules | `(tactic| ktn_call $c:term $p:term) => `(tactic| (k_dflt (refine' MeetsR.use $c ?k1 ?k2 ?k3 ?k4 ?k5 ?kK ?kd ?ku ?_ ?_; (case k1 => k_asm); (case k2 => k_asm); (case k3 => k_asm); (case k4 => k_asm); (case k5 => k_asm); (case kK => first | exact rfl | assumption); (case kd => ktr_room); (case ku => ktr_units))))
theorem index_pair_meets (w : World) (x y : Str) (t u : Tok) (last : Int) (tl : Tok) (hx : x.length ≤ 100) (hy : y.length ≤ 100) : MeetsR w 12 129 [.str x t, .str y u, .int last tl] (fun tl r => ∃ p q, indexS x = some p ∧ indexS y = some q ∧ PairIs (evalS last p) (evalS last q) last tl r) (PairErr x y) := by
  w_top off
  k_with_none
  k_with "call ref" => ((k_here; (with_reducible show wpAny _ _ (call (Value.ref 115) _) _ _ _); ktn_call (index_of_meets w _ _ _ _ (by with_reducible assumption)) 0; rotate_left; (intro e9 d9 tl9 g9 h9 tk9 R9 F9 U9 O9); (obtain ⟨on9, of9⟩ := O9); rotate_right; (intro r9 tl9 h9 tk9 F9 N9 O9); (obtain ⟨rfl, p9, hp9, ⟨t9⟩⟩ := O9); (simp only [List.nil_append] at N9); (try k_sweep)))
  k_with "leaving ref" => ((k_here; (refine leave_onD (by with_reducible assumption) (by with_reducible assumption) (by exact R9) (by exact U9) ?_; k_whole); intro h9 R9 U9))
  ((unfold MeetsR; intro prog mean mg mb dp un gd cn cs a ccd cl outer A₀ base h₀ L m news s Q E B F X N T hk hdp hun hret herr; refine wpAny_call ?_; (k_dflt cell_enter)))
  rename_i g1 L1 h1 FG F1 N1 B1 X1 T1
  k_with_none
  k_with "call ref" => ((k_here; (with_reducible show wpAny _ _ (call (Value.ref 115) _) _ _ _); ktn_call (index_of_meets w _ _ _ _ (by with_reducible assumption)) 0; rotate_left; (intro e9 d9 tl9 g9 h9 tk9 R9 F9 U9 O9); (obtain ⟨on9, of9⟩ := O9); rotate_right; (intro r9 tl9 h9 tk9 F9 N9 O9); (obtain ⟨rfl, p9, hp9, ⟨t9⟩⟩ := O9); (simp only [List.nil_append] at N9); (try k_sweep)))
  k_with "leaving ref" => ((k_here; (refine leave_onD (by with_reducible assumption) (by with_reducible assumption) (by exact R9) (by exact U9) ?_; k_whole); intro h9 R9 U9))
  k_steps
  all_goals first
    | (refine' herr _ _ _ _ _ _ ?R ?F ?U ?O; (case R => exact R9); (case F => with_reducible assumption); (case U => with_reducible assumption); (case O => first | exact .inl ⟨on9, of9⟩ | exact .inr ⟨⟨_, by with_reducible assumption⟩, on9, of9⟩))
    | (ktr_call hret [_]; refine ⟨_, _, by with_reducible assumption, by with_reducible assumption, _, _, _, _, _, rfl, rfl, ?_, ?_⟩ <;> (repeat' split) <;> omega)
end
end
section
theorem minusI {y : Str} {k : Int} (h : (Txt.item y k == Str.ofString "-") = true) : cp y k = 45 := by
  rw [item_eq y k 45 "-" rfl, beq_iff_eq] at h; exact h
theorem minusN {y : Str} {k : Int} (h : (Txt.item y k == Str.ofString "-") = false) : ¬ cp y k = 45 := by
  rw [item_eq y k 45 "-" rfl, beq_eq_false_iff_ne] at h; exact h
theorem pos_of {x : Str} (h : (x == Str.ofString "") = false) : 0 < x.length := by
  rcases Nat.eq_zero_or_pos x.length with q | q
  · have h0 : x.cps.toList = [] := List.eq_nil_of_length_eq_zero (by rw [len_list]; exact q)
    rw [nil_of.mp h0] at h; cases h
  · exact q
theorem item_last {prog : Program} {w : World} {A : Around} {E : Value → Shared → Prop} {s : Shared} {value slice : PySem.Expr} {x : Str} {t u : Tok} {Q : Value → Shared → Prop} (hp : 0 < x.length) (hl : x.length ≤ 100) (h : Q (.str (Txt.item x ((x.length : Int) - 1)) s.toks) { s with toks := s.toks + 1 })
    (hs : subscripted slice false (.str x t) (.int ((x.length : Int) - 1) u) = operate [.str x t, .int ((x.length : Int) - 1) u] (getItem (.str x t) (.int ((x.length : Int) - 1) u)) := by with_unfolding_all rfl)
    (ht : ∀ r, letTemporaryGo value (.str x t) r = pure () := by intro _; with_unfolding_all rfl) : wpAny (model prog w) A (subscriptTail value slice (.str x t) (.int ((x.length : Int) - 1) u)) Q E s :=
  PyProof.Rows.item_str (fitsSsize_of (N := 9223372036854775808) (by omega) (by omega) (Int.le_refl _)) (by omega) (by omega) (fun _ => h) hs ht
section
theorem law_index_meets (w : World) (x : Str) (t : Tok) (last : Int) (tl : Tok) (hx : x.length ≤ 100) : Meets w 10 192 [.str x t, .int last tl] (OptIs ((lawIndexS x).map (evalS last))) := by
  w_top off
  k_with_none
  k_with "subscriptTail" => ((k_here; (with_reducible show wpAny _ _ (subscriptTail _ _ (Value.str (Txt.slice _ _ _) _) (Value.int _ _)) _ _ _); (refine item_last (by first | with_reducible assumption | exact end_pos (by with_reducible assumption)) (by omega) ?_ (by with_unfolding_all rfl) (by (intro _; with_unfolding_all rfl)))))
  k_with "call ref" => ((k_here; (with_reducible show wpAny _ _ (call (Value.ref 164) _) _ _ _); ktn_end (law_whole_meets w _ _ (by omega)); (rename OptIs _ _ => O9); rcases OptIs.split O9 with ⟨oe9, hr9⟩ | ⟨v9, t9, oe9, hr9⟩ <;> (subst hr9; (try have hp9 := whole_pos oe9))))
  k_with "compareOp LtE str str" => ((k_here; first | with_reducible refine le0 ?_ | with_reducible refine le9 ?_))
  k_with "exec While BoolOp nil" => ((refine stop_ ?_))
  k_with "exec While" => ((refine stop_ ?_))
  ((unfold Meets; intro prog mean mg mb dp un gd cn cs a ccd cl outer A₀ base h₀ L m news s Q E B F X N T hk hdp hun hret; refine wpAny_call ?_; (k_dflt cell_enter)))
  rename_i g1 L1 h1 FG F1 N1 B1 X1 T1
  k_with_none
  k_with "subscriptTail" => ((k_here; (with_reducible show wpAny _ _ (subscriptTail _ _ (Value.str (Txt.slice _ _ _) _) (Value.int _ _)) _ _ _); (refine item_last (by first | with_reducible assumption | exact end_pos (by with_reducible assumption)) (by omega) ?_ (by with_unfolding_all rfl) (by (intro _; with_unfolding_all rfl)))))
  k_with "call ref" => ((k_here; (with_reducible show wpAny _ _ (call (Value.ref 164) _) _ _ _); ktn_end (law_whole_meets w _ _ (by omega)); (rename OptIs _ _ => O9); rcases OptIs.split O9 with ⟨oe9, hr9⟩ | ⟨v9, t9, oe9, hr9⟩ <;> (subst hr9; (try have hp9 := whole_pos oe9))))
  k_with "compareOp LtE str str" => ((k_here; first | with_reducible refine le0 ?_ | with_reducible refine le9 ?_))
  k_with "exec While BoolOp nil" => ((refine stop_ ?_))
  k_with "exec While" => ((refine stop_ ?_))
  k_steps
  all_goals (try (cb_end hret; first | exact lawIx0 (by with_reducible assumption) | exact lawIx1 (by with_reducible assumption) (by with_reducible assumption) | exact lawIx2 (by with_reducible assumption) (by with_reducible assumption) (by with_reducible assumption)))
  unfold Stop
  have hPx := pos_of (x := x) (by with_reducible assumption)
  have hO0 : lawWhole x.cps.toList = none := by with_reducible assumption
  have hO1 : (x == Str.ofString "") = false := by with_reducible assumption
  have hO2 : (x == ENDW) = false := by with_reducible assumption
  k_with_none
  k_with "subscriptTail" => ((k_here; (with_reducible show wpAny _ _ (subscriptTail _ _ (Value.str (Txt.slice _ _ _) _) (Value.int _ _)) _ _ _); (refine item_last (by first | with_reducible assumption | exact end_pos (by with_reducible assumption)) (by omega) ?_ (by with_unfolding_all rfl) (by (intro _; with_unfolding_all rfl)))))
  k_with "call ref" => ((k_here; (with_reducible show wpAny _ _ (call (Value.ref 164) _) _ _ _); ktn_end (law_whole_meets w _ _ (by omega)); (rename OptIs _ _ => O9); rcases OptIs.split O9 with ⟨oe9, hr9⟩ | ⟨v9, t9, oe9, hr9⟩ <;> (subst hr9; (try have hp9 := whole_pos oe9))))
  k_with "compareOp LtE str str" => ((k_here; first | with_reducible refine le0 ?_ | with_reducible refine le9 ?_))
  k_with "exec While BoolOp nil" => ((refine stop_ ?_))
  k_with "exec While" => ((refine stop_ ?_))
  k_with "state" => first | exact ⟨by omega, by omega, back_start x⟩ | exact ⟨by omega, by omega, back_step (by omega) (by omega) (by with_reducible assumption) (by assumption) (by assumption)⟩
  set_option pp.deepTerms.threshold 40 in
  k_while (fun _ a => 0 ≤ a ∧ a < (x.length : Int) ∧ BackJ x a) (fun _ a => a.toNat) "at"
  k_steps
  all_goals (rename BackJ _ _ => hJ9)
  all_goals (have hCut := (by (first | exact back_end0 (by with_reducible assumption) (by with_reducible assumption) (by omega) | exact back_end1 (by with_reducible assumption) (by with_reducible assumption) (by with_reducible assumption) (by omega) | exact back_end2 (by with_reducible assumption) (by with_reducible assumption) (by with_reducible assumption) (by omega)) : lawCut x.cps.toList = _))
  all_goals cb_end hret
  all_goals first
    | exact lawIxS hO0 hO1 hO2 (by with_reducible assumption) (by with_reducible assumption) hCut (signFI (by with_reducible assumption))
    | exact lawIxF hO0 hO1 hO2 (by with_reducible assumption) (by with_reducible assumption) hCut (by with_reducible assumption)
    | exact lawIxG hO0 hO1 hO2 (by with_reducible assumption) (by with_reducible assumption) hCut (signTI (by with_reducible assumption)) (by with_reducible assumption) (by first | with_reducible assumption | exact end_pos (by with_reducible assumption)) (gapTI (by with_reducible assumption))
    | exact lawIxB hO0 hO1 hO2 (by with_reducible assumption) (by with_reducible assumption) hCut (signTI (by with_reducible assumption)) (by with_reducible assumption) (by with_reducible assumption) (by with_reducible assumption)
    | exact lawIxE hO0 hO1 hO2 (by with_reducible assumption) (by with_reducible assumption) hCut (signTI (by with_reducible assumption)) (by with_reducible assumption) (end_pos (by with_reducible assumption)) (gapFI (by with_reducible assumption)) (by with_reducible assumption) (by first | exact (if_pos (minusI (by with_reducible assumption))).symm | exact (if_neg (minusN (by with_reducible assumption))).symm)
    | exact lawIxN hO0 hO1 hO2 (by with_reducible assumption) (by with_reducible assumption) hCut (signTI (by with_reducible assumption)) (by with_reducible assumption) (by with_reducible assumption) (gapFI (by with_reducible assumption)) (by with_reducible assumption) (by with_reducible assumption) (by first | exact (if_pos (minusI (by with_reducible assumption))).symm | exact (if_neg (minusN (by with_reducible assumption))).symm)
end
end
section
section
variable {prog : Program} {w : World} {A : Around} {h₀ : Heap} {L : Addr} {m : Str → Option Value} {env : Env} {ct elt : PySem.Expr} {x : Str} {scope : Scope} {cl : List (Str × Addr)} {s : Shared} {S : List (Addr × Obj) → Prop} {Fin : List Value → List (Addr × Obj) → Prop} {news : List (Addr × Obj)}
/-- one more of the comprehension, or none more -/
def CntEl (news : List (Addr × Obj)) (c : Nat → Nat) (i : Nat) (news' : List (Addr × Obj)) : Prop := news' = news ∧ c (i + 1) = c i + 1
def CntNo (news : List (Addr × Obj)) (c : Nat → Nat) (i : Nat) (news' : List (Addr × Obj)) : Prop := news' = news ∧ c (i + 1) = c i
theorem cnt_rest {n : Nat} (c : Nat → Nat) (c0 : c 0 = 0)
    (turn : ∀ (i : Nat) t I oI C oC D m₂ ys h tk (E' : Value → Shared → Prop), i < n → ys.length ≤ i → LCg.NsObj oC m₂ → m₂ x = some (.int (0 + (i : Int)) t) → Fr h₀ L h m → News h₀ L h ((I, oI) :: (C, oC) :: (D, LCg.lst ys) :: news) → LCg.Off3 I C D news → ((@Ne Nat I C) ∧ (@Ne Nat I D) ∧ (@Ne Nat C D)) →
      wpAny (model prog w) A (isTrue ct (compEnvC scope cl C env) (eval ct (compEnvC scope cl C env))) (fun b s' => if b = true then wpAny (model prog w) A (eval elt (compEnvC scope cl C env)) (LCg.CompEnd h₀ L m { s with heap := h, toks := tk } I oI C oC D (LCg.lst ys) S (fun _ news' => CntEl news c i news')) E' s'
        else LCg.CompEnd h₀ L m { s with heap := h, toks := tk } I oI C oC D (LCg.lst ys) S (fun _ news' => CntNo news c i news') Value.none s') E' { s with heap := h, toks := tk })
    (fin : ∀ ys, ys.length = c n → Fin ys news) : LCt.CompRestT prog w A h₀ L m env ct elt x scope cl s S (fun i v => ∃ t, v = .int (0 + (i : Int)) t) Fin n 0 [] news := by
  have key : ∀ (j i : Nat) (ys : List Value), i + j = n → ys.length = c i → ys.length ≤ i → (j : Nat) = j → LCt.CompRestT prog w A h₀ L m env ct elt x scope cl s S (fun i v => i < n ∧ ∃ t, v = .int (0 + (i : Int)) t) Fin j i ys news := by
    intro j
    induction j with
    | zero =>
      intro i ys hi hy _ _
      refine LCt.CompRestT.zero (fin ys ?_)
      rw [hy, show i = n by omega]
    | succ j ih =>
      intro i ys hi hy hl _
      refine LCt.CompRestT.succ ?_
      rintro v I oI C oC D m₂ h tk E' ⟨hv, t, rfl⟩ hC hx F N off ne
      refine wpAny_mono (turn i t I oI C oC D m₂ ys h tk E' hv hl hC hx F N off ne) (fun b s₂ hq => ?_) fun _ _ e => e
      cases b with
      | true =>
        simp only [if_true] at hq ⊢
        refine wpAny_mono hq (fun y s₃ hr => ?_) fun _ _ e => e
        obtain ⟨h', tk', nw, e, F', N', off', hS, hn, hc⟩ := hr
        rw [hn] at N' off' hS
        refine ⟨h', tk', news, e, F', N', off', hS, ?_⟩
        exact ih (i + 1) _ (by omega) (by rw [List.length_append, hy, hc]; rfl) (by rw [List.length_append]; simp; omega) rfl
      | false =>
        simp only [Bool.false_eq_true, if_false] at hq ⊢
        obtain ⟨h', tk', nw, e, F', N', off', hS, hn, hc⟩ := hq
        rw [hn] at N' off' hS
        exact ⟨h', tk', news, e, F', N', off', hS, ih (i + 1) _ (by omega) (by rw [hy, hc]) (by omega) rfl⟩
  have lift : ∀ (j i : Nat) (ys : List Value) (nw : List (Addr × Obj)), i + j = n → LCt.CompRestT prog w A h₀ L m env ct elt x scope cl s S (fun i v => i < n ∧ ∃ t, v = .int (0 + (i : Int)) t) Fin j i ys nw → LCt.CompRestT prog w A h₀ L m env ct elt x scope cl s S (fun i v => ∃ t, v = .int (0 + (i : Int)) t) Fin j i ys nw := by
    intro j
    induction j with
    | zero => intro i ys nw _ h; exact h
    | succ j ih =>
      intro i ys nw hi h
      refine LCt.CompRestT.succ ?_
      rintro v I oI C oC D m₂ h' tk E' hv hC hx F N off ne
      refine wpAny_mono (h v I oI C oC D m₂ h' tk E' ⟨by omega, hv⟩ hC hx F N off ne) (fun b s₂ hq => ?_) fun _ _ e => e
      cases b with
      | true =>
        simp only [if_true] at hq ⊢
        refine wpAny_mono hq (fun y s₃ hr => ?_) fun _ _ e => e
        obtain ⟨h', tk', nw', e, F', N', off', hS, hr⟩ := hr
        exact ⟨h', tk', nw', e, F', N', off', hS, ih (i + 1) _ _ (by omega) hr⟩
      | false =>
        simp only [Bool.false_eq_true, if_false] at hq ⊢
        obtain ⟨h', tk', nw', e, F', N', off', hS, hr⟩ := hq
        exact ⟨h', tk', nw', e, F', N', off', hS, ih (i + 1) _ _ (by omega) hr⟩
  exact lift n 0 [] news (by omega) (key n 0 [] (by omega) c0.symm (Nat.zero_le _) rfl)
end
/-- how many of the first places lie below b -/
def cntB (b : Int) (i : Nat) : Nat := min b.toNat i
theorem cnt0 (b : Int) : cntB b 0 = 0 := Nat.min_eq_right (Nat.zero_le _)
theorem cnt_yes {b : Int} {i : Nat} (h : (0 : Int) + i < b) : cntB b (i + 1) = cntB b i + 1 := by
  rw [Int.zero_add] at h
  have q := Int.lt_toNat.mpr h
  unfold cntB
  rw [Nat.min_eq_right q, Nat.min_eq_right (Nat.le_of_lt q)]
theorem cnt_no {b : Int} {i : Nat} (h : ¬ (0 : Int) + i < b) : cntB b (i + 1) = cntB b i := by
  rw [Int.zero_add] at h
  have q := Int.toNat_le.mpr (Int.not_lt.mp h)
  unfold cntB
  rw [Nat.min_eq_left q, Nat.min_eq_left (Nat.le_succ_of_le q)]
theorem cnt_yes' {b : Int} {i : Nat} (h : (0 : Int) + i ≤ b) : cntB (b + 1) (i + 1) = cntB (b + 1) i + 1 := cnt_yes (Int.lt_add_one_of_le h)
theorem cnt_no' {b : Int} {i : Nat} (h : ¬ (0 : Int) + i ≤ b) : cntB (b + 1) (i + 1) = cntB (b + 1) i := cnt_no fun q => h (Int.le_of_lt_add_one q)
theorem cnt_is (b : Int) (i : Nat) : ((cntB b i : Nat) : Int) = max 0 (min b i) := by unfold cntB; omega
theorem map_none {x : Str} {last : Int} (h : (lawIndexS x).map (evalS last) = none) : lawIndexS x = none := by
  cases e : lawIndexS x with
  | none => rfl
  | some p => rw [e] at h; cases h
theorem map_some {x : Str} {last v : Int} (h : (lawIndexS x).map (evalS last) = some v) : ∃ p, lawIndexS x = some p ∧ evalS last p = v := by
  cases e : lawIndexS x with
  | none => rw [e] at h; cases h
  | some p => rw [e] at h; exact ⟨p, rfl, Option.some.inj h⟩
def PartOut (x y : Str) (last : Int) (tl : List (Addr × Obj)) (r : Value) : Prop :=
  (lawIndexS x = none ∧ Told (wordsI x) "INDEX" tl r) ∨ (∃ p, lawIndexS x = some p ∧ lawIndexS y = none ∧ Told (wordsI y) "INDEX" tl r) ∨ (∃ p q, lawIndexS x = some p ∧ lawIndexS y = some q ∧ PairIs (evalS last p) (evalS last q) last tl r)
theorem till_is {last : Int} (h0 : -1 ≤ last) : (((last + 1 - 0).toNat : Nat) : Int) = last + 1 := by omega
theorem cnt_small {b last : Int} (h : last ≤ 100) : cntB b (last + 1 - 0).toNat < 2 ^ 62 := Nat.lt_of_le_of_lt (Nat.min_le_right _ _) (by omega)
theorem cnt_first {b last : Int} (h0 : -1 ≤ last) : ((cntB b (last + 1 - 0).toNat : Nat) : Int) = max 0 (min b (last + 1)) := by rw [cnt_is, till_is h0]
theorem cnt_last {b last : Int} (h0 : -1 ≤ last) : ((cntB (b + 1) (last + 1 - 0).toNat : Nat) : Int) - 1 = max (-1) (min b last) := by
  rw [cnt_is, till_is h0]
  omega
theorem len_lst {prog : Program} {w : World} {A : Around} {E : Value → Shared → Prop} {s : Shared} {h₀ : Heap} {L : Addr} {news : List (Addr × Obj)} {D : Addr} {ys : List Value} {n : Nat} {Q : Value → Shared → Prop} (N : News h₀ L s.heap news) (hm : (D, LCg.lst ys) ∈ news) (hs : ys.length = n) (hf : n < 2 ^ 62) (h : Q (.int (n : Nat) (s.toks + 1)) { s with toks := s.toks + 1 + 1 }) :
    wpAny (model prog w) A (call (.builtin "len") [.ref D]) Q E s := KM.len_K N hm (by rw [List.size_toArray]; exact hs) hf h
theorem part_end {x y : Str} {last v v' : Int} {a : Addr} {n1 n2 : Int} {t1 t2 : Tok} (h : (lawIndexS x).map (evalS last) = some v) (h' : (lawIndexS y).map (evalS last) = some v') (e1 : n1 = max 0 (min v (last + 1))) (e2 : n2 = max (-1) (min v' last)) :
    PartOut x y last [(a, tupO [.int n1 t1, .int n2 t2])] (.ref a) := by
  obtain ⟨p, hp, rfl⟩ := map_some h
  obtain ⟨q, hq, rfl⟩ := map_some h'
  exact .inr (.inr ⟨p, q, hp, hq, a, n1, n2, t1, t2, rfl, rfl, e1, e2⟩)
theorem part_two {x y : Str} {last v : Int} {a et : Addr} {k t t1 t2 t3 : Tok} (h : (lawIndexS x).map (evalS last) = some v) (h' : (lawIndexS y).map (evalS last) = none) :
    PartOut x y last [(a, tupO [.int 1 k, .str (wordsI y) t, .ref et]), (et, tupO [.str "TCL" t1, .str "VALUE" t2, .str "INDEX" t3])] (.ref a) := by
  obtain ⟨p, hp, _⟩ := map_some h
  exact .inr (.inl ⟨p, hp, map_none h', _, _, _, _, _, _, _, rfl, rfl⟩)
theorem drop22 {h₀ h : Heap} {L : Addr} {a b c d : Addr × Obj} {news : List (Addr × Obj)} (N : News h₀ L h (a :: b :: c :: d :: news)) : News h₀ L h ([a, b] ++ news) := fun p hp => by
  rcases List.mem_cons.mp hp with rfl | hp
  · exact N _ (.head _)
  · rcases List.mem_cons.mp hp with rfl | hp
    · exact N _ (.tail _ (.head _))
    · exact N _ (.tail _ (.tail _ (.tail _ (.tail _ hp))))
theorem drop14 {h₀ h : Heap} {L : Addr} {a b c d e : Addr × Obj} {news : List (Addr × Obj)} (N : News h₀ L h (a :: b :: c :: d :: e :: news)) : News h₀ L h ([a] ++ news) := fun p hp => by
  rcases List.mem_cons.mp hp with rfl | hp
  · exact N _ (.head _)
  · exact N _ (.tail _ (.tail _ (.tail _ (.tail _ (.tail _ hp)))))
theorem off_lt {news : List (Addr × Obj)} {L : Addr} {c : Addr} (h : ∀ p ∈ news, p.1 < L) (hc : @LE.le Nat _ L c) : ∀ p ∈ news, p.1 ≠ c := fun p hp q => by
  have h1 := h p hp
  rw [q] at h1
  exact absurd (Nat.lt_of_lt_of_le h1 hc) (Nat.lt_irrefl _)
section
set_option hygiene false in
local macro_rules | `(tactic| k_all) => `(tactic| (refine off_lt l1 ?_; omega))
local macro_rules | `(tactic| ktn_call $c:term $p:term) => `(tactic| (k_dflt (refine' MeetsG.use $c ?k1 ?k2 ?k3 ?k4 ?k5 ?kK ?kd ?ku ?kp ?_; (case k1 => k_asm); (case k2 => k_asm); (case k3 => k_asm); (case k4 => k_asm); (case k5 => k_asm); (case kK => first | exact rfl | assumption); (case kd => ktr_room); (case ku => ktr_units); (case kp => exact $p)); intro r9 tl9 h9 tk9 F9 N9 O9))
local macro_rules | `(tactic| ktr_call $h:term $tl:term) => `(tactic| (refine' $h _ $tl _ _ ?e1 (drop22 (by with_reducible assumption)) ?e3; (case e1 => k_asm)))
theorem part_meets (w : World) (x y : Str) (t u : Tok) (last : Int) (tl : Tok) (hx : x.length ≤ 100) (hy : y.length ≤ 100) (hl0 : -1 ≤ last) (hl1 : last ≤ 100) : MeetsG w 12 204 [.str x t, .str y u, .int last tl] (fun _ _ => True) (PartOut x y last) := by
  w_top off
  k_with_none
  k_with "call ref" => ((k_here; (with_reducible show wpAny _ _ (call (Value.ref 192) [Value.str x _, _]) _ _ _); ktn_end (law_index_meets w _ _ _ _ (by with_reducible assumption)); (rename OptIs _ _ => O9); rcases OptIs.split O9 with ⟨oeb, hr9⟩ | ⟨vb, tb, oeb, hr9⟩ <;> subst hr9))
  k_with "call ref" => ((k_here; (with_reducible show wpAny _ _ (call (Value.ref 192) [Value.str y _, _]) _ _ _); ktn_end (law_index_meets w _ _ _ _ (by with_reducible assumption)); (rename OptIs _ _ => O9); rcases OptIs.split O9 with ⟨oee, hr9⟩ | ⟨ve, te, oee, hr9⟩ <;> subst hr9))
  k_with "call ref" => ((k_here; (with_reducible show wpAny _ _ (call (Value.ref 199) _) _ _ _); ktn_call (refusalI_meets w _ _ _ (by with_reducible assumption)) trivial; (rename Told _ _ _ _ => O9); (obtain ⟨a9, et9, k9, t90, t91, t92, t93, rfl, rfl⟩ := O9); (rename News _ _ _ _ => N9); (simp only [List.cons_append, List.nil_append] at N9); (try k_sweep)))
  k_with "CompSrcT" => ((k_here; k_dflt (refine LCt.CompSrcT.range (by rfl) (by k_asm) (by k_asm) (by assumption) (small_one (by l_bnd) (by l_bnd) (by l_bnd) (by l_bnd)) (rangeSize_nat _ _) (by rw [PySem.sizeLine_eq]; omega) ?_); intro g'; refine stop_ ?_))
  k_with "call builtin:len" => ((k_here; k_dflt (refine len_lst (by k_asm) (by k_mem) (by with_reducible assumption) (by exact cnt_small (by with_reducible assumption)) ?_)))
  (unfold MeetsG; intro prog mean mg mb dp un gd cn cs a ccd cl outer A₀ base h₀ L m news s Q E B F X N T hk hdp hun hpre hret; refine wpAny_call ?_)
  k_dflt (refine' code_defC ?k1 ?k2 ?k3 ?k4 ?k5 ?kA ?kF ?kK ?k6 ?k7 ?k8 ?k9 ?kB ?kD ?_ ?c2 ?c3 ?c4; (case kA => exact rfl); (case kF => exact rfl); (case kK => assumption); (case k1 => k_asm); (case k2 => k_asm); (case k3 => k_asm); (case k4 => k_asm); (case k5 => k_asm); (case k6 => k_is); (case k7 => k_is); (case k8 => ktr_room); (case k9 => exact BindsTo.of_eq rfl); (case kB => exact rfl); (case kD => decide +kernel); (case c2 => exact rfl); (case c3 => exact rfl); (case c4 => exact rfl); k_whole; intro g' L' h' tk' cells' FG' F' N' Y' B' X' T' l1; (try k_lt l1); k_cells Y'; (try simp only [List.cons_append, List.nil_append] at N'); (try dsimp only); (try k_lift B'); (try k_fold))
  k_with_none
  k_with "call ref" => ((k_here; (with_reducible show wpAny _ _ (call (Value.ref 192) [Value.str x _, _]) _ _ _); ktn_end (law_index_meets w _ _ _ _ (by with_reducible assumption)); (rename OptIs _ _ => O9); rcases OptIs.split O9 with ⟨oeb, hr9⟩ | ⟨vb, tb, oeb, hr9⟩ <;> subst hr9))
  k_with "call ref" => ((k_here; (with_reducible show wpAny _ _ (call (Value.ref 192) [Value.str y _, _]) _ _ _); ktn_end (law_index_meets w _ _ _ _ (by with_reducible assumption)); (rename OptIs _ _ => O9); rcases OptIs.split O9 with ⟨oee, hr9⟩ | ⟨ve, te, oee, hr9⟩ <;> subst hr9))
  k_with "call ref" => ((k_here; (with_reducible show wpAny _ _ (call (Value.ref 199) _) _ _ _); ktn_call (refusalI_meets w _ _ _ (by with_reducible assumption)) trivial; (rename Told _ _ _ _ => O9); (obtain ⟨a9, et9, k9, t90, t91, t92, t93, rfl, rfl⟩ := O9); (rename News _ _ _ _ => N9); (simp only [List.cons_append, List.nil_append] at N9); (try k_sweep)))
  k_with "CompSrcT" => ((k_here; k_dflt (refine LCt.CompSrcT.range (by rfl) (by k_asm) (by k_asm) (by assumption) (small_one (by l_bnd) (by l_bnd) (by l_bnd) (by l_bnd)) (rangeSize_nat _ _) (by rw [PySem.sizeLine_eq]; omega) ?_); intro g'; refine stop_ ?_))
  k_with "call builtin:len" => ((k_here; k_dflt (refine len_lst (by k_asm) (by k_mem) (by with_reducible assumption) (by exact cnt_small (by with_reducible assumption)) ?_)))
  k_steps
  · ktr_call hret [_, _]
    exact .inl ⟨map_none oeb, _, _, _, _, _, _, _, rfl, rfl⟩
  · ktr_call hret [_, _]
    exact part_two oeb oee
  unfold Stop
  refine' cnt_rest (cntB vb) (cnt0 _) (fun i' t' I' oI' C' oC' D' m' ys' h' tk' E' hi' hl' hC' hx' F' N' off' ne' => ?_) ?_
  case refine'_1 =>
    k_steps
    all_goals first
      | exact LCg.CompEnd.intro (by with_reducible assumption) N' _ (fun _ h => h) off' trivial ⟨rfl, cnt_yes (by with_reducible assumption)⟩
      | exact LCg.CompEnd.intro (by with_reducible assumption) N' _ (fun _ h => h) off' trivial ⟨rfl, cnt_no (by with_reducible assumption)⟩
  intro ys hys
  k_steps
  unfold Stop
  refine' cnt_rest (cntB (ve + 1)) (cnt0 _) (fun i' t' I' oI' C' oC' D' m' ys' h' tk' E' hi' hl' hC' hx' F' N' off' ne' => ?_) ?_
  case refine'_1 =>
    k_steps
    all_goals first
      | exact LCg.CompEnd.intro (by with_reducible assumption) N' _ (fun _ h => h) off' trivial ⟨rfl, cnt_yes' (by with_reducible assumption)⟩
      | exact LCg.CompEnd.intro (by with_reducible assumption) N' _ (fun _ h => h) off' trivial ⟨rfl, cnt_no' (by with_reducible assumption)⟩
  intro ys hys
  k_steps
  refine' hret _ [_] _ _ ?g1 (drop14 (by with_reducible assumption)) ?g3
  case g1 => k_asm
  exact part_end oeb oee (cnt_first hl0) (cnt_last hl0)

end
end
section
/-- the law's own body and scope, as the row holds them -/
def lawParts : List Stmt × Scope := match PySem.Challenge.pw_np0130_01.main.body.getLast? with
  | some (.FunctionDef _ _ b _ _ _ sc _ _ _) => (b, sc)
  | _ => ([], default)
def loopAt (i : Nat) : Stmt := lawParts.1.getD i (.Pass default)
abbrev lawEnv (L fa : Addr) (cd : Value) : Env := envOf (Str.ofString "law") lawParts.2 L fa cd
/-- a statement of the law's body goes by and keeps the script's name -/
def LoopMeets (w : World) (i : Nat) : Prop :=
  ∀ (prog : Program) (mean : ExcName → Option Value) (mg mb : Str → Option Value) (fa : Addr) (cd : Addr) (h₀ : Heap) (L : Addr) (m : Str → Option Value) (s : Shared) (Q : Flow → Shared → Prop) (E : Value → Shared → Prop) (l : Addr) (vs : List Value) (zs : List Int),
    Below callerA h₀ [] h₀ → Fr h₀ L s.heap m → (hd.heap_1 w.params).In h₀ → News h₀ L s.heap [] → Top viewP lse mean mg mb h₀ → Keeps [(Str.ofString "script", .ref l)] m → h₀.IsList l vs.toArray → IntsAre vs zs → ¬63 < (zs.length : Int) →
    PassesOwn (model prog w) (callerA.deeper (lawEnv L fa (.ref cd))) (lawEnv L fa (.ref cd)) E →
    (∀ (m' : Str → Option Value) (h' : Heap) (tk' : Nat), Fr h₀ L h' m' → News h₀ L h' [] → Keeps [(Str.ofString "script", .ref l)] m' → Q .next { s with heap := h', toks := tk' }) →
    wpAny (model prog w) (callerA.deeper (lawEnv L fa (.ref cd))) (exec (loopAt i) (lawEnv L fa (.ref cd))) Q E s
end
section
local macro_rules | `(tactic| ktn_call $c:term $p:term) => `(tactic| (k_dflt (refine' MeetsG.use $c ?k1 ?k2 ?k3 ?k4 ?k5 ?kK ?kd ?ku $p ?_; (case k1 => k_asm); (case k2 => k_asm); (case k3 => k_asm); (case k4 => k_asm); (case k5 => k_asm); (case kK => first | exact rfl | assumption); (case kd => ktr_room); (case ku => ktr_units)); intro r9 tl9 h9 tk9 F9 N9 O9))
local macro_rules | `(tactic| ktr_call $c:term $p:term) => `(tactic| (k_dflt (refine' MeetsR.use $c ?k1 ?k2 ?k3 ?k4 ?k5 ?kK ?kd ?ku ?_ ?_; (case k1 => k_asm); (case k2 => k_asm); (case k3 => k_asm); (case k4 => k_asm); (case k5 => k_asm); (case kK => first | exact rfl | assumption); (case kd => ktr_room); (case ku => ktr_units))))
section
theorem no_none {P : Prop} {α : Type} {v : α} (h : (none : Option α) = some v) : P := nomatch h
theorem no_some {P : Prop} {α : Type} {v : α} (h : some v = (none : Option α)) : P := nomatch h
theorem ok_len {x : Str} (h : TextOk 60 x) : x.length ≤ 100 := by have := h.1; omega
theorem words_ok {x : Str} (h : TextOk 60 x) : PyData.strOk (wordsN x) = true := strOk_app (strOk_app (by decide +kernel) h.2) (by decide +kernel)
section
theorem loop1 (w : World) : LoopMeets w 0 := by
  w_top off
  k_with_none
  k_with "call ref" => ((k_here; (with_reducible show wpAny _ _ (call (Value.ref 136) _) _ _ _); ktn_call (number_meets w l vs zs hi hz _ _) hl; (rename _ ∧ SomeInt _ => O9); (k_dflt (obtain ⟨rfl, n9, t9, rfl⟩ := O9)); (rename News _ _ _ _ => N9); (simp only [List.nil_append] at N9); (try k_sweep)))
  k_with "call ref" => ((k_here; (with_reducible show wpAny _ _ (call (Value.ref 164) _) _ _ _); ktn_end (law_whole_meets w _ _ (by with_reducible assumption)); (rename OptIs _ _ => O9); (rw [whole_same] at O9); rcases OptIs.split O9 with ⟨oe9, hr9⟩ | ⟨v9, t9, oe9, hr9⟩ <;> (subst hr9; clear O9)))
  k_with "call ref" => ((k_here; (with_reducible show wpAny _ _ (call (Value.ref 80) _) _ _ _); ktn_end (whole_of_meets w _ _ (by with_reducible assumption)); (rename OptIs _ _ => O9); (rw [oe9] at O9); (cases O9)))
  k_with "call ref" => ((k_here; (with_reducible show wpAny _ _ (call (Value.ref 211) _) _ _ _); (first   | ktn_end (same_none w) | ktn_end (same_int w _ _ _) | ktn_end (same_bool w _)); (rename BoolIs _ _ => O9); (cases O9)))
  k_with "noteFrame ref" => ((k_here; (k_dflt (refine caught_D (by k_asm) (by exact F9) (by exact U9) (by exact R9) (by k_asm) (by k_asm) (by k_is) (by k_is) ?_; k_whole)); (clear F9 U9 R9); intro hc9 tkc9 wsc9 slc9 Fc9 Nc9; (try simp only [List.cons_append, List.nil_append] at Nc9); (try k_sweep)))
  k_with "getAttr ref" => ((k_here; k_dflt (refine get_excF (by k_asm) (by k_asm) (by k_asm) (by k_mem) (by k_mem) (by k_is) (by k_is) (by k_is) (by rfl) (by k_is) (by k_is) (by k_is) (by with_reducible assumption) (by k_handed) ?_; k_whole)))
  k_with "call ref" => ((k_here; (with_reducible show wpAny _ _ (call (Value.ref 143) _) _ _ _); ktn_end (whole_text_meets w _ _ _ _ (by omega) (by omega)); (rename StrIs _ _ => O9); (k_dflt (obtain ⟨x9, t9, p9⟩ := O9)); (have hx9 := ok_len p9)))
  k_with "call ref" => ((k_here; (with_reducible show wpAny _ _ (call (Value.ref 199) _) _ _ _); ktn_call (refusalN_meets w _ _ _ (by with_reducible assumption)) trivial; (rename Told _ _ _ _ => O9); (k_dflt (obtain ⟨a9, et9, k9, t90, t91, t92, t93, rfl, rfl⟩ := O9)); (rename News _ _ _ _ => N9); (simp only [List.cons_append, List.nil_append] at N9); (try k_sweep)))
  k_with "call ref" => ((k_here; (with_reducible show wpAny _ _ (call (Value.ref 211) [Value.ref _, Value.ref _]) _ _ _); ktn_call (same_told w _ "NUMBER" _ _ _ _ _ _ _ _ _ _ _ _ _ _ (words_ok p9) (by decide +kernel)) ⟨by k_mem, by k_mem, by k_mem, by k_mem⟩; (rename _ ∧ BoolIs _ _ => O9); (k_dflt (obtain ⟨rfl, ⟨⟩⟩ := O9)); (rename News _ _ _ _ => N9); (simp only [List.nil_append] at N9); (try k_sweep)))
  k_with "call ref" => ((k_here; (with_reducible show wpAny _ _ (call (Value.ref 87) _) _ _ _); ktr_call (need_whole_meets w _ _ (by with_reducible assumption)) 0; rotate_left; (intro e9 d9 tl9 g9 h9 tk9 R9 F9 U9 O9); (k_dflt (obtain ⟨on9, es9, n9, k9, t90, t91, t92, t93, et9, rfl, c91, c92, c93⟩ := O9)); (rw [oe9] at on9); (try exact no_some on9); rotate_right; (intro r9 tl9 h9 tk9 F9 N9 O9); (k_dflt (obtain ⟨rfl, v99, hv9, ⟨t99⟩⟩ := O9)); (rw [oe9] at hv9); first | exact no_none hv9 | ((have hv9' := Option.some.inj hv9); (subst hv9'); (simp only [List.nil_append] at N9); (try k_sweep))))
  unfold LoopMeets
  (obtain ⟨S, hS⟩ : ∃ S, S = lawParts.2 := ⟨_, rfl⟩)
  unfold lawEnv
  rw [← hS]
  (conv at hS => rhs; whnf)
  dsimp only at hS
  subst hS
  rintro prog mean mg mb fa cd h₀ L m s Q E l vs zs B F X N T ⟨u, rfl⟩ hl hi hz hE hret
  dsimp only [kstB] at F
  (conv => arg 3; arg 1; whnf)
  k_with_none
  k_with "call ref" => ((k_here; (with_reducible show wpAny _ _ (call (Value.ref 136) _) _ _ _); ktn_call (number_meets w l vs zs hi hz _ _) hl; (rename _ ∧ SomeInt _ => O9); (k_dflt (obtain ⟨rfl, n9, t9, rfl⟩ := O9)); (rename News _ _ _ _ => N9); (simp only [List.nil_append] at N9); (try k_sweep)))
  k_with "call ref" => ((k_here; (with_reducible show wpAny _ _ (call (Value.ref 164) _) _ _ _); ktn_end (law_whole_meets w _ _ (by with_reducible assumption)); (rename OptIs _ _ => O9); (rw [whole_same] at O9); rcases OptIs.split O9 with ⟨oe9, hr9⟩ | ⟨v9, t9, oe9, hr9⟩ <;> (subst hr9; clear O9)))
  k_with "call ref" => ((k_here; (with_reducible show wpAny _ _ (call (Value.ref 80) _) _ _ _); ktn_end (whole_of_meets w _ _ (by with_reducible assumption)); (rename OptIs _ _ => O9); (rw [oe9] at O9); (cases O9)))
  k_with "call ref" => ((k_here; (with_reducible show wpAny _ _ (call (Value.ref 211) _) _ _ _); (first   | ktn_end (same_none w) | ktn_end (same_int w _ _ _) | ktn_end (same_bool w _)); (rename BoolIs _ _ => O9); (cases O9)))
  k_with "noteFrame ref" => ((k_here; (k_dflt (refine caught_D (by k_asm) (by exact F9) (by exact U9) (by exact R9) (by k_asm) (by k_asm) (by k_is) (by k_is) ?_; k_whole)); (clear F9 U9 R9); intro hc9 tkc9 wsc9 slc9 Fc9 Nc9; (try simp only [List.cons_append, List.nil_append] at Nc9); (try k_sweep)))
  k_with "getAttr ref" => ((k_here; k_dflt (refine get_excF (by k_asm) (by k_asm) (by k_asm) (by k_mem) (by k_mem) (by k_is) (by k_is) (by k_is) (by rfl) (by k_is) (by k_is) (by k_is) (by with_reducible assumption) (by k_handed) ?_; k_whole)))
  k_with "call ref" => ((k_here; (with_reducible show wpAny _ _ (call (Value.ref 143) _) _ _ _); ktn_end (whole_text_meets w _ _ _ _ (by omega) (by omega)); (rename StrIs _ _ => O9); (k_dflt (obtain ⟨x9, t9, p9⟩ := O9)); (have hx9 := ok_len p9)))
  k_with "call ref" => ((k_here; (with_reducible show wpAny _ _ (call (Value.ref 199) _) _ _ _); ktn_call (refusalN_meets w _ _ _ (by with_reducible assumption)) trivial; (rename Told _ _ _ _ => O9); (k_dflt (obtain ⟨a9, et9, k9, t90, t91, t92, t93, rfl, rfl⟩ := O9)); (rename News _ _ _ _ => N9); (simp only [List.cons_append, List.nil_append] at N9); (try k_sweep)))
  k_with "call ref" => ((k_here; (with_reducible show wpAny _ _ (call (Value.ref 211) [Value.ref _, Value.ref _]) _ _ _); ktn_call (same_told w _ "NUMBER" _ _ _ _ _ _ _ _ _ _ _ _ _ _ (words_ok p9) (by decide +kernel)) ⟨by k_mem, by k_mem, by k_mem, by k_mem⟩; (rename _ ∧ BoolIs _ _ => O9); (k_dflt (obtain ⟨rfl, ⟨⟩⟩ := O9)); (rename News _ _ _ _ => N9); (simp only [List.nil_append] at N9); (try k_sweep)))
  k_with "call ref" => ((k_here; (with_reducible show wpAny _ _ (call (Value.ref 87) _) _ _ _); ktr_call (need_whole_meets w _ _ (by with_reducible assumption)) 0; rotate_left; (intro e9 d9 tl9 g9 h9 tk9 R9 F9 U9 O9); (k_dflt (obtain ⟨on9, es9, n9, k9, t90, t91, t92, t93, et9, rfl, c91, c92, c93⟩ := O9)); (rw [oe9] at on9); (try exact no_some on9); rotate_right; (intro r9 tl9 h9 tk9 F9 N9 O9); (k_dflt (obtain ⟨rfl, v99, hv9, ⟨t99⟩⟩ := O9)); (rw [oe9] at hv9); first | exact no_none hv9 | ((have hv9' := Option.some.inj hv9); (subst hv9'); (simp only [List.nil_append] at N9); (try k_sweep))))
  k_with "pyIter ref" => (refine' stop_ ?_)
  refine For_invVF F (by exact rfl) (by exact rfl) ?_ (by intro _; rfl) hE
  k_steps
  k_with_none
  k_with "call ref" => ((k_here; (with_reducible show wpAny _ _ (call (Value.ref 136) _) _ _ _); ktn_call (number_meets w l vs zs hi hz _ _) hl; (rename _ ∧ SomeInt _ => O9); (k_dflt (obtain ⟨rfl, n9, t9, rfl⟩ := O9)); (rename News _ _ _ _ => N9); (simp only [List.nil_append] at N9); (try k_sweep)))
  k_with "call ref" => ((k_here; (with_reducible show wpAny _ _ (call (Value.ref 164) _) _ _ _); ktn_end (law_whole_meets w _ _ (by with_reducible assumption)); (rename OptIs _ _ => O9); (rw [whole_same] at O9); rcases OptIs.split O9 with ⟨oe9, hr9⟩ | ⟨v9, t9, oe9, hr9⟩ <;> (subst hr9; clear O9)))
  k_with "call ref" => ((k_here; (with_reducible show wpAny _ _ (call (Value.ref 80) _) _ _ _); ktn_end (whole_of_meets w _ _ (by with_reducible assumption)); (rename OptIs _ _ => O9); (rw [oe9] at O9); (cases O9)))
  k_with "call ref" => ((k_here; (with_reducible show wpAny _ _ (call (Value.ref 211) _) _ _ _); (first   | ktn_end (same_none w) | ktn_end (same_int w _ _ _) | ktn_end (same_bool w _)); (rename BoolIs _ _ => O9); (cases O9)))
  k_with "noteFrame ref" => ((k_here; (k_dflt (refine caught_D (by k_asm) (by exact F9) (by exact U9) (by exact R9) (by k_asm) (by k_asm) (by k_is) (by k_is) ?_; k_whole)); (clear F9 U9 R9); intro hc9 tkc9 wsc9 slc9 Fc9 Nc9; (try simp only [List.cons_append, List.nil_append] at Nc9); (try k_sweep)))
  k_with "getAttr ref" => ((k_here; k_dflt (refine get_excF (by k_asm) (by k_asm) (by k_asm) (by k_mem) (by k_mem) (by k_is) (by k_is) (by k_is) (by rfl) (by k_is) (by k_is) (by k_is) (by with_reducible assumption) (by k_handed) ?_; k_whole)))
  k_with "call ref" => ((k_here; (with_reducible show wpAny _ _ (call (Value.ref 143) _) _ _ _); ktn_end (whole_text_meets w _ _ _ _ (by omega) (by omega)); (rename StrIs _ _ => O9); (k_dflt (obtain ⟨x9, t9, p9⟩ := O9)); (have hx9 := ok_len p9)))
  k_with "call ref" => ((k_here; (with_reducible show wpAny _ _ (call (Value.ref 199) _) _ _ _); ktn_call (refusalN_meets w _ _ _ (by with_reducible assumption)) trivial; (rename Told _ _ _ _ => O9); (k_dflt (obtain ⟨a9, et9, k9, t90, t91, t92, t93, rfl, rfl⟩ := O9)); (rename News _ _ _ _ => N9); (simp only [List.cons_append, List.nil_append] at N9); (try k_sweep)))
  k_with "call ref" => ((k_here; (with_reducible show wpAny _ _ (call (Value.ref 211) [Value.ref _, Value.ref _]) _ _ _); ktn_call (same_told w _ "NUMBER" _ _ _ _ _ _ _ _ _ _ _ _ _ _ (words_ok p9) (by decide +kernel)) ⟨by k_mem, by k_mem, by k_mem, by k_mem⟩; (rename _ ∧ BoolIs _ _ => O9); (k_dflt (obtain ⟨rfl, ⟨⟩⟩ := O9)); (rename News _ _ _ _ => N9); (simp only [List.nil_append] at N9); (try k_sweep)))
  k_with "call ref" => ((k_here; (with_reducible show wpAny _ _ (call (Value.ref 87) _) _ _ _); ktr_call (need_whole_meets w _ _ (by with_reducible assumption)) 0; rotate_left; (intro e9 d9 tl9 g9 h9 tk9 R9 F9 U9 O9); (k_dflt (obtain ⟨on9, es9, n9, k9, t90, t91, t92, t93, et9, rfl, c91, c92, c93⟩ := O9)); (rw [oe9] at on9); (try exact no_some on9); rotate_right; (intro r9 tl9 h9 tk9 F9 N9 O9); (k_dflt (obtain ⟨rfl, v99, hv9, ⟨t99⟩⟩ := O9)); (rw [oe9] at hv9); first | exact no_none hv9 | ((have hv9' := Option.some.inj hv9); (subst hv9'); (simp only [List.nil_append] at N9); (try k_sweep))))
  unfold Stop
  rename Fr _ _ _ _ => lF
  rename News _ _ _ _ => lN
  rename IsRange _ _ _ _ _ _ _ _ => lR
  refine range_loop (n := 12) (fun i m => Keeps [(Str.ofString "script", .ref l)] m) rfl lR (by decide) (by decide) lF lN (Keeps.of (by kst_all)) ?_ ?_
  · rintro i ti m₁ h tk own hi' ⟨u1, rfl⟩ F9 N9
    dsimp only [kstB] at F9
    simp only [List.nil_append] at N9
    clear lF lN lR hret
    k_steps
    all_goals first
      | exact rg_end (.inl rfl) (by k_asm) (by k_asm) (by kcj_all) (Keeps.of (by kst_all))
  · rintro m₁ h tk ⟨u1, rfl⟩ F9 N9
    exact hret _ _ _ F9 N9 ⟨_, rfl⟩
end
end
section
theorem src_text {prog : Program} {w : World} {A : Around} {h₀ : Heap} {L : Addr} {m : Str → Option Value} {env : Env} {elt : PySem.Expr} {x : Str} {scope : Scope} {cl : List (Str × Addr)} {Fin : Shared → List Value → List (Addr × Obj) → Prop} {xt : Str} {tx : Tok} {s₁ : Shared} {news : List (Addr × Obj)} (hh : A.handled = none) (F : Fr h₀ L s₁.heap m) (N : News h₀ L s₁.heap news) (hsz : xt.length ≤ 100)
    (h : ∀ g, LCg.CompRest prog w A h₀ L m env elt x scope cl { s₁ with heap := g } (fun _ => True) (SignAt xt) (Fin { s₁ with heap := g }) xt.cps.size 0 [] news) : SrcS prog w A h₀ L m env elt x scope cl Fin (.str xt tx) s₁ :=
  ⟨xt, tx, news, rfl, hh, F, N, by have : xt.cps.size = xt.length := rfl; rw [this, sizeLine_eq]; omega, fun _ ⟨g, e⟩ => e ▸ h g⟩
theorem figs_pos {x : Str} (h : 0 < x.length) : 0 < (x.cps.toList.map digitC).length := by rw [List.length_map, len_list]; exact h
theorem figs_len {x : Str} (h : x.length ≤ 100) : (x.cps.toList.map digitC).length ≤ 100 := by rw [List.length_map, len_list]; exact h
theorem two_of {ys : List Value} {S T : Str} {i j : Int} (_h : IntsAre ys ((Txt.item S i ++ Txt.item T j).cps.toList.map digitC)) : 0 < (Txt.item S i ++ Txt.item T j).length ∧ (Txt.item S i ++ Txt.item T j).length ≤ 100 := by
  rw [app_len, item_is, item_is]
  exact ⟨by show 0 < 1 + 1; decide, by show 1 + 1 ≤ 100; decide⟩
theorem base_in (a : Int) : 1 ≤ 36 - a.fmod 35 ∧ 36 - a.fmod 35 ≤ 36 := by
  have h1 := Int.fmod_lt_of_pos a (show (0 : Int) < 35 by decide)
  have h2 := Int.fmod_nonneg_of_pos a (show (0 : Int) < 35 by decide)
  omega
/-- the figures of a text, each in bounds -/
def FigsIn (x : Str) (b : Int) : Prop := ∀ f ∈ x.cps.toList.map digitC, 0 ≤ f ∧ f < b
theorem figs_in {x : Str} {b M M' : Int} (h1 : ∀ a, a ∈ x.cps.toList.map digitC → M ≤ a) (h2 : ∀ a, a ∈ x.cps.toList.map digitC → a ≤ M') (h3 : 0 ≤ M) (h4 : M' < b) : FigsIn x b := fun f hf => ⟨Int.le_trans h3 (h1 f hf), Int.lt_of_le_of_lt (h2 f hf) h4⟩
theorem figs_36 {x : Str} {b : Int} (h : FigsIn x b) (hb : b ≤ 36) : ∀ f ∈ x.cps.toList.map digitC, 0 ≤ f ∧ f ≤ 36 := fun f hf => by
  have := h f hf
  omega
theorem dv_figs (b : Int) : ∀ (l : List Nat) (acc : Int), (∀ f ∈ l.map digitC, 0 ≤ f ∧ f < b) → dv b acc l = some ((l.map digitC).foldl (fun a f => a * b + f) acc)
  | [], _, _ => rfl
  | c :: r, acc, h => by
    have hc := h (digitC c) (.head _)
    unfold dv
    rw [if_neg (by omega), dv_figs b r _ fun f hf => h f (.tail _ hf)]
    rfl
theorem dv_out (b : Int) {f : Int} (hf : f < 0 ∨ b ≤ f) : ∀ (l : List Nat) (acc : Int), f ∈ l.map digitC → dv b acc l = none
  | c :: r, acc, h => by
    unfold dv
    by_cases hc : digitC c < 0 ∨ b ≤ digitC c
    · rw [if_pos hc]
    · rw [if_neg hc]
      rcases List.mem_cons.mp h with e | h
      · exact absurd (e ▸ hf) hc
      · exact dv_out b hf r _ h
theorem value_in {x : Str} {b : Int} (hp : 0 < x.length) (h : FigsIn x b) : digitsValue x.cps.toList b = some (horner b (x.cps.toList.map digitC)) := by
  unfold digitsValue
  rw [if_neg (fun q => by rw [← len_list, q] at hp; exact absurd hp (Nat.lt_irrefl _)), dv_figs b _ 0 h]
  rfl
theorem value_lo {x : Str} {b M : Int} (h : M ∈ x.cps.toList.map digitC) (h' : ¬ 0 ≤ M) : digitsValue x.cps.toList b = none := by
  unfold digitsValue
  split
  · rfl
  · exact dv_out b (.inl (by omega)) _ 0 h
theorem value_hi {x : Str} {b M : Int} (h : M ∈ x.cps.toList.map digitC) (h' : ¬ M < b) : digitsValue x.cps.toList b = none := by
  unfold digitsValue
  split
  · rfl
  · exact dv_out b (.inr (by omega)) _ 0 h
section
theorem loop2 (w : World) : LoopMeets w 1 := by
  w_top off
  k_with_none
  k_with "call ref" => ((k_here; (with_reducible show wpAny _ _ (call (Value.ref 136) _) _ _ _); ktn_call (number_meets w l vs zs hi hz _ _) hl; (rename _ ∧ SomeInt _ => O9); (k_dflt (obtain ⟨rfl, n9, t9, rfl⟩ := O9)); (rename News _ _ _ _ => N9); (simp only [List.nil_append] at N9); (try k_sweep)))
  k_with "call ref" => ((k_here; (with_reducible show wpAny _ _ (call (Value.ref 164) _) _ _ _); ktn_end (law_whole_meets w _ _ (by with_reducible assumption)); (rename OptIs _ _ => O9); (rw [whole_same] at O9); rcases OptIs.split O9 with ⟨oe9, hr9⟩ | ⟨v9, t9, oe9, hr9⟩ <;> (subst hr9; clear O9)))
  k_with "call ref" => ((k_here; (with_reducible show wpAny _ _ (call (Value.ref 80) _) _ _ _); ktn_end (whole_of_meets w _ _ (by with_reducible assumption)); (rename OptIs _ _ => O9); (rw [oe9] at O9); (cases O9)))
  k_with "call ref" => ((k_here; (with_reducible show wpAny _ _ (call (Value.ref 211) _) _ _ _); (first   | ktn_end (same_none w) | ktn_end (same_int w _ _ _) | ktn_end (same_bool w _)); (rename BoolIs _ _ => O9); (cases O9)))
  k_with "noteFrame ref" => ((k_here; (k_dflt (refine caught_D (by k_asm) (by exact F9) (by exact U9) (by exact R9) (by k_asm) (by k_asm) (by k_is) (by k_is) ?_; k_whole)); (clear F9 U9 R9); intro hc9 tkc9 wsc9 slc9 Fc9 Nc9; (try simp only [List.cons_append, List.nil_append] at Nc9); (try k_sweep)))
  k_with "getAttr ref" => ((k_here; k_dflt (refine get_excF (by k_asm) (by k_asm) (by k_asm) (by k_mem) (by k_mem) (by k_is) (by k_is) (by k_is) (by rfl) (by k_is) (by k_is) (by k_is) (by with_reducible assumption) (by k_handed) ?_; k_whole)))
  k_with "execs nil" => ((k_here; refine wpAny_execs_nil ?_))
  k_with "exec Assign cons ListComp" => ((k_here; k_dflt (refine Assign_ListComp_S (F₀ := by k_asm) (by rfl) (by with_unfolding_all rfl) (by with_unfolding_all rfl) (by decide) (by rfl) (by decide) (by rfl) (by rfl) (by rfl) ?_)))
  k_with "call builtin:min" => ((k_here; k_dflt (refine kso_min (by k_asm) (by k_asm) (by exact News.isList (by k_asm) (by k_mem)) hys (figs_pos hpos) rfl ?_); intro hm9 mn9 tm9 km9 Fm9 Nm9 amn9 bmn9))
  k_with "call builtin:max" => ((k_here; k_dflt (refine kso_max (by k_asm) (by k_asm) (by exact News.isList (by k_asm) (by k_mem)) hys (figs_pos hpos) rfl ?_); intro hm9 mx9 tm9 km9 Fm9 Nm9 amx9 bmx9))
  k_with "call ref" => ((k_here; (with_reducible show wpAny _ _ (call (Value.ref 150) _) _ _ _); ktn_end (law_figure_meets w _ _)))
  k_with "call ref" => ((k_here; (with_reducible show wpAny _ _ (call (Value.ref 157) _) _ _ _); (have hin9 := figs_in bmn9 bmx9 (by with_reducible assumption) (by with_reducible assumption)); ktn_call (law_worth_meets w _ ys _ _ _ _ hys (figs_len hlen) (base_in _).1 (base_in _).2 (figs_36 hin9 (base_in _).2)) (by k_mem); (rename _ ∧ IntIs _ _ => O9); (k_dflt (obtain ⟨rfl, ⟨t9⟩⟩ := O9)); (rename News _ _ _ _ => N9); (simp only [List.nil_append] at N9); (try k_sweep)))
  k_with "call ref" => ((k_here; (with_reducible show wpAny _ _ (call (Value.ref 66) _) _ _ _); ktn_end (digits_value_meets w _ _ _ _ (base_in _).1 (base_in _).2); (rename OptIs _ _ => O9); first | ((rw [value_in hpos hin9] at O9); (cases O9)) | ((rw [value_lo amn9 (by with_reducible assumption)] at O9); (cases O9)) | ((rw [value_hi amx9 (by with_reducible assumption)] at O9); (cases O9))))
  unfold LoopMeets
  (obtain ⟨S, hS⟩ : ∃ S, S = lawParts.2 := ⟨_, rfl⟩)
  unfold lawEnv
  rw [← hS]
  (conv at hS => rhs; whnf)
  dsimp only at hS
  subst hS
  rintro prog mean mg mb fa cd h₀ L m s Q E l vs zs B F X N T ⟨u, rfl⟩ hl hi hz hE hret
  dsimp only [kstB] at F
  (conv => arg 3; arg 1; whnf)
  k_with_none
  k_with "call ref" => ((k_here; (with_reducible show wpAny _ _ (call (Value.ref 136) _) _ _ _); ktn_call (number_meets w l vs zs hi hz _ _) hl; (rename _ ∧ SomeInt _ => O9); (k_dflt (obtain ⟨rfl, n9, t9, rfl⟩ := O9)); (rename News _ _ _ _ => N9); (simp only [List.nil_append] at N9); (try k_sweep)))
  k_with "call ref" => ((k_here; (with_reducible show wpAny _ _ (call (Value.ref 164) _) _ _ _); ktn_end (law_whole_meets w _ _ (by with_reducible assumption)); (rename OptIs _ _ => O9); (rw [whole_same] at O9); rcases OptIs.split O9 with ⟨oe9, hr9⟩ | ⟨v9, t9, oe9, hr9⟩ <;> (subst hr9; clear O9)))
  k_with "call ref" => ((k_here; (with_reducible show wpAny _ _ (call (Value.ref 80) _) _ _ _); ktn_end (whole_of_meets w _ _ (by with_reducible assumption)); (rename OptIs _ _ => O9); (rw [oe9] at O9); (cases O9)))
  k_with "call ref" => ((k_here; (with_reducible show wpAny _ _ (call (Value.ref 211) _) _ _ _); (first   | ktn_end (same_none w) | ktn_end (same_int w _ _ _) | ktn_end (same_bool w _)); (rename BoolIs _ _ => O9); (cases O9)))
  k_with "noteFrame ref" => ((k_here; (k_dflt (refine caught_D (by k_asm) (by exact F9) (by exact U9) (by exact R9) (by k_asm) (by k_asm) (by k_is) (by k_is) ?_; k_whole)); (clear F9 U9 R9); intro hc9 tkc9 wsc9 slc9 Fc9 Nc9; (try simp only [List.cons_append, List.nil_append] at Nc9); (try k_sweep)))
  k_with "getAttr ref" => ((k_here; k_dflt (refine get_excF (by k_asm) (by k_asm) (by k_asm) (by k_mem) (by k_mem) (by k_is) (by k_is) (by k_is) (by rfl) (by k_is) (by k_is) (by k_is) (by with_reducible assumption) (by k_handed) ?_; k_whole)))
  k_with "execs nil" => ((k_here; refine wpAny_execs_nil ?_))
  k_with "exec Assign cons ListComp" => ((k_here; k_dflt (refine Assign_ListComp_S (F₀ := by k_asm) (by rfl) (by with_unfolding_all rfl) (by with_unfolding_all rfl) (by decide) (by rfl) (by decide) (by rfl) (by rfl) (by rfl) ?_)))
  k_with "call builtin:min" => ((k_here; k_dflt (refine kso_min (by k_asm) (by k_asm) (by exact News.isList (by k_asm) (by k_mem)) hys (figs_pos hpos) rfl ?_); intro hm9 mn9 tm9 km9 Fm9 Nm9 amn9 bmn9))
  k_with "call builtin:max" => ((k_here; k_dflt (refine kso_max (by k_asm) (by k_asm) (by exact News.isList (by k_asm) (by k_mem)) hys (figs_pos hpos) rfl ?_); intro hm9 mx9 tm9 km9 Fm9 Nm9 amx9 bmx9))
  k_with "call ref" => ((k_here; (with_reducible show wpAny _ _ (call (Value.ref 150) _) _ _ _); ktn_end (law_figure_meets w _ _)))
  k_with "call ref" => ((k_here; (with_reducible show wpAny _ _ (call (Value.ref 157) _) _ _ _); (have hin9 := figs_in bmn9 bmx9 (by with_reducible assumption) (by with_reducible assumption)); ktn_call (law_worth_meets w _ ys _ _ _ _ hys (figs_len hlen) (base_in _).1 (base_in _).2 (figs_36 hin9 (base_in _).2)) (by k_mem); (rename _ ∧ IntIs _ _ => O9); (k_dflt (obtain ⟨rfl, ⟨t9⟩⟩ := O9)); (rename News _ _ _ _ => N9); (simp only [List.nil_append] at N9); (try k_sweep)))
  k_with "call ref" => ((k_here; (with_reducible show wpAny _ _ (call (Value.ref 66) _) _ _ _); ktn_end (digits_value_meets w _ _ _ _ (base_in _).1 (base_in _).2); (rename OptIs _ _ => O9); first | ((rw [value_in hpos hin9] at O9); (cases O9)) | ((rw [value_lo amn9 (by with_reducible assumption)] at O9); (cases O9)) | ((rw [value_hi amx9 (by with_reducible assumption)] at O9); (cases O9))))
  k_with "pyIter ref" => (refine' stop_ ?_)
  refine For_invVF F (by exact rfl) (by exact rfl) ?_ (by intro _; rfl) hE
  k_steps
  k_with_none
  k_with "call ref" => ((k_here; (with_reducible show wpAny _ _ (call (Value.ref 136) _) _ _ _); ktn_call (number_meets w l vs zs hi hz _ _) hl; (rename _ ∧ SomeInt _ => O9); (k_dflt (obtain ⟨rfl, n9, t9, rfl⟩ := O9)); (rename News _ _ _ _ => N9); (simp only [List.nil_append] at N9); (try k_sweep)))
  k_with "call ref" => ((k_here; (with_reducible show wpAny _ _ (call (Value.ref 164) _) _ _ _); ktn_end (law_whole_meets w _ _ (by with_reducible assumption)); (rename OptIs _ _ => O9); (rw [whole_same] at O9); rcases OptIs.split O9 with ⟨oe9, hr9⟩ | ⟨v9, t9, oe9, hr9⟩ <;> (subst hr9; clear O9)))
  k_with "call ref" => ((k_here; (with_reducible show wpAny _ _ (call (Value.ref 80) _) _ _ _); ktn_end (whole_of_meets w _ _ (by with_reducible assumption)); (rename OptIs _ _ => O9); (rw [oe9] at O9); (cases O9)))
  k_with "call ref" => ((k_here; (with_reducible show wpAny _ _ (call (Value.ref 211) _) _ _ _); (first   | ktn_end (same_none w) | ktn_end (same_int w _ _ _) | ktn_end (same_bool w _)); (rename BoolIs _ _ => O9); (cases O9)))
  k_with "noteFrame ref" => ((k_here; (k_dflt (refine caught_D (by k_asm) (by exact F9) (by exact U9) (by exact R9) (by k_asm) (by k_asm) (by k_is) (by k_is) ?_; k_whole)); (clear F9 U9 R9); intro hc9 tkc9 wsc9 slc9 Fc9 Nc9; (try simp only [List.cons_append, List.nil_append] at Nc9); (try k_sweep)))
  k_with "getAttr ref" => ((k_here; k_dflt (refine get_excF (by k_asm) (by k_asm) (by k_asm) (by k_mem) (by k_mem) (by k_is) (by k_is) (by k_is) (by rfl) (by k_is) (by k_is) (by k_is) (by with_reducible assumption) (by k_handed) ?_; k_whole)))
  k_with "execs nil" => ((k_here; refine wpAny_execs_nil ?_))
  k_with "exec Assign cons ListComp" => ((k_here; k_dflt (refine Assign_ListComp_S (F₀ := by k_asm) (by rfl) (by with_unfolding_all rfl) (by with_unfolding_all rfl) (by decide) (by rfl) (by decide) (by rfl) (by rfl) (by rfl) ?_)))
  k_with "call builtin:min" => ((k_here; k_dflt (refine kso_min (by k_asm) (by k_asm) (by exact News.isList (by k_asm) (by k_mem)) hys (figs_pos hpos) rfl ?_); intro hm9 mn9 tm9 km9 Fm9 Nm9 amn9 bmn9))
  k_with "call builtin:max" => ((k_here; k_dflt (refine kso_max (by k_asm) (by k_asm) (by exact News.isList (by k_asm) (by k_mem)) hys (figs_pos hpos) rfl ?_); intro hm9 mx9 tm9 km9 Fm9 Nm9 amx9 bmx9))
  k_with "call ref" => ((k_here; (with_reducible show wpAny _ _ (call (Value.ref 150) _) _ _ _); ktn_end (law_figure_meets w _ _)))
  k_with "call ref" => ((k_here; (with_reducible show wpAny _ _ (call (Value.ref 157) _) _ _ _); (have hin9 := figs_in bmn9 bmx9 (by with_reducible assumption) (by with_reducible assumption)); ktn_call (law_worth_meets w _ ys _ _ _ _ hys (figs_len hlen) (base_in _).1 (base_in _).2 (figs_36 hin9 (base_in _).2)) (by k_mem); (rename _ ∧ IntIs _ _ => O9); (k_dflt (obtain ⟨rfl, ⟨t9⟩⟩ := O9)); (rename News _ _ _ _ => N9); (simp only [List.nil_append] at N9); (try k_sweep)))
  k_with "call ref" => ((k_here; (with_reducible show wpAny _ _ (call (Value.ref 66) _) _ _ _); ktn_end (digits_value_meets w _ _ _ _ (base_in _).1 (base_in _).2); (rename OptIs _ _ => O9); first | ((rw [value_in hpos hin9] at O9); (cases O9)) | ((rw [value_lo amn9 (by with_reducible assumption)] at O9); (cases O9)) | ((rw [value_hi amx9 (by with_reducible assumption)] at O9); (cases O9))))
  unfold Stop
  rename Fr _ _ _ _ => lF
  rename News _ _ _ _ => lN
  rename IsRange _ _ _ _ _ _ _ _ => lR
  refine range_loop (n := 8) (fun i m => Keeps [(Str.ofString "script", .ref l)] m) rfl lR (by decide) (by decide) lF lN (Keeps.of (by kst_all)) ?_ ?_
  · rintro i ti m₁ h tk own hi' ⟨u1, rfl⟩ F9 N9
    dsimp only [kstB] at F9
    simp only [List.nil_append] at N9
    clear lF lN lR hret
    k_steps
    refine src_text rfl (by k_asm) (by k_asm) (by omega) (fun g9 => ?_)
    refine sg_rest digitC ?_ ?_
    · intro c t I oI C oC D m2 ys h tk E' hC hx Fc Nc off ne
      k_steps
      exact LCg.CompEnd.intro (by with_reducible assumption) (by with_reducible assumption) _ (fun _ h => h) off trivial ⟨rfl, by with_reducible assumption⟩
    intro ys hys
    obtain ⟨hpos, hlen⟩ := two_of hys
    k_steps
    all_goals first
      | exact rg_end (.inl rfl) (by k_asm) (by k_asm) (by kcj_all) (Keeps.of (by kst_all))
  · rintro m₁ h tk ⟨u1, rfl⟩ F9 N9
    exact hret _ _ _ F9 N9 ⟨_, rfl⟩
end
end
section
theorem wordsB_ok {x : Str} (h : WordText x) : PyData.strOk (wordsB x) = true := strOk_app (strOk_app (by decide +kernel) (word_ok h)) (by decide +kernel)
section
theorem loop3 (w : World) : LoopMeets w 2 := by
  w_top off
  k_with_none
  k_with "call ref" => ((k_here; (with_reducible show wpAny _ _ (call (Value.ref 136) _) _ _ _); ktn_call (number_meets w l vs zs hi hz _ _) hl; (rename _ ∧ SomeInt _ => O9); (k_dflt (obtain ⟨rfl, n9, t9, rfl⟩ := O9)); (rename News _ _ _ _ => N9); (simp only [List.nil_append] at N9); (try k_sweep)))
  k_with "call ref" => ((k_here; (with_reducible show wpAny _ _ (call (Value.ref 164) _) _ _ _); ktn_end (law_whole_meets w _ _ (by with_reducible assumption)); (rename OptIs _ _ => O9); (rw [whole_same] at O9); rcases OptIs.split O9 with ⟨oe9, hr9⟩ | ⟨v9, t9, oe9, hr9⟩ <;> (subst hr9; clear O9)))
  k_with "call ref" => ((k_here; (with_reducible show wpAny _ _ (call (Value.ref 80) _) _ _ _); ktn_end (whole_of_meets w _ _ (by with_reducible assumption)); (rename OptIs _ _ => O9); (rw [oe9] at O9); (cases O9)))
  k_with "call ref" => ((k_here; (with_reducible show wpAny _ _ (call (Value.ref 211) _) _ _ _); (first   | ktn_end (same_none w) | ktn_end (same_int w _ _ _) | ktn_end (same_bool w _)); (rename BoolIs _ _ => O9); (cases O9)))
  k_with "noteFrame ref" => ((k_here; (k_dflt (refine caught_D (by k_asm) (by exact F9) (by exact U9) (by exact R9) (by k_asm) (by k_asm) (by k_is) (by k_is) ?_; k_whole)); (clear F9 U9 R9); intro hc9 tkc9 wsc9 slc9 Fc9 Nc9; (try simp only [List.cons_append, List.nil_append] at Nc9); (try k_sweep)))
  k_with "getAttr ref" => ((k_here; k_dflt (refine get_excF (by k_asm) (by k_asm) (by k_asm) (by k_mem) (by k_mem) (by k_is) (by k_is) (by k_is) (by rfl) (by k_is) (by k_is) (by k_is) (by with_reducible assumption) (by k_handed) ?_; k_whole)))
  k_with "call ref" => ((k_here; (with_reducible show wpAny _ _ (call (Value.ref 171) _) _ _ _); ktn_end (word_meets w _ _ _ _ (by omega) (by omega)); (rename StrIs _ _ => O9); (k_dflt (obtain ⟨x9, t9, p9⟩ := O9)); (have hx9 := word_len p9)))
  k_with "call ref" => ((k_here; (with_reducible show wpAny _ _ (call (Value.ref 178) _) _ _ _); ktn_end (truth_meets w _ _ (by with_reducible assumption)); (rename OptBIs _ _ => O9); (rw [← bool_same p9] at O9); rcases OptBIs.split O9 with ⟨oe9, hr9⟩ | ⟨v9, oe9, hr9⟩ <;> (subst hr9; clear O9)))
  k_with "call ref" => ((k_here; (with_reducible show wpAny _ _ (call (Value.ref 94) _) _ _ _); ktn_end (bool_of_meets w _ _ (by with_reducible assumption)); (rename OptBIs _ _ => O9); (rw [oe9] at O9); (cases O9)))
  k_with "call ref" => ((k_here; (with_reducible show wpAny _ _ (call (Value.ref 199) _) _ _ _); ktn_call (refusalB_meets w _ _ _ (by with_reducible assumption)) trivial; (rename Told _ _ _ _ => O9); (k_dflt (obtain ⟨a9, et9, k9, t90, t91, t92, t93, rfl, rfl⟩ := O9)); (rename News _ _ _ _ => N9); (simp only [List.cons_append, List.nil_append] at N9); (try k_sweep)))
  k_with "call ref" => ((k_here; (with_reducible show wpAny _ _ (call (Value.ref 211) [Value.ref _, Value.ref _]) _ _ _); ktn_call (same_told w _ "BOOLEAN" _ _ _ _ _ _ _ _ _ _ _ _ _ _ (wordsB_ok p9) (by decide +kernel)) ⟨by k_mem, by k_mem, by k_mem, by k_mem⟩; (rename _ ∧ BoolIs _ _ => O9); (k_dflt (obtain ⟨rfl, ⟨⟩⟩ := O9)); (rename News _ _ _ _ => N9); (simp only [List.nil_append] at N9); (try k_sweep)))
  k_with "call ref" => ((k_here; (with_reducible show wpAny _ _ (call (Value.ref 101) _) _ _ _); ktr_call (need_bool_meets w _ _ (by with_reducible assumption)) 0; rotate_left; (intro e9 d9 tl9 g9 h9 tk9 R9 F9 U9 O9); (k_dflt (obtain ⟨on9, es9, n9, k9, t90, t91, t92, t93, et9, rfl, c91, c92, c93⟩ := O9)); (rw [oe9] at on9); (try exact no_some on9); rotate_right; (intro r9 tl9 h9 tk9 F9 N9 O9); (k_dflt (obtain ⟨rfl, v99, hv9, ⟨⟩⟩ := O9)); (rw [oe9] at hv9); first | exact no_none hv9 | ((have hv9' := Option.some.inj hv9); (subst hv9'); (simp only [List.nil_append] at N9); (try k_sweep))))
  unfold LoopMeets
  (obtain ⟨S, hS⟩ : ∃ S, S = lawParts.2 := ⟨_, rfl⟩)
  unfold lawEnv
  rw [← hS]
  (conv at hS => rhs; whnf)
  dsimp only at hS
  subst hS
  rintro prog mean mg mb fa cd h₀ L m s Q E l vs zs B F X N T ⟨u, rfl⟩ hl hi hz hE hret
  dsimp only [kstB] at F
  (conv => arg 3; arg 1; whnf)
  k_with_none
  k_with "call ref" => ((k_here; (with_reducible show wpAny _ _ (call (Value.ref 136) _) _ _ _); ktn_call (number_meets w l vs zs hi hz _ _) hl; (rename _ ∧ SomeInt _ => O9); (k_dflt (obtain ⟨rfl, n9, t9, rfl⟩ := O9)); (rename News _ _ _ _ => N9); (simp only [List.nil_append] at N9); (try k_sweep)))
  k_with "call ref" => ((k_here; (with_reducible show wpAny _ _ (call (Value.ref 164) _) _ _ _); ktn_end (law_whole_meets w _ _ (by with_reducible assumption)); (rename OptIs _ _ => O9); (rw [whole_same] at O9); rcases OptIs.split O9 with ⟨oe9, hr9⟩ | ⟨v9, t9, oe9, hr9⟩ <;> (subst hr9; clear O9)))
  k_with "call ref" => ((k_here; (with_reducible show wpAny _ _ (call (Value.ref 80) _) _ _ _); ktn_end (whole_of_meets w _ _ (by with_reducible assumption)); (rename OptIs _ _ => O9); (rw [oe9] at O9); (cases O9)))
  k_with "call ref" => ((k_here; (with_reducible show wpAny _ _ (call (Value.ref 211) _) _ _ _); (first   | ktn_end (same_none w) | ktn_end (same_int w _ _ _) | ktn_end (same_bool w _)); (rename BoolIs _ _ => O9); (cases O9)))
  k_with "noteFrame ref" => ((k_here; (k_dflt (refine caught_D (by k_asm) (by exact F9) (by exact U9) (by exact R9) (by k_asm) (by k_asm) (by k_is) (by k_is) ?_; k_whole)); (clear F9 U9 R9); intro hc9 tkc9 wsc9 slc9 Fc9 Nc9; (try simp only [List.cons_append, List.nil_append] at Nc9); (try k_sweep)))
  k_with "getAttr ref" => ((k_here; k_dflt (refine get_excF (by k_asm) (by k_asm) (by k_asm) (by k_mem) (by k_mem) (by k_is) (by k_is) (by k_is) (by rfl) (by k_is) (by k_is) (by k_is) (by with_reducible assumption) (by k_handed) ?_; k_whole)))
  k_with "call ref" => ((k_here; (with_reducible show wpAny _ _ (call (Value.ref 171) _) _ _ _); ktn_end (word_meets w _ _ _ _ (by omega) (by omega)); (rename StrIs _ _ => O9); (k_dflt (obtain ⟨x9, t9, p9⟩ := O9)); (have hx9 := word_len p9)))
  k_with "call ref" => ((k_here; (with_reducible show wpAny _ _ (call (Value.ref 178) _) _ _ _); ktn_end (truth_meets w _ _ (by with_reducible assumption)); (rename OptBIs _ _ => O9); (rw [← bool_same p9] at O9); rcases OptBIs.split O9 with ⟨oe9, hr9⟩ | ⟨v9, oe9, hr9⟩ <;> (subst hr9; clear O9)))
  k_with "call ref" => ((k_here; (with_reducible show wpAny _ _ (call (Value.ref 94) _) _ _ _); ktn_end (bool_of_meets w _ _ (by with_reducible assumption)); (rename OptBIs _ _ => O9); (rw [oe9] at O9); (cases O9)))
  k_with "call ref" => ((k_here; (with_reducible show wpAny _ _ (call (Value.ref 199) _) _ _ _); ktn_call (refusalB_meets w _ _ _ (by with_reducible assumption)) trivial; (rename Told _ _ _ _ => O9); (k_dflt (obtain ⟨a9, et9, k9, t90, t91, t92, t93, rfl, rfl⟩ := O9)); (rename News _ _ _ _ => N9); (simp only [List.cons_append, List.nil_append] at N9); (try k_sweep)))
  k_with "call ref" => ((k_here; (with_reducible show wpAny _ _ (call (Value.ref 211) [Value.ref _, Value.ref _]) _ _ _); ktn_call (same_told w _ "BOOLEAN" _ _ _ _ _ _ _ _ _ _ _ _ _ _ (wordsB_ok p9) (by decide +kernel)) ⟨by k_mem, by k_mem, by k_mem, by k_mem⟩; (rename _ ∧ BoolIs _ _ => O9); (k_dflt (obtain ⟨rfl, ⟨⟩⟩ := O9)); (rename News _ _ _ _ => N9); (simp only [List.nil_append] at N9); (try k_sweep)))
  k_with "call ref" => ((k_here; (with_reducible show wpAny _ _ (call (Value.ref 101) _) _ _ _); ktr_call (need_bool_meets w _ _ (by with_reducible assumption)) 0; rotate_left; (intro e9 d9 tl9 g9 h9 tk9 R9 F9 U9 O9); (k_dflt (obtain ⟨on9, es9, n9, k9, t90, t91, t92, t93, et9, rfl, c91, c92, c93⟩ := O9)); (rw [oe9] at on9); (try exact no_some on9); rotate_right; (intro r9 tl9 h9 tk9 F9 N9 O9); (k_dflt (obtain ⟨rfl, v99, hv9, ⟨⟩⟩ := O9)); (rw [oe9] at hv9); first | exact no_none hv9 | ((have hv9' := Option.some.inj hv9); (subst hv9'); (simp only [List.nil_append] at N9); (try k_sweep))))
  k_with "pyIter ref" => (refine' stop_ ?_)
  refine For_invVF F (by exact rfl) (by exact rfl) ?_ (by intro _; rfl) hE
  k_steps
  k_with_none
  k_with "call ref" => ((k_here; (with_reducible show wpAny _ _ (call (Value.ref 136) _) _ _ _); ktn_call (number_meets w l vs zs hi hz _ _) hl; (rename _ ∧ SomeInt _ => O9); (k_dflt (obtain ⟨rfl, n9, t9, rfl⟩ := O9)); (rename News _ _ _ _ => N9); (simp only [List.nil_append] at N9); (try k_sweep)))
  k_with "call ref" => ((k_here; (with_reducible show wpAny _ _ (call (Value.ref 164) _) _ _ _); ktn_end (law_whole_meets w _ _ (by with_reducible assumption)); (rename OptIs _ _ => O9); (rw [whole_same] at O9); rcases OptIs.split O9 with ⟨oe9, hr9⟩ | ⟨v9, t9, oe9, hr9⟩ <;> (subst hr9; clear O9)))
  k_with "call ref" => ((k_here; (with_reducible show wpAny _ _ (call (Value.ref 80) _) _ _ _); ktn_end (whole_of_meets w _ _ (by with_reducible assumption)); (rename OptIs _ _ => O9); (rw [oe9] at O9); (cases O9)))
  k_with "call ref" => ((k_here; (with_reducible show wpAny _ _ (call (Value.ref 211) _) _ _ _); (first   | ktn_end (same_none w) | ktn_end (same_int w _ _ _) | ktn_end (same_bool w _)); (rename BoolIs _ _ => O9); (cases O9)))
  k_with "noteFrame ref" => ((k_here; (k_dflt (refine caught_D (by k_asm) (by exact F9) (by exact U9) (by exact R9) (by k_asm) (by k_asm) (by k_is) (by k_is) ?_; k_whole)); (clear F9 U9 R9); intro hc9 tkc9 wsc9 slc9 Fc9 Nc9; (try simp only [List.cons_append, List.nil_append] at Nc9); (try k_sweep)))
  k_with "getAttr ref" => ((k_here; k_dflt (refine get_excF (by k_asm) (by k_asm) (by k_asm) (by k_mem) (by k_mem) (by k_is) (by k_is) (by k_is) (by rfl) (by k_is) (by k_is) (by k_is) (by with_reducible assumption) (by k_handed) ?_; k_whole)))
  k_with "call ref" => ((k_here; (with_reducible show wpAny _ _ (call (Value.ref 171) _) _ _ _); ktn_end (word_meets w _ _ _ _ (by omega) (by omega)); (rename StrIs _ _ => O9); (k_dflt (obtain ⟨x9, t9, p9⟩ := O9)); (have hx9 := word_len p9)))
  k_with "call ref" => ((k_here; (with_reducible show wpAny _ _ (call (Value.ref 178) _) _ _ _); ktn_end (truth_meets w _ _ (by with_reducible assumption)); (rename OptBIs _ _ => O9); (rw [← bool_same p9] at O9); rcases OptBIs.split O9 with ⟨oe9, hr9⟩ | ⟨v9, oe9, hr9⟩ <;> (subst hr9; clear O9)))
  k_with "call ref" => ((k_here; (with_reducible show wpAny _ _ (call (Value.ref 94) _) _ _ _); ktn_end (bool_of_meets w _ _ (by with_reducible assumption)); (rename OptBIs _ _ => O9); (rw [oe9] at O9); (cases O9)))
  k_with "call ref" => ((k_here; (with_reducible show wpAny _ _ (call (Value.ref 199) _) _ _ _); ktn_call (refusalB_meets w _ _ _ (by with_reducible assumption)) trivial; (rename Told _ _ _ _ => O9); (k_dflt (obtain ⟨a9, et9, k9, t90, t91, t92, t93, rfl, rfl⟩ := O9)); (rename News _ _ _ _ => N9); (simp only [List.cons_append, List.nil_append] at N9); (try k_sweep)))
  k_with "call ref" => ((k_here; (with_reducible show wpAny _ _ (call (Value.ref 211) [Value.ref _, Value.ref _]) _ _ _); ktn_call (same_told w _ "BOOLEAN" _ _ _ _ _ _ _ _ _ _ _ _ _ _ (wordsB_ok p9) (by decide +kernel)) ⟨by k_mem, by k_mem, by k_mem, by k_mem⟩; (rename _ ∧ BoolIs _ _ => O9); (k_dflt (obtain ⟨rfl, ⟨⟩⟩ := O9)); (rename News _ _ _ _ => N9); (simp only [List.nil_append] at N9); (try k_sweep)))
  k_with "call ref" => ((k_here; (with_reducible show wpAny _ _ (call (Value.ref 101) _) _ _ _); ktr_call (need_bool_meets w _ _ (by with_reducible assumption)) 0; rotate_left; (intro e9 d9 tl9 g9 h9 tk9 R9 F9 U9 O9); (k_dflt (obtain ⟨on9, es9, n9, k9, t90, t91, t92, t93, et9, rfl, c91, c92, c93⟩ := O9)); (rw [oe9] at on9); (try exact no_some on9); rotate_right; (intro r9 tl9 h9 tk9 F9 N9 O9); (k_dflt (obtain ⟨rfl, v99, hv9, ⟨⟩⟩ := O9)); (rw [oe9] at hv9); first | exact no_none hv9 | ((have hv9' := Option.some.inj hv9); (subst hv9'); (simp only [List.nil_append] at N9); (try k_sweep))))
  unfold Stop
  rename Fr _ _ _ _ => lF
  rename News _ _ _ _ => lN
  rename IsRange _ _ _ _ _ _ _ _ => lR
  refine range_loop (n := 14) (fun i m => Keeps [(Str.ofString "script", .ref l)] m) rfl lR (by decide) (by decide) lF lN (Keeps.of (by kst_all)) ?_ ?_
  · rintro i ti m₁ h tk own hi' ⟨u1, rfl⟩ F9 N9
    dsimp only [kstB] at F9
    simp only [List.nil_append] at N9
    clear lF lN lR hret
    k_steps
    all_goals first
      | exact rg_end (.inl rfl) (by k_asm) (by k_asm) (by kcj_all) (Keeps.of (by kst_all))
  · rintro m₁ h tk ⟨u1, rfl⟩ F9 N9
    exact hret _ _ _ F9 N9 ⟨_, rfl⟩
end
end
section
theorem ixA {P : Prop} {x : Str} {last : Int} {p : Sum2} (h : indexS x = some p) (h' : (indexS x).map (evalS last) = none) : P := by rw [h] at h'; cases h'
theorem ixB {x : Str} {last v : Int} {p : Sum2} (h : indexS x = some p) (h' : (indexS x).map (evalS last) = some v) : evalS last p = v := by rw [h] at h'; exact Option.some.inj h'
theorem ixC {P : Prop} {x : Str} {last v : Int} (h : indexS x = none) (h' : (indexS x).map (evalS last) = some v) : P := by rw [h] at h'; cases h'
theorem idx_len' {x : Str} (h : IdxText x) : x.length ≤ 100 := by have := idx_len h; omega
theorem wordsI_ok {x : Str} (h : IdxText x) : PyData.strOk (wordsI x) = true := strOk_app (strOk_app (by decide +kernel) (idx_ok h)) (by decide +kernel)
section
theorem loop4 (w : World) : LoopMeets w 3 := by
  w_top off
  k_with_none
  k_with "call ref" => ((k_here; (with_reducible show wpAny _ _ (call (Value.ref 136) _) _ _ _); ktn_call (number_meets w l vs zs hi hz _ _) hl; (rename _ ∧ SomeInt _ => O9); (k_dflt (obtain ⟨rfl, n9, t9, rfl⟩ := O9)); (rename News _ _ _ _ => N9); (simp only [List.nil_append] at N9); (try k_sweep)))
  k_with "call ref" => ((k_here; (with_reducible show wpAny _ _ (call (Value.ref 164) _) _ _ _); ktn_end (law_whole_meets w _ _ (by with_reducible assumption)); (rename OptIs _ _ => O9); (rw [whole_same] at O9); rcases OptIs.split O9 with ⟨oe9, hr9⟩ | ⟨v9, t9, oe9, hr9⟩ <;> (subst hr9; clear O9)))
  k_with "call ref" => ((k_here; (with_reducible show wpAny _ _ (call (Value.ref 80) _) _ _ _); ktn_end (whole_of_meets w _ _ (by with_reducible assumption)); (rename OptIs _ _ => O9); (rw [oe9] at O9); (cases O9)))
  k_with "call ref" => ((k_here; (with_reducible show wpAny _ _ (call (Value.ref 211) _) _ _ _); (first   | ktn_end (same_none w) | ktn_end (same_int w _ _ _) | ktn_end (same_bool w _)); (rename BoolIs _ _ => O9); (cases O9)))
  k_with "noteFrame ref" => ((k_here; (k_dflt (refine caught_D (by k_asm) (by exact F9) (by exact U9) (by exact R9) (by k_asm) (by k_asm) (by k_is) (by k_is) ?_; k_whole)); (clear F9 U9 R9); intro hc9 tkc9 wsc9 slc9 Fc9 Nc9; (try simp only [List.cons_append, List.nil_append] at Nc9); (try k_sweep)))
  k_with "getAttr ref" => ((k_here; k_dflt (refine get_excF (by k_asm) (by k_asm) (by k_asm) (by k_mem) (by k_mem) (by k_is) (by k_is) (by k_is) (by rfl) (by k_is) (by k_is) (by k_is) (by with_reducible assumption) (by k_handed) ?_; k_whole)))
  k_with "call ref" => ((k_here; (with_reducible show wpAny _ _ (call (Value.ref 185) _) _ _ _); ktn_end (index_text_meets w _ _ _ _ (by omega) (by omega)); (rename StrIs _ _ => O9); (k_dflt (obtain ⟨x9, t9, p9⟩ := O9)); (have hx9 := idx_len' p9)))
  k_with "call ref" => ((k_here; (with_reducible show wpAny _ _ (call (Value.ref 192) _) _ _ _); ktn_end (law_index_meets w _ _ _ _ (by with_reducible assumption)); (rename OptIs _ _ => O9); (rw [← index_same p9] at O9); rcases OptIs.split O9 with ⟨oe9, hr9⟩ | ⟨v9, t9, oe9, hr9⟩ <;> (subst hr9; clear O9)))
  k_with "call ref" => ((k_here; (with_reducible show wpAny _ _ (call (Value.ref 199) _) _ _ _); ktn_call (refusalI_meets w _ _ _ (by with_reducible assumption)) trivial; (rename Told _ _ _ _ => O9); (k_dflt (obtain ⟨a9, et9, k9, t90, t91, t92, t93, rfl, rfl⟩ := O9)); (rename News _ _ _ _ => N9); (simp only [List.cons_append, List.nil_append] at N9); (try k_sweep)))
  k_with "call ref" => ((k_here; (with_reducible show wpAny _ _ (call (Value.ref 211) [Value.ref _, Value.ref _]) _ _ _); ktn_call (same_told w _ "INDEX" _ _ _ _ _ _ _ _ _ _ _ _ _ _ (wordsI_ok p9) (by decide +kernel)) ⟨by k_mem, by k_mem, by k_mem, by k_mem⟩; (rename _ ∧ BoolIs _ _ => O9); (k_dflt (obtain ⟨rfl, ⟨⟩⟩ := O9)); (rename News _ _ _ _ => N9); (simp only [List.nil_append] at N9); (try k_sweep)))
  k_with "call ref" => ((k_here; (with_reducible show wpAny _ _ (call (Value.ref 115) _) _ _ _); ktr_call (index_of_meets w _ _ _ _ (by with_reducible assumption)) 0; rotate_left; (intro e9 d9 tl9 g9 h9 tk9 R9 F9 U9 O9); (k_dflt (obtain ⟨on9, es9, n9, k9, t90, t91, t92, t93, et9, rfl, c91, c92, c93⟩ := O9)); (try ((with_reducible rename Option.map _ _ = some _ => oeS); exact ixC on9 oeS)); rotate_right; (intro r9 tl9 h9 tk9 F9 N9 O9); (k_dflt (obtain ⟨rfl, p99, hv9, ⟨t99⟩⟩ := O9)); first | ((with_reducible rename Option.map _ _ = none => oeN); exact ixA hv9 oeN) | ((with_reducible rename Option.map _ _ = some _ => oeS); (have hv9' := ixB hv9 oeS); (rw [hv9']); (simp only [List.nil_append] at N9); (try k_sweep))))
  unfold LoopMeets
  (obtain ⟨S, hS⟩ : ∃ S, S = lawParts.2 := ⟨_, rfl⟩)
  unfold lawEnv
  rw [← hS]
  (conv at hS => rhs; whnf)
  dsimp only at hS
  subst hS
  rintro prog mean mg mb fa cd h₀ L m s Q E l vs zs B F X N T ⟨u, rfl⟩ hl hi hz hE hret
  dsimp only [kstB] at F
  (conv => arg 3; arg 1; whnf)
  k_with_none
  k_with "call ref" => ((k_here; (with_reducible show wpAny _ _ (call (Value.ref 136) _) _ _ _); ktn_call (number_meets w l vs zs hi hz _ _) hl; (rename _ ∧ SomeInt _ => O9); (k_dflt (obtain ⟨rfl, n9, t9, rfl⟩ := O9)); (rename News _ _ _ _ => N9); (simp only [List.nil_append] at N9); (try k_sweep)))
  k_with "call ref" => ((k_here; (with_reducible show wpAny _ _ (call (Value.ref 164) _) _ _ _); ktn_end (law_whole_meets w _ _ (by with_reducible assumption)); (rename OptIs _ _ => O9); (rw [whole_same] at O9); rcases OptIs.split O9 with ⟨oe9, hr9⟩ | ⟨v9, t9, oe9, hr9⟩ <;> (subst hr9; clear O9)))
  k_with "call ref" => ((k_here; (with_reducible show wpAny _ _ (call (Value.ref 80) _) _ _ _); ktn_end (whole_of_meets w _ _ (by with_reducible assumption)); (rename OptIs _ _ => O9); (rw [oe9] at O9); (cases O9)))
  k_with "call ref" => ((k_here; (with_reducible show wpAny _ _ (call (Value.ref 211) _) _ _ _); (first   | ktn_end (same_none w) | ktn_end (same_int w _ _ _) | ktn_end (same_bool w _)); (rename BoolIs _ _ => O9); (cases O9)))
  k_with "noteFrame ref" => ((k_here; (k_dflt (refine caught_D (by k_asm) (by exact F9) (by exact U9) (by exact R9) (by k_asm) (by k_asm) (by k_is) (by k_is) ?_; k_whole)); (clear F9 U9 R9); intro hc9 tkc9 wsc9 slc9 Fc9 Nc9; (try simp only [List.cons_append, List.nil_append] at Nc9); (try k_sweep)))
  k_with "getAttr ref" => ((k_here; k_dflt (refine get_excF (by k_asm) (by k_asm) (by k_asm) (by k_mem) (by k_mem) (by k_is) (by k_is) (by k_is) (by rfl) (by k_is) (by k_is) (by k_is) (by with_reducible assumption) (by k_handed) ?_; k_whole)))
  k_with "call ref" => ((k_here; (with_reducible show wpAny _ _ (call (Value.ref 185) _) _ _ _); ktn_end (index_text_meets w _ _ _ _ (by omega) (by omega)); (rename StrIs _ _ => O9); (k_dflt (obtain ⟨x9, t9, p9⟩ := O9)); (have hx9 := idx_len' p9)))
  k_with "call ref" => ((k_here; (with_reducible show wpAny _ _ (call (Value.ref 192) _) _ _ _); ktn_end (law_index_meets w _ _ _ _ (by with_reducible assumption)); (rename OptIs _ _ => O9); (rw [← index_same p9] at O9); rcases OptIs.split O9 with ⟨oe9, hr9⟩ | ⟨v9, t9, oe9, hr9⟩ <;> (subst hr9; clear O9)))
  k_with "call ref" => ((k_here; (with_reducible show wpAny _ _ (call (Value.ref 199) _) _ _ _); ktn_call (refusalI_meets w _ _ _ (by with_reducible assumption)) trivial; (rename Told _ _ _ _ => O9); (k_dflt (obtain ⟨a9, et9, k9, t90, t91, t92, t93, rfl, rfl⟩ := O9)); (rename News _ _ _ _ => N9); (simp only [List.cons_append, List.nil_append] at N9); (try k_sweep)))
  k_with "call ref" => ((k_here; (with_reducible show wpAny _ _ (call (Value.ref 211) [Value.ref _, Value.ref _]) _ _ _); ktn_call (same_told w _ "INDEX" _ _ _ _ _ _ _ _ _ _ _ _ _ _ (wordsI_ok p9) (by decide +kernel)) ⟨by k_mem, by k_mem, by k_mem, by k_mem⟩; (rename _ ∧ BoolIs _ _ => O9); (k_dflt (obtain ⟨rfl, ⟨⟩⟩ := O9)); (rename News _ _ _ _ => N9); (simp only [List.nil_append] at N9); (try k_sweep)))
  k_with "call ref" => ((k_here; (with_reducible show wpAny _ _ (call (Value.ref 115) _) _ _ _); ktr_call (index_of_meets w _ _ _ _ (by with_reducible assumption)) 0; rotate_left; (intro e9 d9 tl9 g9 h9 tk9 R9 F9 U9 O9); (k_dflt (obtain ⟨on9, es9, n9, k9, t90, t91, t92, t93, et9, rfl, c91, c92, c93⟩ := O9)); (try ((with_reducible rename Option.map _ _ = some _ => oeS); exact ixC on9 oeS)); rotate_right; (intro r9 tl9 h9 tk9 F9 N9 O9); (k_dflt (obtain ⟨rfl, p99, hv9, ⟨t99⟩⟩ := O9)); first | ((with_reducible rename Option.map _ _ = none => oeN); exact ixA hv9 oeN) | ((with_reducible rename Option.map _ _ = some _ => oeS); (have hv9' := ixB hv9 oeS); (rw [hv9']); (simp only [List.nil_append] at N9); (try k_sweep))))
  k_with "pyIter ref" => (refine' stop_ ?_)
  refine For_invVF F (by exact rfl) (by exact rfl) ?_ (by intro _; rfl) hE
  k_steps
  k_with_none
  k_with "call ref" => ((k_here; (with_reducible show wpAny _ _ (call (Value.ref 136) _) _ _ _); ktn_call (number_meets w l vs zs hi hz _ _) hl; (rename _ ∧ SomeInt _ => O9); (k_dflt (obtain ⟨rfl, n9, t9, rfl⟩ := O9)); (rename News _ _ _ _ => N9); (simp only [List.nil_append] at N9); (try k_sweep)))
  k_with "call ref" => ((k_here; (with_reducible show wpAny _ _ (call (Value.ref 164) _) _ _ _); ktn_end (law_whole_meets w _ _ (by with_reducible assumption)); (rename OptIs _ _ => O9); (rw [whole_same] at O9); rcases OptIs.split O9 with ⟨oe9, hr9⟩ | ⟨v9, t9, oe9, hr9⟩ <;> (subst hr9; clear O9)))
  k_with "call ref" => ((k_here; (with_reducible show wpAny _ _ (call (Value.ref 80) _) _ _ _); ktn_end (whole_of_meets w _ _ (by with_reducible assumption)); (rename OptIs _ _ => O9); (rw [oe9] at O9); (cases O9)))
  k_with "call ref" => ((k_here; (with_reducible show wpAny _ _ (call (Value.ref 211) _) _ _ _); (first   | ktn_end (same_none w) | ktn_end (same_int w _ _ _) | ktn_end (same_bool w _)); (rename BoolIs _ _ => O9); (cases O9)))
  k_with "noteFrame ref" => ((k_here; (k_dflt (refine caught_D (by k_asm) (by exact F9) (by exact U9) (by exact R9) (by k_asm) (by k_asm) (by k_is) (by k_is) ?_; k_whole)); (clear F9 U9 R9); intro hc9 tkc9 wsc9 slc9 Fc9 Nc9; (try simp only [List.cons_append, List.nil_append] at Nc9); (try k_sweep)))
  k_with "getAttr ref" => ((k_here; k_dflt (refine get_excF (by k_asm) (by k_asm) (by k_asm) (by k_mem) (by k_mem) (by k_is) (by k_is) (by k_is) (by rfl) (by k_is) (by k_is) (by k_is) (by with_reducible assumption) (by k_handed) ?_; k_whole)))
  k_with "call ref" => ((k_here; (with_reducible show wpAny _ _ (call (Value.ref 185) _) _ _ _); ktn_end (index_text_meets w _ _ _ _ (by omega) (by omega)); (rename StrIs _ _ => O9); (k_dflt (obtain ⟨x9, t9, p9⟩ := O9)); (have hx9 := idx_len' p9)))
  k_with "call ref" => ((k_here; (with_reducible show wpAny _ _ (call (Value.ref 192) _) _ _ _); ktn_end (law_index_meets w _ _ _ _ (by with_reducible assumption)); (rename OptIs _ _ => O9); (rw [← index_same p9] at O9); rcases OptIs.split O9 with ⟨oe9, hr9⟩ | ⟨v9, t9, oe9, hr9⟩ <;> (subst hr9; clear O9)))
  k_with "call ref" => ((k_here; (with_reducible show wpAny _ _ (call (Value.ref 199) _) _ _ _); ktn_call (refusalI_meets w _ _ _ (by with_reducible assumption)) trivial; (rename Told _ _ _ _ => O9); (k_dflt (obtain ⟨a9, et9, k9, t90, t91, t92, t93, rfl, rfl⟩ := O9)); (rename News _ _ _ _ => N9); (simp only [List.cons_append, List.nil_append] at N9); (try k_sweep)))
  k_with "call ref" => ((k_here; (with_reducible show wpAny _ _ (call (Value.ref 211) [Value.ref _, Value.ref _]) _ _ _); ktn_call (same_told w _ "INDEX" _ _ _ _ _ _ _ _ _ _ _ _ _ _ (wordsI_ok p9) (by decide +kernel)) ⟨by k_mem, by k_mem, by k_mem, by k_mem⟩; (rename _ ∧ BoolIs _ _ => O9); (k_dflt (obtain ⟨rfl, ⟨⟩⟩ := O9)); (rename News _ _ _ _ => N9); (simp only [List.nil_append] at N9); (try k_sweep)))
  k_with "call ref" => ((k_here; (with_reducible show wpAny _ _ (call (Value.ref 115) _) _ _ _); ktr_call (index_of_meets w _ _ _ _ (by with_reducible assumption)) 0; rotate_left; (intro e9 d9 tl9 g9 h9 tk9 R9 F9 U9 O9); (k_dflt (obtain ⟨on9, es9, n9, k9, t90, t91, t92, t93, et9, rfl, c91, c92, c93⟩ := O9)); (try ((with_reducible rename Option.map _ _ = some _ => oeS); exact ixC on9 oeS)); rotate_right; (intro r9 tl9 h9 tk9 F9 N9 O9); (k_dflt (obtain ⟨rfl, p99, hv9, ⟨t99⟩⟩ := O9)); first | ((with_reducible rename Option.map _ _ = none => oeN); exact ixA hv9 oeN) | ((with_reducible rename Option.map _ _ = some _ => oeS); (have hv9' := ixB hv9 oeS); (rw [hv9']); (simp only [List.nil_append] at N9); (try k_sweep))))
  unfold Stop
  rename Fr _ _ _ _ => lF
  rename News _ _ _ _ => lN
  rename IsRange _ _ _ _ _ _ _ _ => lR
  refine range_loop (n := 12) (fun i m => Keeps [(Str.ofString "script", .ref l)] m) rfl lR (by decide) (by decide) lF lN (Keeps.of (by kst_all)) ?_ ?_
  · rintro i ti m₁ h tk own hi' ⟨u1, rfl⟩ F9 N9
    dsimp only [kstB] at F9
    simp only [List.nil_append] at N9
    clear lF lN lR hret
    k_steps
    all_goals first
      | exact rg_end (.inl rfl) (by k_asm) (by k_asm) (by kcj_all) (Keeps.of (by kst_all))
  · rintro m₁ h tk ⟨u1, rfl⟩ F9 N9
    exact hret _ _ _ F9 N9 ⟨_, rfl⟩
end
end
section
theorem last_in (a : Int) : -1 ≤ a.fmod 9 - 1 ∧ a.fmod 9 - 1 ≤ 100 := by
  have h1 := Int.fmod_lt_of_pos a (show (0 : Int) < 9 by decide)
  have h2 := Int.fmod_nonneg_of_pos a (show (0 : Int) < 9 by decide)
  omega
theorem part_ret {x y : Str} {last : Int} {tl : List (Addr × Obj)} {r : Value} {p q : Sum2} (hx : IdxText x) (hy : IdxText y) (O : PartOut x y last tl r) (h1 : indexS x = some p) (h2 : indexS y = some q) : PairIs (evalS last p) (evalS last q) last tl r := by
  rw [index_same hx] at h1
  rw [index_same hy] at h2
  rcases O with ⟨h, _⟩ | ⟨_, _, h, _⟩ | ⟨p', q', hp, hq, h⟩
  · rw [h] at h1; cases h1
  · rw [h] at h2; cases h2
  · rw [hp] at h1; rw [hq] at h2; cases h1; cases h2; exact h
theorem part_e1 {x y : Str} {last : Int} {tl : List (Addr × Obj)} {r : Value} (hx : IdxText x) (O : PartOut x y last tl r) (h1 : indexS x = none) : Told (wordsI x) "INDEX" tl r := by
  rw [index_same hx] at h1
  rcases O with ⟨_, h⟩ | ⟨_, h, _⟩ | ⟨_, _, h, _⟩
  · exact h
  · rw [h] at h1; cases h1
  · rw [h] at h1; cases h1
theorem part_e2 {x y : Str} {last : Int} {tl : List (Addr × Obj)} {r : Value} {p : Sum2} (hx : IdxText x) (hy : IdxText y) (O : PartOut x y last tl r) (h1 : indexS x = some p) (h2 : indexS y = none) : Told (wordsI y) "INDEX" tl r := by
  rw [index_same hx] at h1
  rw [index_same hy] at h2
  rcases O with ⟨h, _⟩ | ⟨_, _, _, h⟩ | ⟨_, _, _, h, _⟩
  · rw [h] at h1; cases h1
  · exact h
  · rw [h] at h2; cases h2
theorem ne_told {prog : Program} {w : World} {A : Around} {E : Value → Shared → Prop} {s : Shared} {Q : Value → Shared → Prop} {h₀ : Heap} {L a b e e' : Addr} {news : List (Addr × Obj)} {x : Str} {k k' t t' t1 t2 t3 u1 u2 u3 : Tok}
    (hx : IdxText x) (N : News h₀ L s.heap news) (ha : (a, tupO [.int 1 k, .str (wordsI x) t, .ref e]) ∈ news) (hb : (b, tupO [.int 1 k', .str (wordsI x) t', .ref e']) ∈ news) (he : (e, tupO [.str "TCL" t1, .str "VALUE" t2, .str "INDEX" t3]) ∈ news) (he' : (e', tupO [.str "TCL" u1, .str "VALUE" u2, .str "INDEX" u3]) ∈ news)
    (hu : A.units + 64 < cLine) (h : Q (.bool false) s) : wpAny (model prog w) A (compareOp .NotEq (.ref a) (.ref b)) Q E s := by
  have r1 := reads_tuple_at (N.get he) rfl rfl (.cons (.str _ _) (.cons (.str _ _) (.cons (.str _ _) .nil)))
  have r2 := reads_tuple_at (N.get he') rfl rfl (.cons (.str _ _) (.cons (.str _ _) (.cons (.str _ _) .nil)))
  have ra := reads_tuple_at (N.get ha) rfl rfl (.cons (.int _ _) (.cons (.str _ _) (.cons r1 .nil)))
  have rb := reads_tuple_at (N.get hb) rfl rfl (.cons (.int _ _) (.cons (.str _ _) (.cons r2 .nil)))
  have hs : PySem.SeqAt.shaped (PyData.tuple [.int 1, .str (wordsI x), .tuple [.str "TCL", .str "VALUE", .str "INDEX"]]) = true := by
    have e1 : PyData.strOk "TCL" = true := by decide +kernel
    have e2 : PyData.strOk "VALUE" = true := by decide +kernel
    have e3 : PyData.strOk "INDEX" = true := by decide +kernel
    simp [PySem.SeqAt.shaped, PyData.canLay0, PyData.canLayAll0, PyData.depth, PyData.depthAll, wordsI_ok hx, e3, e1, e2]
  refine ne_dataH ra rb hs hs hu ?_
  simp only [PyData.eqv, PyData.eqvAll, beq_self_eq_true, Bool.and_true, Bool.not_true]
  exact h
theorem ne_pair {prog : Program} {w : World} {A : Around} {E : Value → Shared → Prop} {s : Shared} {Q : Value → Shared → Prop} {h₀ : Heap} {L a b : Addr} {news : List (Addr × Obj)} {u v : Int} {t t' u1 u2 : Tok}
    (N : News h₀ L s.heap news) (ha : (a, tupO [.int u t, .int v t']) ∈ news) (hb : (b, tupO [.int u u1, .int v u2]) ∈ news) (hu : A.units + 64 < cLine) (h : Q (.bool false) s) : wpAny (model prog w) A (compareOp .NotEq (.ref a) (.ref b)) Q E s := by
  have ra := reads_tuple_at (N.get ha) rfl rfl (.cons (.int _ _) (.cons (.int _ _) .nil))
  have rb := reads_tuple_at (N.get hb) rfl rfl (.cons (.int _ _) (.cons (.int _ _) .nil))
  have hs : PySem.SeqAt.shaped (PyData.tuple [.int u, .int v]) = true := by
    simp [PySem.SeqAt.shaped, PyData.canLay0, PyData.canLayAll0, PyData.depth, PyData.depthAll]
  refine ne_dataH ra rb hs hs hu ?_
  simp only [PyData.eqv, PyData.eqvAll, beq_self_eq_true, Bool.and_true, Bool.not_true]
  exact h
section
theorem loop5 (w : World) : LoopMeets w 4 := by
  w_top off
  k_with_none
  k_with "call ref" => ((k_here; (with_reducible show wpAny _ _ (call (Value.ref 136) _) _ _ _); ktn_call (number_meets w l vs zs hi hz _ _) hl; (rename _ ∧ SomeInt _ => O9); (k_dflt (obtain ⟨rfl, n9, t9, rfl⟩ := O9)); (rename News _ _ _ _ => N9); (simp only [List.nil_append] at N9); (try k_sweep)))
  k_with "call ref" => ((k_here; (with_reducible show wpAny _ _ (call (Value.ref 164) _) _ _ _); ktn_end (law_whole_meets w _ _ (by with_reducible assumption)); (rename OptIs _ _ => O9); (rw [whole_same] at O9); rcases OptIs.split O9 with ⟨oe9, hr9⟩ | ⟨v9, t9, oe9, hr9⟩ <;> (subst hr9; clear O9)))
  k_with "call ref" => ((k_here; (with_reducible show wpAny _ _ (call (Value.ref 80) _) _ _ _); ktn_end (whole_of_meets w _ _ (by with_reducible assumption)); (rename OptIs _ _ => O9); (rw [oe9] at O9); (cases O9)))
  k_with "call ref" => ((k_here; (with_reducible show wpAny _ _ (call (Value.ref 211) _) _ _ _); (first   | ktn_end (same_none w) | ktn_end (same_int w _ _ _) | ktn_end (same_bool w _)); (rename BoolIs _ _ => O9); (cases O9)))
  k_with "noteFrame ref" => ((k_here; (k_dflt (refine caught_D (by k_asm) (by exact F9) (by exact U9) (by exact R9) (by k_asm) (by k_asm) (by k_is) (by k_is) ?_; k_whole)); (clear F9 U9 R9); intro hc9 tkc9 wsc9 slc9 Fc9 Nc9; (try simp only [List.cons_append, List.nil_append] at Nc9); (try k_sweep)))
  k_with "getAttr ref" => ((k_here; k_dflt (refine get_excF (by k_asm) (by k_asm) (by k_asm) (by k_mem) (by k_mem) (by k_is) (by k_is) (by k_is) (by rfl) (by k_is) (by k_is) (by k_is) (by with_reducible assumption) (by k_handed) ?_; k_whole)))
  k_with "call ref" => ((k_here; (with_reducible show wpAny _ _ (call (Value.ref 185) _) _ _ _); ktn_end (index_text_meets w _ _ _ _ (by omega) (by omega)); (rename StrIs _ _ => O9); (k_dflt (obtain ⟨x9, t9, p9⟩ := O9)); (have hx9 := idx_len' p9)))
  k_with "call ref" => ((k_here; (with_reducible show wpAny _ _ (call (Value.ref 129) _) _ _ _); ktr_call (index_pair_meets w _ _ _ _ _ _ (by with_reducible assumption) (by with_reducible assumption)) 0; rotate_left; (intro e9 d9 tl9 g9 h9 tk9 R9 F9 U9 O9); (k_dflt (rcases O9 with ⟨on9, es9, n9, k9, t90, t91, t92, t93, et9, rfl, c91, c92, c93⟩ | ⟨⟨p99, on8⟩, on9, es9, n9, k9, t90, t91, t92, t93, et9, rfl, c91, c92, c93⟩)); rotate_right; (intro r9 tl9 h9 tk9 F9 N9 O9); (k_dflt (obtain ⟨p99, q99, hp9, hq9, a9, v91, v92, t91, t92, rfl, rfl, rfl, rfl⟩ := O9)); (simp only [List.cons_append, List.nil_append] at N9); (try k_sweep)))
  k_with "call ref" => ((k_here; (with_reducible show wpAny _ _ (call (Value.ref 204) _) _ _ _); ktn_call (part_meets w _ _ _ _ _ _ (by with_reducible assumption) (by with_reducible assumption) (last_in _).1 (last_in _).2) trivial; (rename PartOut _ _ _ _ _ => O9); (first   | ((have O8 := part_ret (by with_reducible assumption) (by with_reducible assumption) O9 (by with_reducible assumption) (by with_reducible assumption)); (k_dflt (obtain ⟨b9, w91, w92, u91, u92, rfl, rfl, rfl, rfl⟩ := O8)))   | ((have O8 := part_e1 (by with_reducible assumption) O9 (by with_reducible assumption)); (k_dflt (obtain ⟨a9, et9, k9, t90, t91, t92, t93, rfl, rfl⟩ := O8)))   | ((have O8 := part_e2 (by with_reducible assumption) (by with_reducible assumption) O9 (by with_reducible assumption) (by with_reducible assumption)); (k_dflt (obtain ⟨a9, et9, k9, t90, t91, t92, t93, rfl, rfl⟩ := O8)))); clear O9; (rename News _ _ _ _ => N9); (simp only [List.cons_append, List.nil_append] at N9); (try k_sweep)))
  k_with "compareOp NotEq ref ref" => ((k_here; k_dflt (first   | (refine ne_pair (by k_asm) (by k_mem) (by k_mem) (by ktr_units) ?_)   | (refine ne_told ?_ (by k_asm) (by k_mem) (by k_mem) (by k_mem) (by k_mem) (by ktr_units) ?_; (next => with_reducible assumption)))))
  k_with "execs nil" => ((k_here; refine wpAny_execs_nil ?_))
  unfold LoopMeets
  (obtain ⟨S, hS⟩ : ∃ S, S = lawParts.2 := ⟨_, rfl⟩)
  unfold lawEnv
  rw [← hS]
  (conv at hS => rhs; whnf)
  dsimp only at hS
  subst hS
  rintro prog mean mg mb fa cd h₀ L m s Q E l vs zs B F X N T ⟨u, rfl⟩ hl hi hz hE hret
  dsimp only [kstB] at F
  (conv => arg 3; arg 1; whnf)
  k_with_none
  k_with "call ref" => ((k_here; (with_reducible show wpAny _ _ (call (Value.ref 136) _) _ _ _); ktn_call (number_meets w l vs zs hi hz _ _) hl; (rename _ ∧ SomeInt _ => O9); (k_dflt (obtain ⟨rfl, n9, t9, rfl⟩ := O9)); (rename News _ _ _ _ => N9); (simp only [List.nil_append] at N9); (try k_sweep)))
  k_with "call ref" => ((k_here; (with_reducible show wpAny _ _ (call (Value.ref 164) _) _ _ _); ktn_end (law_whole_meets w _ _ (by with_reducible assumption)); (rename OptIs _ _ => O9); (rw [whole_same] at O9); rcases OptIs.split O9 with ⟨oe9, hr9⟩ | ⟨v9, t9, oe9, hr9⟩ <;> (subst hr9; clear O9)))
  k_with "call ref" => ((k_here; (with_reducible show wpAny _ _ (call (Value.ref 80) _) _ _ _); ktn_end (whole_of_meets w _ _ (by with_reducible assumption)); (rename OptIs _ _ => O9); (rw [oe9] at O9); (cases O9)))
  k_with "call ref" => ((k_here; (with_reducible show wpAny _ _ (call (Value.ref 211) _) _ _ _); (first   | ktn_end (same_none w) | ktn_end (same_int w _ _ _) | ktn_end (same_bool w _)); (rename BoolIs _ _ => O9); (cases O9)))
  k_with "noteFrame ref" => ((k_here; (k_dflt (refine caught_D (by k_asm) (by exact F9) (by exact U9) (by exact R9) (by k_asm) (by k_asm) (by k_is) (by k_is) ?_; k_whole)); (clear F9 U9 R9); intro hc9 tkc9 wsc9 slc9 Fc9 Nc9; (try simp only [List.cons_append, List.nil_append] at Nc9); (try k_sweep)))
  k_with "getAttr ref" => ((k_here; k_dflt (refine get_excF (by k_asm) (by k_asm) (by k_asm) (by k_mem) (by k_mem) (by k_is) (by k_is) (by k_is) (by rfl) (by k_is) (by k_is) (by k_is) (by with_reducible assumption) (by k_handed) ?_; k_whole)))
  k_with "call ref" => ((k_here; (with_reducible show wpAny _ _ (call (Value.ref 185) _) _ _ _); ktn_end (index_text_meets w _ _ _ _ (by omega) (by omega)); (rename StrIs _ _ => O9); (k_dflt (obtain ⟨x9, t9, p9⟩ := O9)); (have hx9 := idx_len' p9)))
  k_with "call ref" => ((k_here; (with_reducible show wpAny _ _ (call (Value.ref 129) _) _ _ _); ktr_call (index_pair_meets w _ _ _ _ _ _ (by with_reducible assumption) (by with_reducible assumption)) 0; rotate_left; (intro e9 d9 tl9 g9 h9 tk9 R9 F9 U9 O9); (k_dflt (rcases O9 with ⟨on9, es9, n9, k9, t90, t91, t92, t93, et9, rfl, c91, c92, c93⟩ | ⟨⟨p99, on8⟩, on9, es9, n9, k9, t90, t91, t92, t93, et9, rfl, c91, c92, c93⟩)); rotate_right; (intro r9 tl9 h9 tk9 F9 N9 O9); (k_dflt (obtain ⟨p99, q99, hp9, hq9, a9, v91, v92, t91, t92, rfl, rfl, rfl, rfl⟩ := O9)); (simp only [List.cons_append, List.nil_append] at N9); (try k_sweep)))
  k_with "call ref" => ((k_here; (with_reducible show wpAny _ _ (call (Value.ref 204) _) _ _ _); ktn_call (part_meets w _ _ _ _ _ _ (by with_reducible assumption) (by with_reducible assumption) (last_in _).1 (last_in _).2) trivial; (rename PartOut _ _ _ _ _ => O9); (first   | ((have O8 := part_ret (by with_reducible assumption) (by with_reducible assumption) O9 (by with_reducible assumption) (by with_reducible assumption)); (k_dflt (obtain ⟨b9, w91, w92, u91, u92, rfl, rfl, rfl, rfl⟩ := O8)))   | ((have O8 := part_e1 (by with_reducible assumption) O9 (by with_reducible assumption)); (k_dflt (obtain ⟨a9, et9, k9, t90, t91, t92, t93, rfl, rfl⟩ := O8)))   | ((have O8 := part_e2 (by with_reducible assumption) (by with_reducible assumption) O9 (by with_reducible assumption) (by with_reducible assumption)); (k_dflt (obtain ⟨a9, et9, k9, t90, t91, t92, t93, rfl, rfl⟩ := O8)))); clear O9; (rename News _ _ _ _ => N9); (simp only [List.cons_append, List.nil_append] at N9); (try k_sweep)))
  k_with "compareOp NotEq ref ref" => ((k_here; k_dflt (first   | (refine ne_pair (by k_asm) (by k_mem) (by k_mem) (by ktr_units) ?_)   | (refine ne_told ?_ (by k_asm) (by k_mem) (by k_mem) (by k_mem) (by k_mem) (by ktr_units) ?_; (next => with_reducible assumption)))))
  k_with "execs nil" => ((k_here; refine wpAny_execs_nil ?_))
  k_with "pyIter ref" => (refine' stop_ ?_)
  refine For_invVF F (by exact rfl) (by exact rfl) ?_ (by intro _; rfl) hE
  k_steps
  k_with_none
  k_with "call ref" => ((k_here; (with_reducible show wpAny _ _ (call (Value.ref 136) _) _ _ _); ktn_call (number_meets w l vs zs hi hz _ _) hl; (rename _ ∧ SomeInt _ => O9); (k_dflt (obtain ⟨rfl, n9, t9, rfl⟩ := O9)); (rename News _ _ _ _ => N9); (simp only [List.nil_append] at N9); (try k_sweep)))
  k_with "call ref" => ((k_here; (with_reducible show wpAny _ _ (call (Value.ref 164) _) _ _ _); ktn_end (law_whole_meets w _ _ (by with_reducible assumption)); (rename OptIs _ _ => O9); (rw [whole_same] at O9); rcases OptIs.split O9 with ⟨oe9, hr9⟩ | ⟨v9, t9, oe9, hr9⟩ <;> (subst hr9; clear O9)))
  k_with "call ref" => ((k_here; (with_reducible show wpAny _ _ (call (Value.ref 80) _) _ _ _); ktn_end (whole_of_meets w _ _ (by with_reducible assumption)); (rename OptIs _ _ => O9); (rw [oe9] at O9); (cases O9)))
  k_with "call ref" => ((k_here; (with_reducible show wpAny _ _ (call (Value.ref 211) _) _ _ _); (first   | ktn_end (same_none w) | ktn_end (same_int w _ _ _) | ktn_end (same_bool w _)); (rename BoolIs _ _ => O9); (cases O9)))
  k_with "noteFrame ref" => ((k_here; (k_dflt (refine caught_D (by k_asm) (by exact F9) (by exact U9) (by exact R9) (by k_asm) (by k_asm) (by k_is) (by k_is) ?_; k_whole)); (clear F9 U9 R9); intro hc9 tkc9 wsc9 slc9 Fc9 Nc9; (try simp only [List.cons_append, List.nil_append] at Nc9); (try k_sweep)))
  k_with "getAttr ref" => ((k_here; k_dflt (refine get_excF (by k_asm) (by k_asm) (by k_asm) (by k_mem) (by k_mem) (by k_is) (by k_is) (by k_is) (by rfl) (by k_is) (by k_is) (by k_is) (by with_reducible assumption) (by k_handed) ?_; k_whole)))
  k_with "call ref" => ((k_here; (with_reducible show wpAny _ _ (call (Value.ref 185) _) _ _ _); ktn_end (index_text_meets w _ _ _ _ (by omega) (by omega)); (rename StrIs _ _ => O9); (k_dflt (obtain ⟨x9, t9, p9⟩ := O9)); (have hx9 := idx_len' p9)))
  k_with "call ref" => ((k_here; (with_reducible show wpAny _ _ (call (Value.ref 129) _) _ _ _); ktr_call (index_pair_meets w _ _ _ _ _ _ (by with_reducible assumption) (by with_reducible assumption)) 0; rotate_left; (intro e9 d9 tl9 g9 h9 tk9 R9 F9 U9 O9); (k_dflt (rcases O9 with ⟨on9, es9, n9, k9, t90, t91, t92, t93, et9, rfl, c91, c92, c93⟩ | ⟨⟨p99, on8⟩, on9, es9, n9, k9, t90, t91, t92, t93, et9, rfl, c91, c92, c93⟩)); rotate_right; (intro r9 tl9 h9 tk9 F9 N9 O9); (k_dflt (obtain ⟨p99, q99, hp9, hq9, a9, v91, v92, t91, t92, rfl, rfl, rfl, rfl⟩ := O9)); (simp only [List.cons_append, List.nil_append] at N9); (try k_sweep)))
  k_with "call ref" => ((k_here; (with_reducible show wpAny _ _ (call (Value.ref 204) _) _ _ _); ktn_call (part_meets w _ _ _ _ _ _ (by with_reducible assumption) (by with_reducible assumption) (last_in _).1 (last_in _).2) trivial; (rename PartOut _ _ _ _ _ => O9); (first   | ((have O8 := part_ret (by with_reducible assumption) (by with_reducible assumption) O9 (by with_reducible assumption) (by with_reducible assumption)); (k_dflt (obtain ⟨b9, w91, w92, u91, u92, rfl, rfl, rfl, rfl⟩ := O8)))   | ((have O8 := part_e1 (by with_reducible assumption) O9 (by with_reducible assumption)); (k_dflt (obtain ⟨a9, et9, k9, t90, t91, t92, t93, rfl, rfl⟩ := O8)))   | ((have O8 := part_e2 (by with_reducible assumption) (by with_reducible assumption) O9 (by with_reducible assumption) (by with_reducible assumption)); (k_dflt (obtain ⟨a9, et9, k9, t90, t91, t92, t93, rfl, rfl⟩ := O8)))); clear O9; (rename News _ _ _ _ => N9); (simp only [List.cons_append, List.nil_append] at N9); (try k_sweep)))
  k_with "compareOp NotEq ref ref" => ((k_here; k_dflt (first   | (refine ne_pair (by k_asm) (by k_mem) (by k_mem) (by ktr_units) ?_)   | (refine ne_told ?_ (by k_asm) (by k_mem) (by k_mem) (by k_mem) (by k_mem) (by ktr_units) ?_; (next => with_reducible assumption)))))
  k_with "execs nil" => ((k_here; refine wpAny_execs_nil ?_))
  unfold Stop
  rename Fr _ _ _ _ => lF
  rename News _ _ _ _ => lN
  rename IsRange _ _ _ _ _ _ _ _ => lR
  refine range_loop (n := 6) (fun i m => Keeps [(Str.ofString "script", .ref l)] m) rfl lR (by decide) (by decide) lF lN (Keeps.of (by kst_all)) ?_ ?_
  · rintro i ti m₁ h tk own hi' ⟨u1, rfl⟩ F9 N9
    dsimp only [kstB] at F9
    simp only [List.nil_append] at N9
    clear lF lN lR hret
    k_steps
    all_goals first
      | exact rg_end (.inl rfl) (by k_asm) (by k_asm) (by kcj_all) (Keeps.of (by kst_all))
  · rintro m₁ h tk ⟨u1, rfl⟩ F9 N9
    exact hret _ _ _ F9 N9 ⟨_, rfl⟩
end
end
section
theorem menu_int {prog : Program} {w : World} {A : Around} {E : Value → Shared → Prop} {s : Shared} {h₀ : Heap} {L : Addr} {news : List (Addr × Obj)} {value slice : PySem.Expr} {l : Addr} {vs : List Value} {i : Int} {u : Tok} {Q : Value → Shared → Prop} (N : News h₀ L s.heap news) (hm : (l, ({ cls := .type "tuple", data := .seq vs.toArray } : Obj)) ∈ news)
    (h0 : 0 ≤ i) (h1 : i < (vs.length : Int)) (hfit : i < 2 ^ 63) (hv : ∀ v ∈ vs, ∃ x t, v = .int x t) (h : ∀ x t', Q (.int x t') s)
    (hs : subscripted slice false (.ref l) (.int i u) = operate [.ref l, .int i u] (getItem (.ref l) (.int i u)) := by with_unfolding_all rfl) :
    wpAny (model prog w) A (subscriptTail value slice (.ref l) (.int i u)) Q E s := by
  have hlt : i.toNat < vs.length := by omega
  have ht : IsTup s.heap l vs.toArray := ⟨_, (N _ hm).1, rfl, _, rfl⟩
  have hn : i < ((vs.toArray.size : Nat) : Int) := by rw [List.size_toArray]; exact h1
  obtain ⟨x, t', e⟩ := hv vs[i.toNat] (List.getElem_mem hlt)
  exact tail_any ht.typeIs slot_tuple_getitem.lookup (getItem_tuple ht (by omega) hfit (seqIndex_of h0 hn) (x := .int x t') (by rw [← e]; simp [hlt]) (h x t')) hs
theorem pow64_ne : (2 : Int) ^ Int.toNat 64 ≠ 0 := by decide
def SmallN (c : Int) : Prop := -10 ^ 40 < c ∧ c < 10 ^ 40
def WideN (n v : Int) : Prop := -2 ^ 63 ≤ v ∧ v < 2 ^ 63 ∧ (n - v) % 2 ^ 64 = 0
theorem le_wide {prog : Program} {w : World} {A : Around} {E : Value → Shared → Prop} {s : Shared} {n v : Int} {t u : Tok} {Q : Value → Shared → Prop} (hw : WideN n v) (h : Q (.bool true) s) : wpAny (model prog w) A (compareOp .LtE (.int (-2 ^ Int.toNat 63) t) (.int v u)) Q E s := by
  refine PyProof.Rows.le_int ?_
  have e : decide ((-2 ^ Int.toNat 63 : Int) ≤ v) = true := decide_eq_true hw.1
  rw [e]; exact h
theorem lt_wide {prog : Program} {w : World} {A : Around} {E : Value → Shared → Prop} {s : Shared} {n v : Int} {t u : Tok} {Q : Value → Shared → Prop} (hw : WideN n v) (h : Q (.bool true) s) : wpAny (model prog w) A (compareOp .Lt (.int v t) (.int (2 ^ Int.toNat 63) u)) Q E s := by
  refine PyProof.Rows.lt_int ?_
  have e : decide (v < (2 ^ Int.toNat 63 : Int)) = true := decide_eq_true hw.2.1
  rw [e]; exact h
theorem ne_wide {prog : Program} {w : World} {A : Around} {E : Value → Shared → Prop} {s : Shared} {n v : Int} {t u : Tok} {Q : Value → Shared → Prop} (hw : WideN n v) (h : Q (.bool false) s) : wpAny (model prog w) A (compareOp .NotEq (.int ((n - v).fmod (2 ^ Int.toNat 64)) t) (.int 0 u)) Q E s := by
  refine PyProof.Rows.ne_int ?_
  have e0 : (n - v).fmod (2 ^ Int.toNat 64) = 0 := by
    rw [Int.fmod_eq_emod_of_nonneg _ (by decide)]
    exact hw.2.2
  have e : ((n - v).fmod (2 ^ Int.toNat 64) != 0) = false := by rw [e0]; rfl
  rw [e]; exact h
theorem small_of {r : Value} (h : SmallInt r) : ∃ c t, r = .int c t ∧ SmallN c := h
theorem wide_of {n : Int} {r : Value} (h : WideOk n r) : ∃ v t, r = .int v t ∧ WideN n v := h
section
theorem loop6 (w : World) : LoopMeets w 5 := by
  w_top off
  k_with_none
  k_with "call ref" => ((k_here; (with_reducible show wpAny _ _ (call (Value.ref 136) _) _ _ _); ktn_call (number_meets w l vs zs hi hz _ _) hl; (rename _ ∧ SomeInt _ => O9); (k_dflt (obtain ⟨rfl, n9, t9, rfl⟩ := O9)); (rename News _ _ _ _ => N9); (simp only [List.nil_append] at N9); (try k_sweep)))
  k_with "call ref" => ((k_here; (with_reducible show wpAny _ _ (call (Value.ref 164) _) _ _ _); ktn_end (law_whole_meets w _ _ (by with_reducible assumption)); (rename OptIs _ _ => O9); (rw [whole_same] at O9); rcases OptIs.split O9 with ⟨oe9, hr9⟩ | ⟨v9, t9, oe9, hr9⟩ <;> (subst hr9; clear O9)))
  k_with "call ref" => ((k_here; (with_reducible show wpAny _ _ (call (Value.ref 80) _) _ _ _); ktn_end (whole_of_meets w _ _ (by with_reducible assumption)); (rename OptIs _ _ => O9); (rw [oe9] at O9); (cases O9)))
  k_with "call ref" => ((k_here; (with_reducible show wpAny _ _ (call (Value.ref 211) _) _ _ _); (first   | ktn_end (same_none w) | ktn_end (same_int w _ _ _) | ktn_end (same_bool w _)); (rename BoolIs _ _ => O9); (cases O9)))
  k_with "noteFrame ref" => ((k_here; (k_dflt (refine caught_D (by k_asm) (by exact F9) (by exact U9) (by exact R9) (by k_asm) (by k_asm) (by k_is) (by k_is) ?_; k_whole)); (clear F9 U9 R9); intro hc9 tkc9 wsc9 slc9 Fc9 Nc9; (try simp only [List.cons_append, List.nil_append] at Nc9); (try k_sweep)))
  k_with "getAttr ref" => ((k_here; k_dflt (refine get_excF (by k_asm) (by k_asm) (by k_asm) (by k_mem) (by k_mem) (by k_is) (by k_is) (by k_is) (by rfl) (by k_is) (by k_is) (by k_is) (by with_reducible assumption) (by k_handed) ?_; k_whole)))
  k_with "call ref" => ((k_here; (with_reducible show wpAny _ _ (call (Value.ref 218) _) _ _ _); ktn_end (capped_meets w _ _); (rename SmallInt _ => O9); (have O8 := small_of O9); clear O9; (k_dflt (obtain ⟨c9, t9, rfl, hc9⟩ := O8))))
  k_with "call ref" => ((k_here; (with_reducible show wpAny _ _ (call (Value.ref 122) _) _ _ _); ktn_end (wide_meets w _ _); (rename WideOk _ _ => O9); (have O8 := wide_of O9); clear O9; (k_dflt (obtain ⟨v9, t9, rfl, hw9⟩ := O8))))
  k_with "binaryOp Pow int int" => ((k_here; (with_reducible refine pow_int_small (by decide) (by decide) (by decide) ?_)))
  k_with "newTuple" => ((k_here; k_dflt (refine kup_newTuple (by k_asm) (by k_asm) ?_ (by (rw [PySem.sizeLine_eq]; decide))); intro D9 h9 F9 N9 l9))
  k_with "subscriptTail Tuple Name ref int" => ((k_here; (with_reducible show wpAny _ _ (subscriptTail _ _ (Value.ref _) (Value.int _ _)) _ _ _); (k_dflt (refine menu_int (by k_asm) (by k_mem) (by omega) (by (simp only [List.length_cons, List.length_nil]; omega)) (by omega) ?_ ?_ (by with_unfolding_all rfl); (next => (repeat (first | exact List.forall_mem_nil _ | (refine List.forall_mem_cons.mpr ⟨⟨_, _, rfl⟩, ?_⟩)))))); intro x9 t9))
  k_with "binaryOp Mod int int" => ((k_here; (with_reducible refine mod_int' pow64_ne ?_)))
  k_with "compareOp LtE int int" => ((k_here; (refine le_wide (by with_reducible assumption) ?_)))
  k_with "compareOp Lt int int" => ((k_here; (refine lt_wide (by with_reducible assumption) ?_)))
  k_with "compareOp NotEq int int" => ((k_here; (refine ne_wide (by with_reducible assumption) ?_)))
  k_with "execs nil" => ((k_here; refine wpAny_execs_nil ?_))
  unfold LoopMeets
  (obtain ⟨S, hS⟩ : ∃ S, S = lawParts.2 := ⟨_, rfl⟩)
  unfold lawEnv
  rw [← hS]
  (conv at hS => rhs; whnf)
  dsimp only at hS
  subst hS
  rintro prog mean mg mb fa cd h₀ L m s Q E l vs zs B F X N T ⟨u, rfl⟩ hl hi hz hE hret
  dsimp only [kstB] at F
  (conv => arg 3; arg 1; whnf)
  k_with_none
  k_with "call ref" => ((k_here; (with_reducible show wpAny _ _ (call (Value.ref 136) _) _ _ _); ktn_call (number_meets w l vs zs hi hz _ _) hl; (rename _ ∧ SomeInt _ => O9); (k_dflt (obtain ⟨rfl, n9, t9, rfl⟩ := O9)); (rename News _ _ _ _ => N9); (simp only [List.nil_append] at N9); (try k_sweep)))
  k_with "call ref" => ((k_here; (with_reducible show wpAny _ _ (call (Value.ref 164) _) _ _ _); ktn_end (law_whole_meets w _ _ (by with_reducible assumption)); (rename OptIs _ _ => O9); (rw [whole_same] at O9); rcases OptIs.split O9 with ⟨oe9, hr9⟩ | ⟨v9, t9, oe9, hr9⟩ <;> (subst hr9; clear O9)))
  k_with "call ref" => ((k_here; (with_reducible show wpAny _ _ (call (Value.ref 80) _) _ _ _); ktn_end (whole_of_meets w _ _ (by with_reducible assumption)); (rename OptIs _ _ => O9); (rw [oe9] at O9); (cases O9)))
  k_with "call ref" => ((k_here; (with_reducible show wpAny _ _ (call (Value.ref 211) _) _ _ _); (first   | ktn_end (same_none w) | ktn_end (same_int w _ _ _) | ktn_end (same_bool w _)); (rename BoolIs _ _ => O9); (cases O9)))
  k_with "noteFrame ref" => ((k_here; (k_dflt (refine caught_D (by k_asm) (by exact F9) (by exact U9) (by exact R9) (by k_asm) (by k_asm) (by k_is) (by k_is) ?_; k_whole)); (clear F9 U9 R9); intro hc9 tkc9 wsc9 slc9 Fc9 Nc9; (try simp only [List.cons_append, List.nil_append] at Nc9); (try k_sweep)))
  k_with "getAttr ref" => ((k_here; k_dflt (refine get_excF (by k_asm) (by k_asm) (by k_asm) (by k_mem) (by k_mem) (by k_is) (by k_is) (by k_is) (by rfl) (by k_is) (by k_is) (by k_is) (by with_reducible assumption) (by k_handed) ?_; k_whole)))
  k_with "call ref" => ((k_here; (with_reducible show wpAny _ _ (call (Value.ref 218) _) _ _ _); ktn_end (capped_meets w _ _); (rename SmallInt _ => O9); (have O8 := small_of O9); clear O9; (k_dflt (obtain ⟨c9, t9, rfl, hc9⟩ := O8))))
  k_with "call ref" => ((k_here; (with_reducible show wpAny _ _ (call (Value.ref 122) _) _ _ _); ktn_end (wide_meets w _ _); (rename WideOk _ _ => O9); (have O8 := wide_of O9); clear O9; (k_dflt (obtain ⟨v9, t9, rfl, hw9⟩ := O8))))
  k_with "binaryOp Pow int int" => ((k_here; (with_reducible refine pow_int_small (by decide) (by decide) (by decide) ?_)))
  k_with "newTuple" => ((k_here; k_dflt (refine kup_newTuple (by k_asm) (by k_asm) ?_ (by (rw [PySem.sizeLine_eq]; decide))); intro D9 h9 F9 N9 l9))
  k_with "subscriptTail Tuple Name ref int" => ((k_here; (with_reducible show wpAny _ _ (subscriptTail _ _ (Value.ref _) (Value.int _ _)) _ _ _); (k_dflt (refine menu_int (by k_asm) (by k_mem) (by omega) (by (simp only [List.length_cons, List.length_nil]; omega)) (by omega) ?_ ?_ (by with_unfolding_all rfl); (next => (repeat (first | exact List.forall_mem_nil _ | (refine List.forall_mem_cons.mpr ⟨⟨_, _, rfl⟩, ?_⟩)))))); intro x9 t9))
  k_with "binaryOp Mod int int" => ((k_here; (with_reducible refine mod_int' pow64_ne ?_)))
  k_with "compareOp LtE int int" => ((k_here; (refine le_wide (by with_reducible assumption) ?_)))
  k_with "compareOp Lt int int" => ((k_here; (refine lt_wide (by with_reducible assumption) ?_)))
  k_with "compareOp NotEq int int" => ((k_here; (refine ne_wide (by with_reducible assumption) ?_)))
  k_with "execs nil" => ((k_here; refine wpAny_execs_nil ?_))
  k_with "pyIter ref" => (refine' stop_ ?_)
  refine For_invVF F (by exact rfl) (by exact rfl) ?_ (by intro _; rfl) hE
  k_steps
  k_with_none
  k_with "call ref" => ((k_here; (with_reducible show wpAny _ _ (call (Value.ref 136) _) _ _ _); ktn_call (number_meets w l vs zs hi hz _ _) hl; (rename _ ∧ SomeInt _ => O9); (k_dflt (obtain ⟨rfl, n9, t9, rfl⟩ := O9)); (rename News _ _ _ _ => N9); (simp only [List.nil_append] at N9); (try k_sweep)))
  k_with "call ref" => ((k_here; (with_reducible show wpAny _ _ (call (Value.ref 164) _) _ _ _); ktn_end (law_whole_meets w _ _ (by with_reducible assumption)); (rename OptIs _ _ => O9); (rw [whole_same] at O9); rcases OptIs.split O9 with ⟨oe9, hr9⟩ | ⟨v9, t9, oe9, hr9⟩ <;> (subst hr9; clear O9)))
  k_with "call ref" => ((k_here; (with_reducible show wpAny _ _ (call (Value.ref 80) _) _ _ _); ktn_end (whole_of_meets w _ _ (by with_reducible assumption)); (rename OptIs _ _ => O9); (rw [oe9] at O9); (cases O9)))
  k_with "call ref" => ((k_here; (with_reducible show wpAny _ _ (call (Value.ref 211) _) _ _ _); (first   | ktn_end (same_none w) | ktn_end (same_int w _ _ _) | ktn_end (same_bool w _)); (rename BoolIs _ _ => O9); (cases O9)))
  k_with "noteFrame ref" => ((k_here; (k_dflt (refine caught_D (by k_asm) (by exact F9) (by exact U9) (by exact R9) (by k_asm) (by k_asm) (by k_is) (by k_is) ?_; k_whole)); (clear F9 U9 R9); intro hc9 tkc9 wsc9 slc9 Fc9 Nc9; (try simp only [List.cons_append, List.nil_append] at Nc9); (try k_sweep)))
  k_with "getAttr ref" => ((k_here; k_dflt (refine get_excF (by k_asm) (by k_asm) (by k_asm) (by k_mem) (by k_mem) (by k_is) (by k_is) (by k_is) (by rfl) (by k_is) (by k_is) (by k_is) (by with_reducible assumption) (by k_handed) ?_; k_whole)))
  k_with "call ref" => ((k_here; (with_reducible show wpAny _ _ (call (Value.ref 218) _) _ _ _); ktn_end (capped_meets w _ _); (rename SmallInt _ => O9); (have O8 := small_of O9); clear O9; (k_dflt (obtain ⟨c9, t9, rfl, hc9⟩ := O8))))
  k_with "call ref" => ((k_here; (with_reducible show wpAny _ _ (call (Value.ref 122) _) _ _ _); ktn_end (wide_meets w _ _); (rename WideOk _ _ => O9); (have O8 := wide_of O9); clear O9; (k_dflt (obtain ⟨v9, t9, rfl, hw9⟩ := O8))))
  k_with "binaryOp Pow int int" => ((k_here; (with_reducible refine pow_int_small (by decide) (by decide) (by decide) ?_)))
  k_with "newTuple" => ((k_here; k_dflt (refine kup_newTuple (by k_asm) (by k_asm) ?_ (by (rw [PySem.sizeLine_eq]; decide))); intro D9 h9 F9 N9 l9))
  k_with "subscriptTail Tuple Name ref int" => ((k_here; (with_reducible show wpAny _ _ (subscriptTail _ _ (Value.ref _) (Value.int _ _)) _ _ _); (k_dflt (refine menu_int (by k_asm) (by k_mem) (by omega) (by (simp only [List.length_cons, List.length_nil]; omega)) (by omega) ?_ ?_ (by with_unfolding_all rfl); (next => (repeat (first | exact List.forall_mem_nil _ | (refine List.forall_mem_cons.mpr ⟨⟨_, _, rfl⟩, ?_⟩)))))); intro x9 t9))
  k_with "binaryOp Mod int int" => ((k_here; (with_reducible refine mod_int' pow64_ne ?_)))
  k_with "compareOp LtE int int" => ((k_here; (refine le_wide (by with_reducible assumption) ?_)))
  k_with "compareOp Lt int int" => ((k_here; (refine lt_wide (by with_reducible assumption) ?_)))
  k_with "compareOp NotEq int int" => ((k_here; (refine ne_wide (by with_reducible assumption) ?_)))
  k_with "execs nil" => ((k_here; refine wpAny_execs_nil ?_))
  unfold Stop
  rename Fr _ _ _ _ => lF
  rename News _ _ _ _ => lN
  rename IsRange _ _ _ _ _ _ _ _ => lR
  refine range_loop (n := 5) (fun i m => Keeps [(Str.ofString "script", .ref l)] m) rfl lR (by decide) (by decide) lF lN (Keeps.of (by kst_all)) ?_ ?_
  · rintro i ti m₁ h tk own hi' ⟨u1, rfl⟩ F9 N9
    dsimp only [kstB] at F9
    simp only [List.nil_append] at N9
    clear lF lN lR hret
    k_steps
    all_goals first
      | exact rg_end (.inl rfl) (by k_asm) (by k_asm) (by kcj_all) (Keeps.of (by kst_all))
  · rintro m₁ h tk ⟨u1, rfl⟩ F9 N9
    exact hret _ _ _ F9 N9 ⟨_, rfl⟩
end
end
section
theorem num_in {c : Int} {i : Nat} (h : SmallN c) (hi : i < 3) : -10 ^ 41 < c * ((i : Int) + 1) + ((i : Int) - 1) * 123456789 ∧ c * ((i : Int) + 1) + ((i : Int) - 1) * 123456789 < 10 ^ 41 := by
  obtain ⟨h1, h2⟩ := h
  have : i = 0 ∨ i = 1 ∨ i = 2 := by omega
  rcases this with rfl | rfl | rfl <;> omega
theorem num_log {c : Int} {i : Nat} (h : SmallN c) (hi : i < 3) : (c * ((i : Int) + 1) + ((i : Int) - 1) * 123456789).natAbs.log2 < 1920 :=
  shown (N := 10 ^ 41) (num_in h hi).1 (num_in h hi).2 (by decide +kernel)
theorem num_len' {c : Int} {i : Nat} (h : SmallN c) (hi : i < 3) : (Str.ofString (toString (c * ((i : Int) + 1) + ((i : Int) - 1) * 123456789))).length ≤ 100 := num_len (num_in h hi).1 (num_in h hi).2
section
theorem loop7 (w : World) : LoopMeets w 6 := by
  w_top off
  k_with_none
  k_with "call ref" => ((k_here; (with_reducible show wpAny _ _ (call (Value.ref 136) _) _ _ _); ktn_call (number_meets w l vs zs hi hz _ _) hl; (rename _ ∧ SomeInt _ => O9); (k_dflt (obtain ⟨rfl, n9, t9, rfl⟩ := O9)); (rename News _ _ _ _ => N9); (simp only [List.nil_append] at N9); (try k_sweep)))
  k_with "call ref" => ((k_here; (with_reducible show wpAny _ _ (call (Value.ref 164) _) _ _ _); ktn_end (law_whole_meets w _ _ (by with_reducible assumption)); (rename OptIs _ _ => O9); (rw [whole_same] at O9); rcases OptIs.split O9 with ⟨oe9, hr9⟩ | ⟨v9, t9, oe9, hr9⟩ <;> (subst hr9; clear O9)))
  k_with "call ref" => ((k_here; (with_reducible show wpAny _ _ (call (Value.ref 80) _) _ _ _); ktn_end (whole_of_meets w _ _ (by with_reducible assumption)); (rename OptIs _ _ => O9); (rw [oe9] at O9); (cases O9)))
  k_with "call ref" => ((k_here; (with_reducible show wpAny _ _ (call (Value.ref 211) _) _ _ _); (first   | ktn_end (same_none w) | ktn_end (same_int w _ _ _) | ktn_end (same_bool w _)); (rename BoolIs _ _ => O9); (cases O9)))
  k_with "noteFrame ref" => ((k_here; (k_dflt (refine caught_D (by k_asm) (by exact F9) (by exact U9) (by exact R9) (by k_asm) (by k_asm) (by k_is) (by k_is) ?_; k_whole)); (clear F9 U9 R9); intro hc9 tkc9 wsc9 slc9 Fc9 Nc9; (try simp only [List.cons_append, List.nil_append] at Nc9); (try k_sweep)))
  k_with "getAttr ref" => ((k_here; k_dflt (refine get_excF (by k_asm) (by k_asm) (by k_asm) (by k_mem) (by k_mem) (by k_is) (by k_is) (by k_is) (by rfl) (by k_is) (by k_is) (by k_is) (by with_reducible assumption) (by k_handed) ?_; k_whole)))
  k_with "call ref" => ((k_here; (with_reducible show wpAny _ _ (call (Value.ref 218) _) _ _ _); ktn_end (capped_meets w _ _); (rename SmallInt _ => O9); (have O8 := small_of O9); clear O9; (k_dflt (obtain ⟨c9, t9, rfl, hc9⟩ := O8))))
  k_with "call type:str" => ((k_here; (refine P.str_of_int (num_log hc9 hi') ?_)))
  k_with "call ref" => ((k_here; (with_reducible show wpAny _ _ (call (Value.ref 80) _) _ _ _); ktn_end (whole_of_meets w _ _ (num_len' hc9 hi')); (rename OptIs _ _ => O9); (rw [whole_num] at O9); (cases O9)))
  k_with "execs nil" => ((k_here; refine wpAny_execs_nil ?_))
  unfold LoopMeets
  (obtain ⟨S, hS⟩ : ∃ S, S = lawParts.2 := ⟨_, rfl⟩)
  unfold lawEnv
  rw [← hS]
  (conv at hS => rhs; whnf)
  dsimp only at hS
  subst hS
  rintro prog mean mg mb fa cd h₀ L m s Q E l vs zs B F X N T ⟨u, rfl⟩ hl hi hz hE hret
  dsimp only [kstB] at F
  (conv => arg 3; arg 1; whnf)
  k_with_none
  k_with "call ref" => ((k_here; (with_reducible show wpAny _ _ (call (Value.ref 136) _) _ _ _); ktn_call (number_meets w l vs zs hi hz _ _) hl; (rename _ ∧ SomeInt _ => O9); (k_dflt (obtain ⟨rfl, n9, t9, rfl⟩ := O9)); (rename News _ _ _ _ => N9); (simp only [List.nil_append] at N9); (try k_sweep)))
  k_with "call ref" => ((k_here; (with_reducible show wpAny _ _ (call (Value.ref 164) _) _ _ _); ktn_end (law_whole_meets w _ _ (by with_reducible assumption)); (rename OptIs _ _ => O9); (rw [whole_same] at O9); rcases OptIs.split O9 with ⟨oe9, hr9⟩ | ⟨v9, t9, oe9, hr9⟩ <;> (subst hr9; clear O9)))
  k_with "call ref" => ((k_here; (with_reducible show wpAny _ _ (call (Value.ref 80) _) _ _ _); ktn_end (whole_of_meets w _ _ (by with_reducible assumption)); (rename OptIs _ _ => O9); (rw [oe9] at O9); (cases O9)))
  k_with "call ref" => ((k_here; (with_reducible show wpAny _ _ (call (Value.ref 211) _) _ _ _); (first   | ktn_end (same_none w) | ktn_end (same_int w _ _ _) | ktn_end (same_bool w _)); (rename BoolIs _ _ => O9); (cases O9)))
  k_with "noteFrame ref" => ((k_here; (k_dflt (refine caught_D (by k_asm) (by exact F9) (by exact U9) (by exact R9) (by k_asm) (by k_asm) (by k_is) (by k_is) ?_; k_whole)); (clear F9 U9 R9); intro hc9 tkc9 wsc9 slc9 Fc9 Nc9; (try simp only [List.cons_append, List.nil_append] at Nc9); (try k_sweep)))
  k_with "getAttr ref" => ((k_here; k_dflt (refine get_excF (by k_asm) (by k_asm) (by k_asm) (by k_mem) (by k_mem) (by k_is) (by k_is) (by k_is) (by rfl) (by k_is) (by k_is) (by k_is) (by with_reducible assumption) (by k_handed) ?_; k_whole)))
  k_with "call ref" => ((k_here; (with_reducible show wpAny _ _ (call (Value.ref 218) _) _ _ _); ktn_end (capped_meets w _ _); (rename SmallInt _ => O9); (have O8 := small_of O9); clear O9; (k_dflt (obtain ⟨c9, t9, rfl, hc9⟩ := O8))))
  k_with "call type:str" => ((k_here; (refine P.str_of_int (num_log hc9 hi') ?_)))
  k_with "call ref" => ((k_here; (with_reducible show wpAny _ _ (call (Value.ref 80) _) _ _ _); ktn_end (whole_of_meets w _ _ (num_len' hc9 hi')); (rename OptIs _ _ => O9); (rw [whole_num] at O9); (cases O9)))
  k_with "execs nil" => ((k_here; refine wpAny_execs_nil ?_))
  k_with "pyIter ref" => (refine' stop_ ?_)
  refine For_invVF F (by exact rfl) (by exact rfl) ?_ (by intro _; rfl) hE
  k_steps
  k_with_none
  k_with "call ref" => ((k_here; (with_reducible show wpAny _ _ (call (Value.ref 136) _) _ _ _); ktn_call (number_meets w l vs zs hi hz _ _) hl; (rename _ ∧ SomeInt _ => O9); (k_dflt (obtain ⟨rfl, n9, t9, rfl⟩ := O9)); (rename News _ _ _ _ => N9); (simp only [List.nil_append] at N9); (try k_sweep)))
  k_with "call ref" => ((k_here; (with_reducible show wpAny _ _ (call (Value.ref 164) _) _ _ _); ktn_end (law_whole_meets w _ _ (by with_reducible assumption)); (rename OptIs _ _ => O9); (rw [whole_same] at O9); rcases OptIs.split O9 with ⟨oe9, hr9⟩ | ⟨v9, t9, oe9, hr9⟩ <;> (subst hr9; clear O9)))
  k_with "call ref" => ((k_here; (with_reducible show wpAny _ _ (call (Value.ref 80) _) _ _ _); ktn_end (whole_of_meets w _ _ (by with_reducible assumption)); (rename OptIs _ _ => O9); (rw [oe9] at O9); (cases O9)))
  k_with "call ref" => ((k_here; (with_reducible show wpAny _ _ (call (Value.ref 211) _) _ _ _); (first   | ktn_end (same_none w) | ktn_end (same_int w _ _ _) | ktn_end (same_bool w _)); (rename BoolIs _ _ => O9); (cases O9)))
  k_with "noteFrame ref" => ((k_here; (k_dflt (refine caught_D (by k_asm) (by exact F9) (by exact U9) (by exact R9) (by k_asm) (by k_asm) (by k_is) (by k_is) ?_; k_whole)); (clear F9 U9 R9); intro hc9 tkc9 wsc9 slc9 Fc9 Nc9; (try simp only [List.cons_append, List.nil_append] at Nc9); (try k_sweep)))
  k_with "getAttr ref" => ((k_here; k_dflt (refine get_excF (by k_asm) (by k_asm) (by k_asm) (by k_mem) (by k_mem) (by k_is) (by k_is) (by k_is) (by rfl) (by k_is) (by k_is) (by k_is) (by with_reducible assumption) (by k_handed) ?_; k_whole)))
  k_with "call ref" => ((k_here; (with_reducible show wpAny _ _ (call (Value.ref 218) _) _ _ _); ktn_end (capped_meets w _ _); (rename SmallInt _ => O9); (have O8 := small_of O9); clear O9; (k_dflt (obtain ⟨c9, t9, rfl, hc9⟩ := O8))))
  k_with "call type:str" => ((k_here; (refine P.str_of_int (num_log hc9 hi') ?_)))
  k_with "call ref" => ((k_here; (with_reducible show wpAny _ _ (call (Value.ref 80) _) _ _ _); ktn_end (whole_of_meets w _ _ (num_len' hc9 hi')); (rename OptIs _ _ => O9); (rw [whole_num] at O9); (cases O9)))
  k_with "execs nil" => ((k_here; refine wpAny_execs_nil ?_))
  unfold Stop
  rename Fr _ _ _ _ => lF
  rename News _ _ _ _ => lN
  rename IsRange _ _ _ _ _ _ _ _ => lR
  refine range_loop (n := 3) (fun i m => Keeps [(Str.ofString "script", .ref l)] m) rfl lR (by decide) (by decide) lF lN (Keeps.of (by kst_all)) ?_ ?_
  · rintro i ti m₁ h tk own hi' ⟨u1, rfl⟩ F9 N9
    dsimp only [kstB] at F9
    simp only [List.nil_append] at N9
    clear lF lN lR hret
    k_steps
    all_goals first
      | exact rg_end (.inl rfl) (by k_asm) (by k_asm) (by kcj_all) (Keeps.of (by kst_all))
  · rintro m₁ h tk ⟨u1, rfl⟩ F9 N9
    exact hret _ _ _ F9 N9 ⟨_, rfl⟩
end
end
end
section
/-- between the law's statements -/
def Mid (h₀ : Heap) (L l : Addr) (s s' : Shared) : Prop := ∃ m' h' tk', s' = { s with heap := h', toks := tk' } ∧ Fr h₀ L h' m' ∧ News h₀ L h' [] ∧ Keeps [(Str.ofString "script", .ref l)] m'
theorem loop_cut {w : World} {i : Nat} (C : LoopMeets w i) {prog : Program} {mean : ExcName → Option Value} {mg mb : Str → Option Value} {fa cd : Addr} {h₀ : Heap} {L : Addr} {m : Str → Option Value} {s : Shared} {Q : Flow → Shared → Prop} {E : Value → Shared → Prop} {l : Addr} {vs : List Value} {zs : List Int} {rest : List Stmt}
    (B : Below callerA h₀ [] h₀) (F : Fr h₀ L s.heap m) (X : (hd.heap_1 w.params).In h₀) (N : News h₀ L s.heap []) (T : Top viewP lse mean mg mb h₀) (K : Keeps [(Str.ofString "script", .ref l)] m) (hl : h₀.IsList l vs.toArray) (hi : IntsAre vs zs) (hz : ¬63 < (zs.length : Int))
    (hE : PassesOwn (model prog w) (callerA.deeper (lawEnv L fa (.ref cd))) (lawEnv L fa (.ref cd)) E)
    (h : ∀ (m' : Str → Option Value) (h' : Heap) (tk' : Nat), Fr h₀ L h' m' → News h₀ L h' [] → Keeps [(Str.ofString "script", .ref l)] m' → wpAny (model prog w) (callerA.deeper (lawEnv L fa (.ref cd))) (execs rest (lawEnv L fa (.ref cd))) Q E { s with heap := h', toks := tk' }) :
    wpAny (model prog w) (callerA.deeper (lawEnv L fa (.ref cd))) (execs (loopAt i :: rest) (lawEnv L fa (.ref cd))) Q E s := by
  refine seq_cutR (Mid h₀ L l s) (C _ _ _ _ _ _ _ _ _ _ _ _ _ _ _ B F X N T K hl hi hz hE fun m' h' tk' F' N' K' => ⟨m', h', tk', rfl, F', N', K'⟩) ?_
  rintro s' ⟨m', h', tk', rfl, F', N', K'⟩
  exact h m' h' tk' F' N' K'
theorem law_body {w : World} {prog : Program} {mean : ExcName → Option Value} {mg mb : Str → Option Value} {fa cd : Addr} {h₀ : Heap} {L : Addr} {m : Str → Option Value} {s : Shared} {Q : Flow → Shared → Prop} {E : Value → Shared → Prop} {l : Addr} {vs : List Value} {zs : List Int} {rest : List Stmt}
    (B : Below callerA h₀ [] h₀) (F : Fr h₀ L s.heap m) (X : (hd.heap_1 w.params).In h₀) (N : News h₀ L s.heap []) (T : Top viewP lse mean mg mb h₀) (K : Keeps [(Str.ofString "script", .ref l)] m) (hl : h₀.IsList l vs.toArray) (hi : IntsAre vs zs) (hz : ¬63 < (zs.length : Int))
    (hE : PassesOwn (model prog w) (callerA.deeper (lawEnv L fa (.ref cd))) (lawEnv L fa (.ref cd)) E)
    (h : ∀ (m' : Str → Option Value) (h' : Heap) (tk' : Nat), Fr h₀ L h' m' → News h₀ L h' [] → Keeps [(Str.ofString "script", .ref l)] m' → wpAny (model prog w) (callerA.deeper (lawEnv L fa (.ref cd))) (execs rest (lawEnv L fa (.ref cd))) Q E { s with heap := h', toks := tk' }) :
    wpAny (model prog w) (callerA.deeper (lawEnv L fa (.ref cd))) (execs (loopAt 0 :: loopAt 1 :: loopAt 2 :: loopAt 3 :: loopAt 4 :: loopAt 5 :: loopAt 6 :: rest) (lawEnv L fa (.ref cd))) Q E s :=
  loop_cut (loop1 w) B F X N T K hl hi hz hE fun _ _ _ F N K =>
  loop_cut (loop2 w) B F X N T K hl hi hz hE fun _ _ _ F N K =>
  loop_cut (loop3 w) B F X N T K hl hi hz hE fun _ _ _ F N K =>
  loop_cut (loop4 w) B F X N T K hl hi hz hE fun _ _ _ F N K =>
  loop_cut (loop5 w) B F X N T K hl hi hz hE fun _ _ _ F N K =>
  loop_cut (loop6 w) B F X N T K hl hi hz hE fun _ _ _ F N K =>
  loop_cut (loop7 w) B F X N T K hl hi hz hE fun _ _ _ F N K => h _ _ _ F N K
-- in the one file the kit's k_qdec would make a twin of the whole program's text (4 MB)
local macro_rules | `(tactic| k_qdec) => `(tactic| kernel_rfl)
theorem top_test : PySem.Challenge.rw_np0130_01.Holds := hd (by
  w_top off
  k_go0
  all_goals (try k_fold)
  refine law_body (by assumption) (by assumption) (by assumption) (by assumption) (by assumption) (Keeps.of (by kst_all)) (by assumption) (by assumption) (by assumption) (by passes_own) ?_
  intro m' h' tk' F' N' K'
  k_steps

  skip)
end
end Mine
theorem PySem.Challenge.cw_np0130_01_holds : PySem.Challenge.rw_np0130_01.Holds :=
  Mine.top_test
