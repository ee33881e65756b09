import PyProof.Rows.All
import Wide.All
import OpenK.AllK
import Wide.FinOn
import PySem.Challenge.RW_no0354_01
set_option Elab.async false
local macro_rules | `(tactic| walk_at $s:str) => `(tactic| k_extra $s)
section
open PySem PySem.W PyProof.Rows
namespace Mine
set_option maxRecDepth 100000
set_option maxHeartbeats 8000000
/-- the statements at these places -/
def keepAt (ks : List Nat) (l : List Stmt) : List Stmt := ks.filterMap fun i => l[i]?
/-- the text without its four `__name__` rows -/
def view : Program := { PySem.Challenge.pw_no0354_01 with main := { PySem.Challenge.pw_no0354_01.main with body := keepAt [1, 2, 4, 5, 7, 8, 9, 10, 11, 12, 13, 14, 15, 16, 17, 18, 19, 20, 21, 22, 23, 24, 25, 27, 28, 29, 30, 31, 32, 33, 34] PySem.Challenge.pw_no0354_01.main.body } }
local macro_rules | `(tactic| o_head $H:term) => `(tactic| (refine holds_open (q := Mine.view) (loose := [Str.ofString "PostError", Str.ofString "MOST_ZONE"]) (Xt := fun s => xlAt Mine.view [(Str.ofString "MOST_ZONE", WData.int 5999)] s && recOk (RowW.records (OpenRow.toRowW PySem.Challenge.rw_no0354_01.row)) s) (XP := XL Mine.view [(Str.ofString "MOST_ZONE", WData.int 5999)]) (Yf := Hook.obs $H) (Ya := Hook.val $H) (YP := Hook.says $H) (N := 3270) ?hl (Hook.of $H) (Hook.keeps $H) (fun s e => xl_of s (Bool.and_eq_true_iff.mp e).1) XL.keeps (by rfl) (by rfl) (by rfl) (fun s e => recFacts_of (Bool.and_eq_true_iff.mp e).2) (by rfl) (by first | assumption | decide +kernel) (by decide +kernel) ⟨rfl, rfl, rfl, rfl, rfl, by decide +kernel⟩ ?hw ?hc; (case hl => (unfold LeftO; intro w; kernel_rfl!))))
open_top hd for PySem.Challenge.rw_no0354_01
end Mine
end
section
open PySem PySem.W PyProof.Rows
namespace Mine
theorem fresh_C0 : True := by
  w_top off
  k_with_none
  trivial
set_option maxRecDepth 100000

noncomputable abbrev LS : List Str := looseW view [Str.ofString "PostError", Str.ofString "MOST_ZONE"]

/-- what a call of the def at f does, from any frame: dn frames and un' units of room, the ledger ahead, the arguments, what comes back and the ledger behind -/
def Says (w : World) (mean : ExcName → Option Value) (mg mb : Str → Option Value) (f : Addr) (dn du : Nat) (news : List (Addr × Obj)) (vs : List Value) (Ret : Value → List (Addr × Obj) → Prop) : Prop :=
  ∀ (dp un : Nat) (gd : Option (List Code)) (cn : Str) (cs : Scope) (a : Addr) (ccd : Value) (cl : List (Str × Addr)) (outer : List Env) (A₀ : Around) (base h₀ : Heap) (L : Addr) (m : Str → Option Value) (s : Shared) (Q E : Value → Shared → Prop),
    Below A₀ base outer h₀ → Fr h₀ L s.heap m → (hd.heap_39 w.params).In h₀ → News h₀ L s.heap news → Top view LS mean mg mb h₀ → cs.kind = .function → dp + dn < recursionLimit → un + du < cLine →
    (∀ r news' h' tk', Ret r news' → Fr h₀ L h' m → News h₀ L h' news' → Q r { s with heap := h', toks := tk' }) →
    wpAny (model PySem.Challenge.rw_no0354_01.row.prog w) (ktrTop dp un gd cn cs L a ccd cl outer) (call (.ref f) vs) Q E s

section
variable {w : World} {mean : ExcName → Option Value} {mg mb : Str → Option Value} {f : Addr} {dn du : Nat} {news : List (Addr × Obj)} {vs : List Value} {Ret : Value → List (Addr × Obj) → Prop}
theorem Says.use {dp un : Nat} {gd : Option (List Code)} {cn : Str} {cs : Scope} {a : Addr} {ccd : Value} {cl : List (Str × Addr)} {outer : List Env} {A₀ : Around} {base h₀ : Heap} {L : Addr} {m : Str → Option Value} {s : Shared} {Q E : Value → Shared → Prop}
    (B : Below A₀ base outer h₀) (F : Fr h₀ L s.heap m) (X : (hd.heap_39 w.params).In h₀) (N : News h₀ L s.heap news) (T : Top view LS mean mg mb h₀) (hk : cs.kind = .function)
    (C : Says w mean mg mb f dn du news vs Ret) (hd : dp + dn < recursionLimit) (hu : un + du < cLine)
    (ret : ∀ r news' h' tk', Ret r news' → Fr h₀ L h' m → News h₀ L h' news' → Q r { s with heap := h', toks := tk' }) :
    wpAny (model PySem.Challenge.rw_no0354_01.row.prog w) (ktrTop dp un gd cn cs L a ccd cl outer) (call (.ref f) vs) Q E s :=
  C _ _ _ _ _ _ _ _ _ _ _ _ _ _ _ _ _ B F X N T hk hd hu ret
theorem Says.useB {news : List (Addr × Obj)} {vs : List Value} {v : Bool} {dp un : Nat} {gd : Option (List Code)} {cn : Str} {cs : Scope} {a : Addr} {ccd : Value} {cl : List (Str × Addr)} {outer : List Env} {A₀ : Around} {base h₀ : Heap} {L : Addr} {m : Str → Option Value} {s : Shared} {Q E : Value → Shared → Prop}
    (B : Below A₀ base outer h₀) (F : Fr h₀ L s.heap m) (X : (hd.heap_39 w.params).In h₀) (N : News h₀ L s.heap news) (T : Top view LS mean mg mb h₀) (hk : cs.kind = .function)
    (C : Says w mean mg mb f dn du news vs (fun r n' => n' = news ∧ r = .bool v)) (hd : dp + dn < recursionLimit) (hu : un + du < cLine)
    (ret : ∀ h' tk', Fr h₀ L h' m → News h₀ L h' news → Q (.bool v) { s with heap := h', toks := tk' }) :
    wpAny (model PySem.Challenge.rw_no0354_01.row.prog w) (ktrTop dp un gd cn cs L a ccd cl outer) (call (.ref f) vs) Q E s :=
  Says.use B F X N T hk C hd hu fun r n' h' tk' hR F' N' => by
    obtain ⟨rfl, hr⟩ := hR
    subst hr
    exact ret h' tk' F' N'
theorem Says.useN {news : List (Addr × Obj)} {vs : List Value}  {dp un : Nat} {gd : Option (List Code)} {cn : Str} {cs : Scope} {a : Addr} {ccd : Value} {cl : List (Str × Addr)} {outer : List Env} {A₀ : Around} {base h₀ : Heap} {L : Addr} {m : Str → Option Value} {s : Shared} {Q E : Value → Shared → Prop}
    (B : Below A₀ base outer h₀) (F : Fr h₀ L s.heap m) (X : (hd.heap_39 w.params).In h₀) (N : News h₀ L s.heap news) (T : Top view LS mean mg mb h₀) (hk : cs.kind = .function)
    (C : Says w mean mg mb f dn du news vs (fun r n' => n' = news ∧ r = .none)) (hd : dp + dn < recursionLimit) (hu : un + du < cLine)
    (ret : ∀ h' tk', Fr h₀ L h' m → News h₀ L h' news → Q (.none) { s with heap := h', toks := tk' }) :
    wpAny (model PySem.Challenge.rw_no0354_01.row.prog w) (ktrTop dp un gd cn cs L a ccd cl outer) (call (.ref f) vs) Q E s :=
  Says.use B F X N T hk C hd hu fun r n' h' tk' hR F' N' => by
    obtain ⟨rfl, hr⟩ := hR
    subst hr
    exact ret h' tk' F' N'
theorem Says.useI {news : List (Addr × Obj)} {vs : List Value} {v : Int} {dp un : Nat} {gd : Option (List Code)} {cn : Str} {cs : Scope} {a : Addr} {ccd : Value} {cl : List (Str × Addr)} {outer : List Env} {A₀ : Around} {base h₀ : Heap} {L : Addr} {m : Str → Option Value} {s : Shared} {Q E : Value → Shared → Prop}
    (B : Below A₀ base outer h₀) (F : Fr h₀ L s.heap m) (X : (hd.heap_39 w.params).In h₀) (N : News h₀ L s.heap news) (T : Top view LS mean mg mb h₀) (hk : cs.kind = .function)
    (C : Says w mean mg mb f dn du news vs (fun r n' => n' = news ∧ ∃ t, r = .int v t)) (hd : dp + dn < recursionLimit) (hu : un + du < cLine)
    (ret : ∀ t h' tk', Fr h₀ L h' m → News h₀ L h' news → Q (.int v t) { s with heap := h', toks := tk' }) :
    wpAny (model PySem.Challenge.rw_no0354_01.row.prog w) (ktrTop dp un gd cn cs L a ccd cl outer) (call (.ref f) vs) Q E s :=
  Says.use B F X N T hk C hd hu fun r n' h' tk' hR F' N' => by
    obtain ⟨rfl, hr⟩ := hR
    obtain ⟨t, rfl⟩ := hr
    exact ret t h' tk' F' N'
theorem Says.useS {news : List (Addr × Obj)} {vs : List Value} {v : Str} {dp un : Nat} {gd : Option (List Code)} {cn : Str} {cs : Scope} {a : Addr} {ccd : Value} {cl : List (Str × Addr)} {outer : List Env} {A₀ : Around} {base h₀ : Heap} {L : Addr} {m : Str → Option Value} {s : Shared} {Q E : Value → Shared → Prop}
    (B : Below A₀ base outer h₀) (F : Fr h₀ L s.heap m) (X : (hd.heap_39 w.params).In h₀) (N : News h₀ L s.heap news) (T : Top view LS mean mg mb h₀) (hk : cs.kind = .function)
    (C : Says w mean mg mb f dn du news vs (fun r n' => n' = news ∧ ∃ t, r = .str v t)) (hd : dp + dn < recursionLimit) (hu : un + du < cLine)
    (ret : ∀ t h' tk', Fr h₀ L h' m → News h₀ L h' news → Q (.str v t) { s with heap := h', toks := tk' }) :
    wpAny (model PySem.Challenge.rw_no0354_01.row.prog w) (ktrTop dp un gd cn cs L a ccd cl outer) (call (.ref f) vs) Q E s :=
  Says.use B F X N T hk C hd hu fun r n' h' tk' hR F' N' => by
    obtain ⟨rfl, hr⟩ := hR
    obtain ⟨t, rfl⟩ := hr
    exact ret t h' tk' F' N'
end
end Mine
end
section
open PySem PySem.W PySem.Calls PySem.Spec PyProof.Rows PyProof.V
namespace Mine
theorem fresh_C1 : True := by
  w_top off
  k_with_none
  trivial
set_option maxRecDepth 100000
set_option maxHeartbeats 4000000

def isFig (c : Nat) : Bool := decide (48 ≤ c) && decide (c ≤ 57)
def figs (x : Str) : Bool := (x != Str.ofString "") && x.cps.toList.all isFig

/-- a text that the contracts speak of: short, of real signs -/
def okT (x : Str) : Prop := x.length ≤ 100 ∧ ∀ c ∈ x.cps.toList, c < 1114112

theorem strs_canLay : ∀ xs : List Str, (∀ z ∈ xs, PyData.strOk z = true) → PyData.canLayAll0 (xs.map PyData.str) = true
  | [], _ => rfl
  | x :: r, h => by simp [PyData.canLayAll0, PyData.canLay0, strs_canLay r fun z hz => h z (.tail _ hz), h x (.head _)]
theorem strs_depth : ∀ xs : List Str, PyData.depthAll (xs.map PyData.str) = 0
  | [] => rfl
  | _ :: r => by simp [PyData.depthAll, PyData.depth, strs_depth r]
theorem strs_shaped (xs : List Str) (h : ∀ z ∈ xs, PyData.strOk z = true) : SeqAt.shaped (.list (xs.map PyData.str)) = true := by
  simp [SeqAt.shaped, PyData.canLay0, PyData.depth, strs_canLay xs h, strs_depth]
theorem strs_eq_nil (xs : List Str) : PyData.eqv (.list (xs.map PyData.str)) (.list []) = xs.isEmpty := by
  cases xs <;> simp [PyData.eqv, PyData.eqvAll]

section
variable {prog : Program} {w : World} {A : Around} {E : Value → Shared → Prop} {s : Shared} {a b : Addr} {xs : List Value} {zs : List Str} {Q : Value → Shared → Prop}
theorem eq_strs_nil (ha : s.heap.IsList a xs.toArray) (hb : s.heap.IsList b #[]) (hi : CarriedAll xs (zs.map PyData.str)) (hz : ∀ z ∈ zs, PyData.strOk z = true) (hu : A.units + 64 < cLine) (h : Q (.bool zs.isEmpty) s) :
    wpAny (model prog w) A (compareOp .Eq (.ref a) (.ref b)) Q E s := by
  have rb : Reads s.heap (.ref b) (.list []) [b] := reads_newData (ys := []) hb .nil
  exact eq_dataH (reads_newData ha hi) rb (strs_shaped _ hz) rfl hu (by rw [strs_eq_nil]; exact h)
theorem ne_strs_nil (ha : s.heap.IsList a xs.toArray) (hb : s.heap.IsList b #[]) (hi : CarriedAll xs (zs.map PyData.str)) (hz : ∀ z ∈ zs, PyData.strOk z = true) (hu : A.units + 64 < cLine) (h : Q (.bool (!zs.isEmpty)) s) :
    wpAny (model prog w) A (compareOp .NotEq (.ref a) (.ref b)) Q E s := by
  have rb : Reads s.heap (.ref b) (.list []) [b] := reads_newData (ys := []) hb .nil
  exact ne_dataH (reads_newData ha hi) rb (strs_shaped _ hz) rfl hu (by rw [strs_eq_nil]; exact h)
end
theorem sign_ok {x : Str} (hx : okT x) {p : Str → Bool} : ∀ z ∈ (signs x).filter p, PyData.strOk z = true := by
  intro z hz
  obtain ⟨c, hc, rfl⟩ := List.mem_map.mp (List.mem_filter.mp hz).1
  have := hx.2 c hc
  simp [PyData.strOk, this]

theorem figs_filter (x : Str) : (List.filter (fun a => if (!decide (a.cps.toList < (Str.cps (Str.ofString "0")).toList)) = true then !!decide ((Str.cps (Str.ofString "9")).toList < a.cps.toList) else !false) (signs x)).isEmpty = x.cps.toList.all isFig := by
  have e0 : (Str.cps (Str.ofString "0")).toList = [48] := by decide +kernel
  have e9 : (Str.cps (Str.ofString "9")).toList = [57] := by decide +kernel
  rw [e0, e9]
  unfold signs
  generalize x.cps.toList = l
  induction l with
  | nil => rfl
  | cons c r ih =>
    have q1 : ([c] < [48]) ↔ c < 48 := by simp [List.cons_lt_cons_iff]
    have q2 : ([57] < [c]) ↔ 57 < c := by simp [List.cons_lt_cons_iff]
    rw [List.map_cons, List.filter_cons, List.all_cons, ← ih]
    simp only [q1, q2, isFig]
    by_cases h1 : c < 48 <;> by_cases h2 : 57 < c
    · simp [h1]; omega
    · simp [h1]; omega
    · simp [h1, h2]; omega
    · simp [h1, h2]
      intro _
      omega

theorem lay_C1_1 : True := by
  k_with_none
  k_with "compareOp Eq ref ref" => (k_here; k_dflt (refine' eq_strs_nil ?aQ9 ?bQ9 ?iQ9 ?zQ9 ?uQ9 ?_; (case aQ9 => is_list); (case bQ9 => is_list); (case iQ9 => assumption); (case zQ9 => exact sign_ok (by assumption)); (case uQ9 => ke_room)))
  trivial

theorem c_is_figures {w : World} {mean : ExcName → Option Value} {mg mb : Str → Option Value} (news : List (Addr × Obj)) (x : Str) (t : Tok) (hx : okT x) :
    Says w mean mg mb 159 2 100 news [.str x t] (fun r n' => n' = news ∧ r = .bool (figs x)) := by
  unfold Says
  k_fill
  intro dp un gd cn cs a ccd cl outer A₀ base h₀ L m s Q E B F X N T hk hd hu hret
  refine wpAny_call ?_
  have hx1 : x.length ≤ 100 := hx.1
  k_dflt cell_enter
  k_steps
  · refine hret _ news _ _ ?R ?F ?N
    case R => exact ⟨rfl, congrArg Value.bool (by rw [figs_filter]; unfold figs; simp [*])⟩
    case F => k_asm
    case N => refine' cb_drop ?cN ?cS; (case cN => k_asm); (case cS => kcj_all)
  · refine hret _ news _ _ ?R ?F ?N
    case R => exact ⟨rfl, congrArg Value.bool (by unfold figs; simp [*])⟩
    case F => k_asm
    case N => k_asm
end Mine
end
section
open PySem PySem.W PySem.Calls PySem.Spec PyProof.Rows PyProof.V
namespace Mine
theorem fresh_C2 : True := by
  w_top off
  k_with_none
  trivial
set_option maxRecDepth 100000
set_option maxHeartbeats 4000000

def leapB (y : Int) : Bool := decide (y.fmod 4 = 0 ∧ (y.fmod 100 ≠ 0 ∨ y.fmod 400 = 0))
def mlen (y m : Int) : Int := if m = 2 then (if leapB y then 29 else 28) else if m = 4 ∨ m = 6 ∨ m = 9 ∨ m = 11 then 30 else 31
def dayOk (y m d : Int) : Bool := decide (1 ≤ y ∧ y ≤ 9999 ∧ 1 ≤ m ∧ m ≤ 12 ∧ 1 ≤ d ∧ d ≤ mlen y m)
def timeOk (h m s : Int) : Bool := decide (0 ≤ h ∧ h ≤ 23 ∧ 0 ≤ m ∧ m ≤ 59 ∧ 0 ≤ s ∧ s ≤ 60)
theorem fmod400 {y : Int} (h : y.fmod 400 = 0) : y.fmod 4 = 0 := by
  rw [Int.fmod_eq_emod_of_nonneg _ (by decide)] at *
  omega
theorem mlen_pos (y m : Int) : 28 ≤ mlen y m ∧ mlen y m ≤ 31 := by
  unfold mlen
  (repeat' split) <;> omega

theorem c_is_leap {w : World} {mean : ExcName → Option Value} {mg mb : Str → Option Value} (news : List (Addr × Obj)) (y : Int) (t : Tok) (h0 : 0 ≤ y) (h1 : y ≤ 9999) :
    Says w mean mg mb 102 2 100 news [.int y t] (fun r n' => n' = news ∧ r = .bool (leapB y)) := by
  unfold Says
  k_fill
  intro dp un gd cn cs a ccd cl outer A₀ base h₀ L m s Q E B F X N T hk hd hu hret
  refine wpAny_call ?_
  k_dflt cell_enter
  k_steps
  all_goals (refine hret _ news _ _ ?R ?F ?N; (case R => exact ⟨rfl, congrArg Value.bool (by unfold leapB; (try simp_all); first | done | rfl)⟩); (case F => k_asm); (case N => first | k_asm | (refine' cb_drop ?cN ?cS; (case cN => k_asm); (case cS => kcj_all))))

theorem lay_C2_1 : True := by
  k_with_none
  k_with "eval Call" => (k_here; (with_reducible show wpAny _ _ (eval (Expr.Call (Expr.Name (Str.ofString "is_leap") _) _ [] _) _) _ _ _); (fail_if_success (goal_has PyProof.Rows.SeqLeaf)); refine Call_ ?_)
  k_with "call ref" => (k_here; (with_reducible show wpAny _ _ (call (Value.ref 102) _) _ _ _); k_dflt (refine' Says.useB ?uBQ9 ?uFQ9 ?uXQ9 ?uNQ9 ?uTQ9 ?ukQ9 (c_is_leap _ _ _ ?p1Q9 ?p2Q9) ?udQ9 ?uuQ9 ?_; (case uBQ9 => k_asm); (case uFQ9 => k_asm); (case uXQ9 => k_asm); (case uNQ9 => k_asm); (case uTQ9 => k_asm); (case ukQ9 => first | exact rfl | assumption); (case p1Q9 => assumption); (case p2Q9 => assumption); (case udQ9 => ktr_room); (case uuQ9 => ktr_units)); (intro h9 tk9 F9 N9); (try dsimp only); (try k_sweep); (try k_fold))
  trivial
theorem c_month_length {w : World} {mean : ExcName → Option Value} {mg mb : Str → Option Value} (news : List (Addr × Obj)) (y m' : Int) (t u : Tok) (h0 : 0 ≤ y) (h1 : y ≤ 9999) :
    Says w mean mg mb 109 4 110 news [.int y t, .int m' u] (fun r n' => n' = news ∧ ∃ t, r = .int (mlen y m') t) := by
  unfold Says
  k_fill
  intro dp un gd cn cs a ccd cl outer A₀ base h₀ L m s Q E B F X N T hk hd hu hret
  refine wpAny_call ?_
  k_dflt cell_enter
  k_steps
  all_goals (refine hret _ news _ _ ?R ?F ?N; (case R => exact ⟨rfl, _, congrArg (Value.int · _) (by unfold mlen; (try simp only [List.any_cons, List.any_nil, Bool.or_false, Bool.or_eq_true, Bool.or_eq_false_iff, beq_iff_eq, beq_eq_false_iff_ne, ne_eq] at *); (repeat' split) <;> first | rfl | omega | simp_all)⟩); (case F => k_asm); (case N => first | k_asm | (refine' cb_drop ?cN ?cS; (case cN => k_asm); (case cS => kcj_all))))

theorem c_law_length {w : World} {mean : ExcName → Option Value} {mg mb : Str → Option Value} (news : List (Addr × Obj)) (y m' : Int) (t u : Tok) (h0 : 0 ≤ y) (h1 : y ≤ 9999) :
    Says w mean mg mb 212 4 110 news [.int y t, .int m' u] (fun r n' => n' = news ∧ ∃ t, r = .int (mlen y m') t) := by
  unfold Says
  k_fill
  intro dp un gd cn cs a ccd cl outer A₀ base h₀ L m s Q E B F X N T hk hd hu hret
  refine wpAny_call ?_
  k_dflt cell_enter
  k_steps
  all_goals (refine hret _ news _ _ ?R ?F ?N; (case R => exact ⟨rfl, _, congrArg (Value.int · _) (by have q4 := @fmod400 y; unfold mlen leapB; (try simp only [List.any_cons, List.any_nil, Bool.or_false, Bool.or_eq_true, Bool.or_eq_false_iff, beq_iff_eq, beq_eq_false_iff_ne, ne_eq] at *); (repeat' split) <;> first | rfl | omega | simp_all)⟩); (case F => k_asm); (case N => first | k_asm | (refine' cb_drop ?cN ?cS; (case cN => k_asm); (case cS => kcj_all))))

theorem c_is_time {w : World} {mean : ExcName → Option Value} {mg mb : Str → Option Value} (news : List (Addr × Obj)) (y m' d : Int) (t u v : Tok) :
    Says w mean mg mb 123 2 100 news [.int y t, .int m' u, .int d v] (fun r n' => n' = news ∧ r = .bool (timeOk y m' d)) := by
  unfold Says
  k_fill
  intro dp un gd cn cs a ccd cl outer A₀ base h₀ L m s Q E B F X N T hk hd hu hret
  refine wpAny_call ?_
  k_dflt cell_enter
  k_steps
  all_goals (refine hret _ news _ _ ?R ?F ?N; (case R => exact ⟨rfl, congrArg Value.bool (by unfold timeOk; (try simp_all); first | done | rfl | omega)⟩); (case F => k_asm); (case N => first | k_asm | (refine' cb_drop ?cN ?cS; (case cN => k_asm); (case cS => kcj_all))))

theorem lay_C2_2 : True := by
  k_with "eval Call" => (k_here; (with_reducible show wpAny _ _ (eval (Expr.Call (Expr.Name (Str.ofString "month_length") _) _ [] _) _) _ _ _); (fail_if_success (goal_has PyProof.Rows.SeqLeaf)); refine Call_ ?_)
  k_with "call ref" => (k_here; (with_reducible show wpAny _ _ (call (Value.ref 109) _) _ _ _); k_dflt (refine' Says.useI ?uBQ9 ?uFQ9 ?uXQ9 ?uNQ9 ?uTQ9 ?ukQ9 (c_month_length _ _ _ _ _ ?p1Q9 ?p2Q9) ?udQ9 ?uuQ9 ?_; (case uBQ9 => k_asm); (case uFQ9 => k_asm); (case uXQ9 => k_asm); (case uNQ9 => k_asm); (case uTQ9 => k_asm); (case ukQ9 => first | exact rfl | assumption); (case p1Q9 => omega); (case p2Q9 => omega); (case udQ9 => ktr_room); (case uuQ9 => ktr_units)); (intro t9 h9 tk9 F9 N9); (try dsimp only); (try k_sweep); (try k_fold))
  trivial
theorem c_is_day {w : World} {mean : ExcName → Option Value} {mg mb : Str → Option Value} (news : List (Addr × Obj)) (y m' d : Int) (t u v : Tok) :
    Says w mean mg mb 116 6 120 news [.int y t, .int m' u, .int d v] (fun r n' => n' = news ∧ r = .bool (dayOk y m' d)) := by
  unfold Says
  k_fill
  intro dp un gd cn cs a ccd cl outer A₀ base h₀ L m s Q E B F X N T hk hd hu hret
  refine wpAny_call ?_
  k_dflt cell_enter
  k_steps
  all_goals (refine hret _ news _ _ ?R ?F ?N; (case R => exact ⟨rfl, congrArg Value.bool (by unfold dayOk; (try simp_all); first | done | rfl | omega)⟩); (case F => k_asm); (case N => first | k_asm | (refine' cb_drop ?cN ?cS; (case cN => k_asm); (case cS => kcj_all))))

end Mine
end
section
open PySem PySem.W PySem.Calls PySem.Spec PyProof.Rows PyProof.V
namespace Mine
theorem fresh_L1 : True := by
  w_top off
  k_with_none
  trivial
set_option maxRecDepth 100000
set_option maxHeartbeats 4000000

/-- item by item -/
inductive Are {β : Type} (Out : β → Value → Prop) : List Value → List β → Prop where
  | nil : Are Out [] []
  | cons {v : Value} {b : β} {vs : List Value} {bs : List β} : Out b v → Are Out vs bs → Are Out (v :: vs) (b :: bs)
theorem Are.snoc {β : Type} {Out : β → Value → Prop} {v : Value} {b : β} (h : Out b v) : ∀ {vs : List Value} {bs : List β}, Are Out vs bs → Are Out (vs ++ [v]) (bs ++ [b])
  | _, _, .nil => .cons h .nil
  | _, _, .cons q r => .cons q (r.snoc h)
abbrev IsS (x : Str) (v : Value) : Prop := ∃ t : Tok, v = .str x t
abbrev IsI (i : Int) (v : Value) : Prop := ∃ t : Tok, v = .int i t
theorem Are.strs : ∀ {vs : List Value} {bs : List Str}, Are IsS vs bs → StrsAre vs bs
  | _, _, .nil => .nil
  | _, _, .cons ⟨t, e⟩ r => by subst e; exact .cons _ t r.strs
theorem Are.ints : ∀ {vs : List Value} {bs : List Int}, Are IsI vs bs → IntsAre vs bs
  | _, _, .nil => .nil
  | _, _, .cons ⟨t, e⟩ r => by subst e; exact .cons _ t r.ints

section
variable {prog : Program} {w : World} {A : Around} {E : Value → Shared → Prop} {s : Shared} {h₀ : Heap} {L : Addr} {m : Str → Option Value} {env : Env}

/-- a comprehension's source: what is asked of the iterator that the iterable gives, and the turns -/
def SrcG (prog : Program) (w : World) (A : Around) (h₀ : Heap) (L : Addr) (m : Str → Option Value) (env : Env) (elt : Expr) (x : Str) (scope : Scope) (cl : List (Str × Addr)) (Fin : Shared → List Value → List (Addr × Obj) → Prop) (xv : Value) (s₁ : Shared) : Prop :=
  ∃ (o : Obj) (n : Nat) (fp : List Addr) (P : Nat → Value → Prop) (St : Nat → Heap → Prop) (S : List (Addr × Obj) → Prop) (news : List (Addr × Obj)),
    (∀ (Q E : Value → Shared → Prop), Q (.ref s₁.heap.objs.size) { s₁ with heap := s₁.heap.push o } → wpAny (model prog w) A (pyIter xv) Q E s₁) ∧
    Walks prog w A s₁.heap.objs.size fp [s₁.heap.objs.size] n P St ∧ n ≤ sizeLine ∧ (∀ i h, St i h → ∃ o, h.get? s₁.heap.objs.size = some o) ∧
    (∀ i h h' o nw, St i h → h.get? s₁.heap.objs.size = some o → h'.get? s₁.heap.objs.size = some o → (∀ b o, h₀.get? b = some o → h'.get? b = some o) → News h₀ L h' nw → S nw → St i h') ∧
    St 0 (s₁.heap.push o) ∧ (∀ b ∈ fp, b < s₁.heap.objs.size + 1) ∧ Fr h₀ L s₁.heap m ∧ News h₀ L s₁.heap news ∧ S news ∧
    ∀ s₂ : Shared, (∃ h, s₂ = { s₁ with heap := h }) → LCg.CompRest prog w A h₀ L m env elt x scope cl s₂ S P (Fin s₂) n 0 [] news

theorem iter_st {I : Addr} {T : String} {y : Str} {t : Tok} : ∀ i (h h' : Heap) (o : Obj) (nw : List (Addr × Obj)), h.IsStrIter I T y t i → h.get? I = some o → h'.get? I = some o → (∀ b o, h₀.get? b = some o → h'.get? b = some o) → News h₀ L h' nw → True → h'.IsStrIter I T y t i :=
  fun i h h' o nw st e e' _ _ _ => by
    obtain ⟨o', ho, r⟩ := st
    rw [e] at ho
    cases ho
    exact ⟨o, e', r⟩

theorem SrcG.str {elt : Expr} {x : Str} {scope : Scope} {cl : List (Str × Addr)} {Fin : Shared → List Value → List (Addr × Obj) → Prop} {y : Str} {t : Tok} {news : List (Addr × Obj)} {s₁ : Shared}
    (hh : A.handled = none) (F : Fr h₀ L s₁.heap m) (N : News h₀ L s₁.heap news) (hsz : y.length ≤ sizeLine)
    (h : ∀ g, LCg.CompRest prog w A h₀ L m env elt x scope cl { s₁ with heap := g } (fun _ => True) (SignAt y) (Fin { s₁ with heap := g }) y.cps.size 0 [] news) :
    SrcG prog w A h₀ L m env elt x scope cl Fin (.str y t) s₁ := by
  cases ha : y.cps.all (· < 128)
  · exact ⟨{ cls := .type "str_iterator", data := .fields #[.str y t, .int 0 0] }, _, _, _, _, fun _ => True, news, fun Q E hq => wpAny_pyIter_wide ha hq, Walks.strWide hh s₁.heap.objs.size y t, hsz,
      fun i h st => by obtain ⟨o, e, _⟩ := st; exact ⟨o, e⟩, iter_st, ⟨_, Heap.get?_push_size _ rfl, rfl, rfl⟩, fun b hb => by rw [List.mem_singleton.mp hb]; exact Nat.lt_succ_self _, F, N, trivial, fun s₂ ⟨g, e⟩ => e ▸ h g⟩
  · exact ⟨{ cls := .type "str_ascii_iterator", data := .fields #[.str y t, .int 0 0] }, _, _, _, _, fun _ => True, news, fun Q E hq => wpAny_pyIter_ascii ha hq, Walks.strAscii hh s₁.heap.objs.size y t, hsz,
      fun i h st => by obtain ⟨o, e, _⟩ := st; exact ⟨o, e⟩, iter_st, ⟨_, Heap.get?_push_size _ rfl, rfl, rfl⟩, fun b hb => by rw [List.mem_singleton.mp hb]; exact Nat.lt_succ_self _, F, N, trivial, fun s₂ ⟨g, e⟩ => e ▸ h g⟩

def TupAt (h₀ : Heap) (ax : Addr) (its : Array Value) (news : List (Addr × Obj)) : Prop := h₀.IsTuple ax its ∨ ∃ o, (ax, o) ∈ news ∧ o.cls = .type "tuple" ∧ ∃ n, o.data = .seq its n
theorem TupAt.tup {h : Heap} {ax : Addr} {its : Array Value} {news : List (Addr × Obj)} (x : TupAt h₀ ax its news) (k : ∀ b o, h₀.get? b = some o → h.get? b = some o) (N : News h₀ L h news) : h.IsTuple ax its := by
  rcases x with ⟨o, e, r⟩ | ⟨o, hm, r⟩
  · exact ⟨o, k _ _ e, r⟩
  · exact ⟨o, (N _ hm).1, r⟩

theorem SrcG.tuple {elt : Expr} {x : Str} {scope : Scope} {cl : List (Str × Addr)} {Fin : Shared → List Value → List (Addr × Obj) → Prop} {ax : Addr} {its : Array Value} {news : List (Addr × Obj)} {s₁ : Shared}
    (hh : A.handled = none) (F : Fr h₀ L s₁.heap m) (N : News h₀ L s₁.heap news) (T : TupAt h₀ ax its news) (hsz : its.size ≤ sizeLine)
    (h : ∀ g, LCg.CompRest prog w A h₀ L m env elt x scope cl { s₁ with heap := g } (TupAt h₀ ax its) (fun i v => its[i]? = some v) (Fin { s₁ with heap := g }) its.size 0 [] news) :
    SrcG prog w A h₀ L m env elt x scope cl Fin (.ref ax) s₁ := by
  have hl := T.tup F.keep N
  have hlt : ax < s₁.heap.objs.size := by obtain ⟨_, e, _⟩ := hl; exact Heap.lt_size e
  have hl' : (s₁.heap.push { cls := .type "tuple_iterator", data := .fields #[.ref ax, .int 0 0] }).IsTuple ax its := hl.at fun o e => Heap.get?_push_of_some _ e
  refine ⟨_, _, _, _, _, TupAt h₀ ax its, news, fun Q E hq => wpAny_pyIter_tuple hl hq, Walks.tuple hh s₁.heap.objs.size ax (Nat.ne_of_lt hlt) its, hsz, fun i h st => by obtain ⟨o, e, _⟩ := st.1; exact ⟨o, e⟩,
    fun i h h' o nw st e e' k N' S' => ⟨?_, S'.tup k N'⟩, ⟨⟨_, Heap.get?_push_size _ rfl, rfl, rfl⟩, hl'⟩, fun b hb => ?_, F, N, T, fun s₂ ⟨g, e⟩ => e ▸ h g⟩
  · exact st.1.at fun o' ho => by rw [e] at ho; cases ho; exact e'
  · rcases List.mem_cons.mp hb with rfl | hb
    · exact Nat.lt_succ_self _
    · rw [List.mem_singleton.mp hb]; exact Nat.lt_succ_of_lt hlt

theorem ListComp_G {elt iter : Expr} {x : Str} {px : Pos} {scope : Scope} {cl : List (Str × Addr)} {pos : Pos} {Q : Value → Shared → Prop} (_F₀ : Fr h₀ L s.heap m)
    (hclos : closureFor scope env = pure cl) (hcell : ∀ y ∈ scope.names, y.2 ≠ .cell) (hkind : scope.kind = .function)
    (hnames : ∀ y ∈ scope.names, y.2 = .local → scope.names.lookup y.1 = some .local) (hx : scope.names.lookup x = some .local)
    (h : wpAny (model prog w) A (eval iter env) (SrcG prog w A h₀ L m env elt x scope cl (fun s₂ => LCg.FinE h₀ L m s₂ Q)) E s)
    (hs : ∀ x, foldedSetIterable iter env x = pure x := by intro _; rfl) :
    wpAny (model prog w) A (eval (.ListComp elt [⟨.Name x px, iter, [], 0⟩] scope pos) env) Q E s := by
  rw [eval_ListComp]
  refine wpAny_comprehension_free (use := none) rfl hs hclos hkind hnames (wpAny_mono h (fun xv s₁ h₁ => ?_) fun _ _ e => e)
  obtain ⟨o, n, fp, P, St, S, news, hit, W, hsz, hIo, hSt, st0, hfp, F, N, hS, R⟩ := h₁
  refine hit _ _ ?_
  refine LCg.block_U W hsz hIo hSt hcell hkind hx st0 (fun b hb => ?_)
    (F.keeps fun _ _ e => Heap.get?_push_of_some _ e) (N.grown fun _ _ e => Heap.get?_push_of_some _ e) (Nat.ne_of_lt F.ns.lt) (next_is_new F) (fun p hp => Nat.ne_of_lt (Heap.lt_size (N p hp).1)) hS (R _ ⟨_, rfl⟩) ?_
  · show b < (s₁.heap.push _).objs.size
    rw [Heap.size_push]; exact hfp b hb
  · intro D C h tk m' ys news' F' N' o1 hn hC₀ hD₀ hCL hDL hCD offC fin
    refine ⟨m', hn, fun h'' hs'' => fin D h'' tk (F'.change hs'' hCL hC₀) (fun p hp => ?_) o1⟩
    refine ⟨hs''.extBut _ _ ?_ (N' p hp).1, (N' p hp).2⟩
    rcases List.mem_cons.mp hp with rfl | hp
    · exact Ne.symm hCD
    · exact offC p hp

theorem Assign_ListComp_G {elt iter : Expr} {x y : Str} {px py : Pos} {scope : Scope} {cl : List (Str × Addr)} {pos spos : Pos} {Q : Flow → Shared → Prop} (_F₀ : Fr h₀ L s.heap m) (hLe : env.locals = L)
    (hsw : swapsWith (.ListComp elt [⟨.Name x px, iter, [], 0⟩] scope pos) (some (.Name y py)) spos.line env = pure true)
    (hclos : closureFor scope env = pure cl) (hcell : ∀ z ∈ scope.names, z.2 ≠ .cell) (hkind : scope.kind = .function)
    (hnames : ∀ z ∈ scope.names, z.2 = .local → scope.names.lookup z.1 = some .local) (hx : scope.names.lookup x = some .local)
    (hy : env.kindOf y = some .local) (hp : (env.scope.kind == .class || (env.scope.kind == .module && env.locals != env.globals)) = false)
    (h : wpAny (model prog w) A (eval iter env) (SrcG prog w A h₀ L m env elt x scope cl (fun s₂ => LCg.FinA h₀ L m s₂ y Q)) E s)
    (hs : ∀ x, foldedSetIterable iter env x = pure x := by intro _; rfl) :
    wpAny (model prog w) A (exec (.Assign [.Name y py] (.ListComp elt [⟨.Name x px, iter, [], 0⟩] scope pos) spos) env) Q E s := by
  subst hLe
  rw [exec_Assign_Name_used _ _ _ _ hsw]
  refine wpAny_bind (wpAny_standAt (wpAny_bind ?_))
  show wpAny _ A (do let _ ← comprehension (.ListComp elt [⟨.Name x px, iter, [], 0⟩] scope pos) scope env _ (newList []) false (eval iter env) (some (assign (.Name y py) env))) _ _ s
  refine wpAny_bind (wpAny_mono (wpAny_comprehension_free (use := some (assign (.Name y py) env)) (Q := fun _ s' => Q .next s') rfl hs hclos hkind hnames
    (wpAny_mono h (fun xv s₁ h₁ => ?_) fun _ _ e => e)) (fun _ s' hq => wpAny_pure (wpAny_pure hq)) fun _ _ e => e)
  obtain ⟨o, n, fp, P, St, S, news, hit, W, hsz, hIo, hSt, st0, hfp, F, N, hS, R⟩ := h₁
  refine hit _ _ ?_
  refine LCg.block_U W hsz hIo hSt hcell hkind hx st0 (fun b hb => ?_)
    (F.keeps fun _ _ e => Heap.get?_push_of_some _ e) (N.grown fun _ _ e => Heap.get?_push_of_some _ e) (Nat.ne_of_lt F.ns.lt) (next_is_new F) (fun p hp => Nat.ne_of_lt (Heap.lt_size (N p hp).1)) hS (R _ ⟨_, rfl⟩) ?_
  · show b < (s₁.heap.push _).objs.size
    rw [Heap.size_push]; exact hfp b hb
  · intro D C h' tk m' ys news' F' N' o1 hn hC₀ hD₀ hCL hDL hCD offC fin
    show wpAny _ A (assign (.Name y py) env (.ref D)) _ _ _
    refine wpAny_assign_Name (wpAny_storeName_local hy F'.ns (fun h₂ hn₂ hs₂ => ?_) hp)
    have hL₀ : h₀.get? env.locals = none := Heap.get?_none_of_le F'.above
    have F₂ : Fr h₀ env.locals h₂ (fun z => if z = y then some (.ref D) else m z) := ⟨hn₂, fun b o e => hs₂.extBut b o (fun q => by rw [q, hL₀] at e; cases e) (F'.keep b o e), F'.above⟩
    refine ⟨m', hn.sameBut hs₂ hCL, fun h'' hs'' => fin D h'' _ (F₂.change hs'' hCL hC₀) (fun p hp => ?_) o1⟩
    have z : h₂.get? p.1 = some p.2 := hs₂.extBut _ _ (N' p hp).2.1 (N' p hp).1
    refine ⟨hs''.extBut _ _ ?_ z, (N' p hp).2⟩
    rcases List.mem_cons.mp hp with rfl | hp
    · exact Ne.symm hCD
    · exact offC p hp

/-- the turns of a comprehension without a test, item by item -/
theorem rest_gen {α β : Type} {elt : Expr} {x : Str} {scope : Scope} {cl : List (Str × Addr)} {S : List (Addr × Obj) → Prop} {P : Nat → Value → Prop} {Fin : List Value → List (Addr × Obj) → Prop} {news : List (Addr × Obj)} {n : Nat}
    (In : α → Value → Prop) (Out : β → Value → Prop) (xs : List α) (g : α → β) (hn : n = xs.length) (hP : ∀ i v, P i v → ∃ a, xs[i]? = some a ∧ In a v)
    (turn : ∀ a v I oI C oC D m₂ ys h tk (E' : Value → Shared → Prop), a ∈ xs → In a v → LCg.NsObj oC m₂ → m₂ x = some v → Fr h₀ L h m → News h₀ L h ((I, oI) :: (C, oC) :: (D, LCg.lst ys) :: news) → LCg.Off3 I C D news → ((@Ne Nat I C) ∧ (@Ne Nat I D) ∧ (@Ne Nat C D)) →
      wpAny (model prog w) A (eval elt (compEnvC scope cl C env)) (LCg.CompEnd h₀ L m { s with heap := h, toks := tk } I oI C oC D (LCg.lst ys) S (fun y news' => news' = news ∧ Out (g a) y)) E' { s with heap := h, toks := tk })
    (fin : ∀ ys, Are Out ys (xs.map g) → Fin ys news) : LCg.CompRest prog w A h₀ L m env elt x scope cl s S P Fin n 0 [] news := by
  have key : ∀ (j i : Nat) (ys : List Value), i + j = xs.length → Are Out ys ((xs.take i).map g) → LCg.CompRest prog w A h₀ L m env elt x scope cl s S P Fin j i ys news := by
    intro j
    induction j with
    | zero =>
      intro i ys hi hy
      obtain rfl : i = xs.length := by omega
      rw [List.take_length] at hy
      exact LCg.CompRest.zero (fin ys hy)
    | succ j ih =>
      intro i ys hi hy
      refine LCg.CompRest.succ ?_
      intro v I oI C oC D m₂ h tk E' hv hC hx F N off ne
      obtain ⟨a, ha, hin⟩ := hP i v hv
      refine wpAny_mono (turn a v I oI C oC D m₂ ys h tk E' (List.mem_of_getElem? ha) hin hC hx F N off ne) (fun r s₂ hq => ?_) fun _ _ e => e
      obtain ⟨h', tk', nw, e, F', N', off', hS, rfl, hout⟩ := hq
      refine ⟨h', tk', _, e, F', N', off', hS, ?_⟩
      refine ih (i + 1) _ (by omega) ?_
      rw [List.take_add_one, ha]
      simpa using hy.snoc hout
  rw [hn]
  exact key _ 0 [] (by omega) (by simp only [List.take_zero, List.map_nil]; exact .nil)
end
end Mine
end
section
open PySem PySem.W PySem.Calls PySem.Spec PyProof.Rows PyProof.V
namespace Mine
theorem fresh_C3 : True := by
  w_top off
  k_with_none
  trivial
set_option maxRecDepth 100000
set_option maxHeartbeats 4000000

def lowc (c : Nat) : Nat := if 65 ≤ c ∧ c ≤ 90 then c + 32 else c
def lowT (x : Str) : Str := ⟨(x.cps.toList.map lowc).toArray⟩
theorem lowc_le {c : Nat} (h : c < 1114112) : lowc c ≤ 1114111 := by unfold lowc; split <;> omega
theorem ofEmpty : Str.ofString "" = ⟨#[]⟩ := by decide +kernel
theorem join_signs (l : List Nat) : Txt.join (Str.ofString "") (l.map fun c => (⟨#[c]⟩ : Str)) = ⟨l.toArray⟩ := by
  unfold Txt.join
  rw [StrLaws.glued_eq_join, ofEmpty]
  induction l with
  | nil => rfl
  | cons c r ih =>
    cases r with
    | nil => rfl
    | cons d r =>
      show (⟨#[c]⟩ : Str) ++ ⟨#[]⟩ ++ Str.join ⟨#[]⟩ ((⟨#[d]⟩ : Str) :: r.map fun c => ⟨#[c]⟩) = _
      rw [show Str.join ⟨#[]⟩ ((⟨#[d]⟩ : Str) :: r.map fun c => ⟨#[c]⟩) = ⟨(d :: r).toArray⟩ from ih]
      refine PySem.Str.ext' ?_
      show (#[c] ++ #[] ++ (d :: r).toArray : Array Nat) = _
      simp
theorem join_low (x : Str) : Txt.join (Str.ofString "") ((signs x).map lowT) = lowT x := by
  have := join_signs (x.cps.toList.map lowc)
  rw [List.map_map] at this
  unfold signs
  rw [List.map_map]
  exact this
theorem sum_ones : ∀ (l : List Nat), (((l.map fun c => (⟨#[c]⟩ : Str)).map lowT).map (·.length)).sum = l.length
  | [] => rfl
  | c :: r => by
    rw [List.map_cons, List.map_cons, List.map_cons, List.sum_cons, sum_ones r]
    show 1 + r.length = (c :: r).length
    simp; omega
theorem c_lower_code {w : World} {mean : ExcName → Option Value} {mg mb : Str → Option Value} (news : List (Addr × Obj)) (c : Nat) (t : Tok) :
    Says w mean mg mb 61 2 100 news [.int (c : Int) t] (fun r n' => n' = news ∧ ∃ t, r = .int ((lowc c : Nat) : Int) t) := by
  unfold Says
  k_fill
  intro dp un gd cn cs a ccd cl outer A₀ base h₀ L m s Q E B F X N T hk hd hu hret
  refine wpAny_call ?_
  k_dflt cell_enter
  k_steps
  all_goals (refine hret _ news _ _ ?R ?F ?N; (case R => exact ⟨rfl, _, congrArg (Value.int · _) (by unfold lowc; split <;> omega)⟩); (case F => k_asm); (case N => first | k_asm | (refine' cb_drop ?cN ?cS; (case cN => k_asm); (case cS => kcj_all))))

theorem lay_C3_1 : True := by
  k_with_none
  k_with "eval Call" => (k_here; (with_reducible show wpAny _ _ (eval (Expr.Call (Expr.Name (Str.ofString "lower_code") _) _ [] _) _) _ _ _); (fail_if_success (goal_has PyProof.Rows.SeqLeaf)); refine Call_ ?_)
  k_with "call ref" => (k_here; (with_reducible show wpAny _ _ (call (Value.ref 61) _) _ _ _); k_dflt (refine' Says.useI ?uBQ9 ?uFQ9 ?uXQ9 ?uNQ9 ?uTQ9 ?ukQ9 (c_lower_code _ _ _) ?udQ9 ?uuQ9 ?_; (case uBQ9 => k_asm); (case uFQ9 => k_asm); (case uXQ9 => k_asm); (case uNQ9 => k_asm); (case uTQ9 => k_asm); (case ukQ9 => first | exact rfl | assumption);  (case udQ9 => ktr_room); (case uuQ9 => ktr_units)); (intro t9 h9 tk9 F9 N9); (try dsimp only); (try k_sweep); (try k_fold))
  k_with "eval ListComp" => (k_here; (with_reducible show wpAny _ _ (eval (Expr.ListComp (Expr.Call (Expr.Name (Str.ofString "chr") _) _ _ _) _ _ _) _) _ _ _); k_dflt (refine ListComp_G (by k_asm) (by with_unfolding_all rfl) (by decide) (by rfl) (by decide) (by rfl) ?_))
  k_with "call builtin:str.join" => (k_here; (with_reducible rename StrsAre _ _ => hst'); k_dflt (refine' join_listC ?aQ9 hst' ?bQ9 ?cQ9 ?_; (case aQ9 => is_list); (case bQ9 => decide); (case cQ9 => (unfold signs; rw [sum_ones, List.length_map, List.length_map]; simp only [Array.length_toList]; (rename _ ≤ 100 => hlen'); (simp only [Str.length] at hlen'); omega))); intro t9 k9; (try dsimp only); (try k_fold))
  trivial
theorem c_lower_text {w : World} {mean : ExcName → Option Value} {mg mb : Str → Option Value} (news : List (Addr × Obj)) (x : Str) (t : Tok) (hx : okT x) :
    Says w mean mg mb 66 4 110 news [.str x t] (fun r n' => n' = news ∧ ∃ t, r = .str (lowT x) t) := by
  have hx1 : x.length ≤ 100 := hx.1
  unfold Says
  k_fill
  intro dp un gd cn cs a ccd cl outer A₀ base h₀ L m s Q E B F X N T hk hd hu hret
  refine wpAny_call ?_
  k_dflt cell_enter
  k_steps
  refine SrcG.str rfl (by k_asm) (by k_asm) (by rw [sizeLine_eq]; omega) ?_
  intro g2
  refine rest_gen IsS IsS (signs x) lowT (by simp [signs]) ?hP ?turn ?fin
  case hP =>
    rintro i v ⟨c, u, hc, rfl⟩
    exact ⟨⟨#[c]⟩, by rw [← Array.getElem?_toList] at hc; simp [signs, hc], u, rfl⟩
  case turn =>
    rintro a v I oI C oC D m₂ ys h tk E' ha ⟨t, rfl⟩ hC hmx F9 N9 off ne
    obtain ⟨c, hc, rfl⟩ := List.mem_map.mp ha
    have hcl := lowc_le (hx.2 c hc)
    k_steps
    change wpAny _ _ (call (Value.builtin "chr") [Value.int ((lowc c : Nat) : Int) _]) _ _ _
    k_steps
    refine' LCg.CompEnd.intro ?eF ?eN news (fun p hp => hp) off ?eS ?eR
    case eF => assumption
    case eN => assumption
    case eS => first | exact .inl g2 | exact g2 | trivial | rfl
    case eR => exact ⟨rfl, _, rfl⟩
  case fin =>
    intro ys hys
    replace hys := hys.strs
    unfold LCg.FinE
    intro D h tk F9 N9 o1
    k_steps
    refine hret _ news _ _ ?R ?F ?N
    case R => exact ⟨rfl, _, congrArg (Value.str · _) (join_low x)⟩
    case F => k_asm
    case N => refine' cb_drop ?cN ?cS; (case cN => k_asm); (case cS => kcj_all)

end Mine
end
section
open PySem PySem.W PySem.Calls PySem.Spec PyProof.Rows PyProof.V
namespace Mine
theorem fresh_C4 : True := by
  w_top off
  k_with_none
  trivial
set_option maxRecDepth 100000
set_option maxHeartbeats 4000000

def monthsS : List Str := [Str.ofString "Jan", Str.ofString "Feb", Str.ofString "Mar", Str.ofString "Apr", Str.ofString "May", Str.ofString "Jun", Str.ofString "Jul", Str.ofString "Aug", Str.ofString "Sep", Str.ofString "Oct", Str.ofString "Nov", Str.ofString "Dec"]
theorem months_ok : ∀ a ∈ monthsS, okT a := by
  unfold okT
  decide +kernel
theorem are_at {α : Type} {In : α → Value → Prop} : ∀ {vs : List Value} {xs : List α}, Are In vs xs → ∀ {i : Nat} {v : Value}, vs[i]? = some v → ∃ a, xs[i]? = some a ∧ In a v
  | _, _, .nil, _, _, h => by simp at h
  | _, _, .cons q r, i, v, h => by
    cases i with
    | zero => simp at h; subst h; exact ⟨_, rfl, q⟩
    | succ i => simp at h; simpa using are_at r h
theorem are_len {α : Type} {In : α → Value → Prop} : ∀ {vs : List Value} {xs : List α}, Are In vs xs → vs.length = xs.length
  | _, _, .nil => rfl
  | _, _, .cons _ r => by simp [are_len r]
theorem tup67 {P : Params} {h : Heap} (X : (hd.heap_39 P).In h) : ∃ vs, h.IsTuple 67 vs.toArray ∧ Are IsS vs monthsS := by
  have e : (hd.heap_39 P).lookup 67 = some _ := rfl
  refine ⟨_, ⟨_, X _ _ e, rfl, _, rfl⟩, ?_⟩
  unfold monthsS
  repeat (first | exact .nil | refine .cons ⟨_, rfl⟩ ?_)

def isKey (k : Str) : Value → Bool
  | .str y _ => y == k
  | _ => false
theorem isKey_at (k : Str) : ∀ {vs : List Value} {ss : List Str}, StrsAre vs ss → ∀ (j : Nat) (h1 : j < vs.length) (h2 : j < ss.length), isKey k vs[j] = (ss[j] == k)
  | _, _, .nil, j, h1, _ => absurd h1 (Nat.not_lt_zero _)
  | _, _, .cons y t r, 0, _, _ => rfl
  | _, _, .cons y t r, j + 1, h1, h2 => isKey_at k r j (by simpa using h1) (by simpa using h2)
theorem isKey_eq (k : Str) (u : Tok) : ∀ {vs : List Value} {ss : List Str}, StrsAre vs ss → ∀ y ∈ vs, MeetsSeq.EqGives y (.str k u) (isKey k y)
  | _, _, .nil, y, h => nomatch h
  | _, _, .cons a t r, y, h => by
    rcases List.mem_cons.mp h with rfl | h
    · exact eqGives_str a k t u
    · exact isKey_eq k u r y h
theorem index_strs {prog : Program} {w : World} {A : Around} {E : Value → Shared → Prop} {s : Shared} {l : Addr} {vs : List Value} {ss : List Str} {k : Str} {t : Tok} {Q : Value → Shared → Prop} (hl : s.heap.IsList l vs.toArray) (hi : StrsAre vs ss)
    (hb : ss.length ≤ 1000) (hk : k ∈ ss) (h : Q (.int (ss.idxOf k : Nat) s.toks) { s with toks := s.toks + 1 }) :
    wpAny (model prog w) A (call (.builtin "list.index") [.ref l, .str k t]) Q E s := by
  obtain ⟨⟨cls, dd, data, sl⟩, ho, hc, n, hd⟩ := id hl
  simp only at hc hd
  subst hc hd
  have hlen := StrsAre.length hi
  have hj : ss.idxOf k < ss.length := List.idxOf_lt_length_iff.mpr hk
  refine call_meets PySem.F.slot_list_index ⟨_, ho, rfl⟩ PySem.F.entry_list_index (PySem.F.args_list_index_2 _ _)
    (PySem.SeqAt.list_indexAt l vs.toArray n dd sl (.str k t) (isKey k) (ss.idxOf k) (by simpa [hlen] using hj) (by omega) ?_ ?_) ⟨ho, fun y hy => (isKey_eq k t hi y (by simpa using hy)).at _ _, h⟩
  · show isKey k vs[ss.idxOf k] = true
    rw [isKey_at k hi _ (by omega) hj]
    simp
  · intro j hjs hlt
    show isKey k vs[j] = false
    have hj2 : j < vs.length := by simpa using hjs
    rw [isKey_at k hi j hj2 (by omega)]
    have := List.not_of_lt_findIdx (p := fun y => y == k) (xs := ss) (i := j) hlt
    simpa using this
def monthNo (x : Str) : Int := if lowT x ∈ monthsS.map lowT then ((monthsS.map lowT).idxOf (lowT x) : Nat) + 1 else 0
theorem monthNo_le (x : Str) : 0 ≤ monthNo x ∧ monthNo x ≤ 12 := by
  unfold monthNo
  split
  · rename_i h
    have := List.idxOf_lt_length_iff.mpr h
    have e : (monthsS.map lowT).length = 12 := by simp [monthsS]
    omega
  · omega
theorem lay_C4_1 : True := by
  k_with_none
  k_with "call builtin:list.index" => (k_here; (with_reducible show wpAny _ _ (call (Value.builtin "list.index") [Value.ref _, Value.str _ _]) _ _ _); k_dflt (refine' index_strs ?aQ9 ?bQ9 ?cQ9 ?dQ9 ?_; (case aQ9 => is_list); (case bQ9 => assumption); (case cQ9 => (simp [monthsS]; done)); (case dQ9 => simp_all)))
  k_with "eval Call" => (k_here; (with_reducible show wpAny _ _ (eval (Expr.Call (Expr.Name (Str.ofString "lower_text") _) _ [] _) _) _ _ _); (fail_if_success (goal_has PyProof.Rows.SeqLeaf)); refine Call_ ?_)
  k_with "call ref" => (k_here; (with_reducible show wpAny _ _ (call (Value.ref 66) _) _ _ _); k_dflt (refine' Says.useS ?uBQ9 ?uFQ9 ?uXQ9 ?uNQ9 ?uTQ9 ?ukQ9 (c_lower_text _ _ _ ?p1Q9) ?udQ9 ?uuQ9 ?_; (case uBQ9 => k_asm); (case uFQ9 => k_asm); (case uXQ9 => k_asm); (case uNQ9 => k_asm); (case uTQ9 => k_asm); (case ukQ9 => first | exact rfl | assumption); (case p1Q9 => first | assumption | exact months_ok _ (by assumption)); (case udQ9 => ktr_room); (case uuQ9 => ktr_units)); (intro t9 h9 tk9 F9 N9); (try dsimp only); (try k_sweep); (try k_fold))
  k_with "exec Assign cons ListComp" => (k_here; (with_reducible show wpAny _ _ (exec (Stmt.Assign _ (Expr.ListComp (Expr.Call (Expr.Name (Str.ofString "lower_text") _) _ _ _) _ _ _) _) _) _ _ _); k_dflt (refine Assign_ListComp_G (by k_asm) (by rfl) (by with_unfolding_all rfl) (by with_unfolding_all rfl) (by decide) (by rfl) (by decide) (by rfl) (by rfl) (by rfl) ?_))
  trivial
theorem c_month_number {w : World} {mean : ExcName → Option Value} {mg mb : Str → Option Value} (news : List (Addr × Obj)) (x : Str) (t : Tok) (hx : okT x) :
    Says w mean mg mb 135 6 120 news [.str x t] (fun r n' => n' = news ∧ ∃ t, r = .int (monthNo x) t) := by
  have hx1 : x.length ≤ 100 := hx.1
  unfold Says
  k_fill
  intro dp un gd cn cs a ccd cl outer A₀ base h₀ L m s Q E B F X N T hk hd hu hret
  refine wpAny_call ?_
  k_dflt cell_enter
  k_steps
  obtain ⟨vs, ht, hi⟩ := tup67 (P := w.params) (by assumption)
  refine SrcG.tuple rfl (by k_asm) (by k_asm) (.inl ht) (by rw [sizeLine_eq, List.size_toArray, are_len hi]; decide) ?_
  intro g2
  refine rest_gen IsS IsS monthsS lowT (by rw [List.size_toArray, are_len hi]) ?hP ?turn ?fin
  case hP =>
    intro i v hv
    exact are_at hi (by simpa using hv)
  case turn =>
    rintro a v I oI C oC D m₂ ys h tk E' ha ⟨t, rfl⟩ hC hmx F9 N9 off ne
    k_steps
    refine' LCg.CompEnd.intro ?eF ?eN news (fun p hp => hp) off ?eS ?eR
    case eF => assumption
    case eN => assumption
    case eS => exact .inl ht
    case eR => exact ⟨rfl, _, rfl⟩
  case fin =>
    intro ys hys
    replace hys := hys.strs
    unfold LCg.FinA
    intro D h tk F9 N9 o1
    k_steps
    all_goals (refine hret _ news _ _ ?R ?F ?N; (case F => k_asm); (case N => (refine' cb_drop ?cN ?cS; (case cN => k_asm); (case cS => kcj_all))); (case R => exact ⟨rfl, _, congrArg (Value.int · _) (by unfold monthNo; simp_all)⟩))

end Mine
end
section
open PySem PySem.W PySem.Calls PySem.Spec PyProof.Rows PyProof.V
namespace Mine
theorem fresh_P1 : True := by
  w_top off
  k_with_none
  trivial
set_option maxRecDepth 100000
set_option maxHeartbeats 4000000

def dig1 (n : Int) : Str := ⟨#[48 + n.toNat]⟩
def dig2 (n : Int) : Str := ⟨#[48 + n.toNat / 10, 48 + n.toNat % 10]⟩
def dig4 (n : Int) : Str := ⟨#[48 + n.toNat / 1000, 48 + n.toNat / 100 % 10, 48 + n.toNat / 10 % 10, 48 + n.toNat % 10]⟩

theorem digitChar_nat : ∀ {k : Nat}, k < 10 → (Nat.digitChar k).toNat = 48 + k := by
  intro k hk
  have : ∀ k : Fin 10, (Nat.digitChar k.val).toNat = 48 + k.val := by decide
  exact this ⟨k, hk⟩
theorem text_nat (n : Nat) : Str.ofString (toString (n : Int)) = ⟨((Nat.toDigits 10 n).map Char.toNat).toArray⟩ := by
  rw [Str.ofString_eq_toList]
  show (⟨((String.ofList (Nat.toDigits 10 n)).toList.map Char.toNat).toArray⟩ : Str) = _
  rw [String.toList_ofList]
theorem digs1 {n : Nat} (h : n < 10) : (Nat.toDigits 10 n).map Char.toNat = [48 + n] := by
  rw [Nat.toDigits_of_lt_base h]
  simp [digitChar_nat h]
theorem digsS {n : Nat} (h : 10 ≤ n) : (Nat.toDigits 10 n).map Char.toNat = (Nat.toDigits 10 (n / 10)).map Char.toNat ++ [48 + n % 10] := by
  rw [Nat.toDigits_of_base_le (by decide) h, List.map_append]
  simp [digitChar_nat (Nat.mod_lt n (show 0 < 10 by decide))]
theorem text1 {n : Nat} (h : n < 10) : Str.ofString (toString (n : Int)) = ⟨#[48 + n]⟩ := by rw [text_nat, digs1 h]
theorem text2 {n : Nat} (h : 10 ≤ n) (h' : n < 100) : Str.ofString (toString (n : Int)) = ⟨#[48 + n / 10, 48 + n % 10]⟩ := by rw [text_nat, digsS h, digs1 (by omega)]; rfl
theorem text3 {n : Nat} (h : 100 ≤ n) (h' : n < 1000) : Str.ofString (toString (n : Int)) = ⟨#[48 + n / 100, 48 + n / 10 % 10, 48 + n % 10]⟩ := by
  rw [text_nat, digsS (by omega), digsS (by omega), digs1 (by omega), Nat.div_div_eq_div_mul]; rfl
theorem text4 {n : Nat} (h : 1000 ≤ n) (h' : n < 10000) : Str.ofString (toString (n : Int)) = ⟨#[48 + n / 1000, 48 + n / 100 % 10, 48 + n / 10 % 10, 48 + n % 10]⟩ := by
  rw [text_nat, digsS (by omega), digsS (by omega), digsS (by omega), digs1 (by omega)]
  simp only [Nat.div_div_eq_div_mul]
  rfl
theorem mul0 : Txt.mul (Str.ofString "0") 0 = ⟨#[]⟩ := by decide +kernel
theorem mul1 : Txt.mul (Str.ofString "0") 1 = ⟨#[48]⟩ := by decide +kernel
theorem mul2 : Txt.mul (Str.ofString "0") 2 = ⟨#[48, 48]⟩ := by decide +kernel
theorem mul3 : Txt.mul (Str.ofString "0") 3 = ⟨#[48, 48, 48]⟩ := by decide +kernel
theorem cat_cps (a b : List Nat) : (⟨a.toArray⟩ : Str) ++ ⟨b.toArray⟩ = ⟨(a ++ b).toArray⟩ := by
  refine PySem.Str.ext' ?_
  show a.toArray ++ b.toArray = _
  simp

theorem pad2 {n : Int} (h0 : 0 ≤ n) (h1 : n ≤ 99) : Txt.mul (Str.ofString "0") (2 - ((Str.ofString (toString n)).length : Int)) ++ Str.ofString (toString n) = dig2 n := by
  obtain ⟨k, rfl⟩ := Int.eq_ofNat_of_zero_le h0
  unfold dig2
  by_cases h : k < 10
  · rw [text1 h, show ((2 : Int) - (((⟨#[48 + k]⟩ : Str).length : Nat) : Int)) = 1 from rfl, mul1, cat_cps [48] [48 + k]]
    simp
    omega
  · rw [text2 (by omega) (by omega), show ((2 : Int) - (((⟨#[48 + k / 10, 48 + k % 10]⟩ : Str).length : Nat) : Int)) = 0 from rfl, mul0, cat_cps [] [48 + k / 10, 48 + k % 10]]
    simp
theorem pad4 {n : Int} (h0 : 0 ≤ n) (h1 : n ≤ 9999) : Txt.mul (Str.ofString "0") (4 - ((Str.ofString (toString n)).length : Int)) ++ Str.ofString (toString n) = dig4 n := by
  obtain ⟨k, rfl⟩ := Int.eq_ofNat_of_zero_le h0
  unfold dig4
  by_cases h : k < 10
  · rw [text1 h, show ((4 : Int) - (((⟨#[48 + k]⟩ : Str).length : Nat) : Int)) = 3 from rfl, mul3, cat_cps [48, 48, 48] [48 + k]]
    simp
    omega
  by_cases h : k < 100
  · rw [text2 (by omega) (by omega), show ((4 : Int) - (((⟨#[48 + k / 10, 48 + k % 10]⟩ : Str).length : Nat) : Int)) = 2 from rfl, mul2, cat_cps [48, 48] [48 + k / 10, 48 + k % 10]]
    simp
    omega
  by_cases h : k < 1000
  · rw [text3 (by omega) (by omega), show ((4 : Int) - (((⟨#[48 + k / 100, 48 + k / 10 % 10, 48 + k % 10]⟩ : Str).length : Nat) : Int)) = 1 from rfl, mul1, cat_cps [48] [48 + k / 100, 48 + k / 10 % 10, 48 + k % 10]]
    simp
    omega
  · rw [text4 (by omega) (by omega), show ((4 : Int) - (((⟨#[48 + k / 1000, 48 + k / 100 % 10, 48 + k / 10 % 10, 48 + k % 10]⟩ : Str).length : Nat) : Int)) = 0 from rfl, mul0, cat_cps [] [48 + k / 1000, 48 + k / 100 % 10, 48 + k / 10 % 10, 48 + k % 10]]
    simp
theorem two_dig {n : Int} (h0 : 0 ≤ n) (h1 : n ≤ 99) : Str.ofString (toString (n.fdiv 10)) ++ Str.ofString (toString (n.fmod 10)) = dig2 n := by
  obtain ⟨k, rfl⟩ := Int.eq_ofNat_of_zero_le h0
  have e1 : ((k : Int).fdiv 10) = ((k / 10 : Nat) : Int) := by rw [Int.fdiv_eq_ediv_of_nonneg _ (by decide)]; simp
  have e2 : ((k : Int).fmod 10) = ((k % 10 : Nat) : Int) := by rw [Int.fmod_eq_emod_of_nonneg _ (by decide)]; simp
  rw [e1, e2, text1 (by omega), text1 (by omega), cat_cps [48 + k / 10] [48 + k % 10]]
  rfl
theorem day1 {n : Int} (h0 : 0 ≤ n) (h1 : n ≤ 9) : Str.ofString (toString n) = dig1 n := by
  obtain ⟨k, rfl⟩ := Int.eq_ofNat_of_zero_le h0
  rw [text1 (by omega)]; rfl
theorem day2 {n : Int} (h0 : 10 ≤ n) (h1 : n ≤ 99) : Str.ofString (toString n) = dig2 n := by
  obtain ⟨k, rfl⟩ := Int.eq_ofNat_of_zero_le (show 0 ≤ n by omega)
  rw [text2 (by omega) (by omega)]; rfl
end Mine
end
section
open PySem PySem.W PySem.Calls PySem.Spec PyProof.Rows PyProof.V
namespace Mine
theorem fresh_C5 : True := by
  w_top off
  k_with_none
  trivial
set_option maxRecDepth 100000
set_option maxHeartbeats 4000000

/-- a bound on a text's length, in hundreds -/
def Bd (n : Nat) (x : Str) : Prop := x.length ≤ 100 * n
theorem B_app {n : Nat} {x y : Str} (h : Bd n x) (h' : Bd 1 y) : Bd (n + 1) (x ++ y) := by
  unfold Bd at *
  rw [PySem.Str.length_append]
  omega
theorem B_one {n : Nat} {x : Str} (h : x.length ≤ 100) : Bd (n + 1) x := by
  unfold Bd
  omega
theorem len2 {x y : Str} (h : Bd 40 x) (h' : Bd 40 y) : x.length + y.length ≤ sizeLine := by
  unfold Bd at *
  rw [sizeLine_eq]
  omega
theorem B_dig1 {n : Nat} (k : Int) : Bd (n + 1) (dig1 k) := B_one (Nat.le_of_ble_eq_true rfl)
theorem B_dig2 {n : Nat} (k : Int) : Bd (n + 1) (dig2 k) := B_one (Nat.le_of_ble_eq_true rfl)
theorem B_dig4 {n : Nat} (k : Int) : Bd (n + 1) (dig4 k) := B_one (Nat.le_of_ble_eq_true rfl)
theorem B_lit {n : Nat} {x : Str} (h : decide (x.length ≤ 100) = true) : Bd (n + 1) x := B_one (of_decide_eq_true h)
theorem B_int {n : Nat} {k : Int} (h0 : 0 ≤ k) (h1 : k ≤ 9999) : Bd (n + 1) (Str.ofString (toString k)) := by
  obtain ⟨j, rfl⟩ := Int.eq_ofNat_of_zero_le h0
  refine B_one ?_
  by_cases h : j < 10
  · rw [text1 h]; exact Nat.le_of_ble_eq_true rfl
  by_cases h : j < 100
  · rw [text2 (by omega) (by omega)]; exact Nat.le_of_ble_eq_true rfl
  by_cases h : j < 1000
  · rw [text3 (by omega) (by omega)]; exact Nat.le_of_ble_eq_true rfl
  · rw [text4 (by omega) (by omega)]; exact Nat.le_of_ble_eq_true rfl
theorem B_mon {n : Nat} (i : Nat) : Bd (n + 1) (monthsS.getD i Str.empty) := by
  have : ∀ a ∈ monthsS, a.length ≤ 100 := fun a ha => (months_ok a ha).1
  refine B_one ?_
  rw [List.getD_eq_getElem?_getD]
  cases h : monthsS[i]? with
  | none => exact Nat.zero_le _
  | some a => exact this a (List.mem_of_getElem? h)
def absI (z : Int) : Int := if z < 0 then -z else z
def dayT (y m d : Int) : Str := Str.ofString (toString d) ++ Str.ofString "-" ++ monthsS.getD (m - 1).toNat Str.empty ++ Str.ofString "-" ++ dig4 y
def zoneT (z : Int) : Str := (if z < 0 then Str.ofString "-" else Str.ofString "+") ++ dig2 ((absI z).fdiv 60) ++ dig2 ((absI z).fmod 60)
theorem fdiv60 {z : Int} (h0 : -5999 ≤ z) (h1 : z ≤ 5999) : (0 ≤ (if z < 0 then -z else z).fdiv 60 ∧ (if z < 0 then -z else z).fdiv 60 ≤ 99) ∧ 0 ≤ (if z < 0 then -z else z).fmod 60 ∧ (if z < 0 then -z else z).fmod 60 ≤ 59 := by
  rw [Int.fdiv_eq_ediv_of_nonneg _ (by decide), Int.fmod_eq_emod_of_nonneg _ (by decide)]
  split <;> omega
theorem B_zone {n : Nat} (z : Int) : Bd (n + 1) (zoneT z) := by
  refine B_one ?_
  unfold zoneT
  rw [PySem.Str.length_append, PySem.Str.length_append]
  have e1 : (Str.ofString "-").length = 1 := by decide +kernel
  have e2 : (Str.ofString "+").length = 1 := by decide +kernel
  show (if z < 0 then Str.ofString "-" else Str.ofString "+").length + 2 + 2 ≤ _
  split <;> omega
theorem lay_C5_1 : True := by
  k_with_none
  k_with "binaryOp Add str str" => (k_here; (with_reducible show wpAny _ _ (binaryOp Operator.Add (Value.str _ _) (Value.str _ _)) _ _ _); k_dflt (refine' PyProof.Rows.add_str ?_ ?zAddQ9; (case zAddQ9 => (refine len2 ?_ ?_ <;> (repeat (first | with_reducible refine B_app ?_ ?_ | with_reducible exact B_dig2 _ | with_reducible exact B_dig4 _ | with_reducible exact B_dig1 _ | with_reducible exact B_zone _ | ((with_reducible show Bd _ (List.getD _ _ _)); exact B_mon _) | ((with_reducible show Bd _ (Str.ofString (@toString Int _ _))); exact B_int (by omega) (by omega)) | ((with_reducible show Bd _ (Str.ofString _)); exact B_lit (by decide +kernel)) | (refine B_one ?_; omega)))))); (intro t9 k9); (try dsimp only); (try k_fold))
  trivial

theorem c_padded2 {w : World} {mean : ExcName → Option Value} {mg mb : Str → Option Value} (news : List (Addr × Obj)) (n : Int) (t u : Tok) (h0 : 0 ≤ n) (h1 : n ≤ 99) :
    Says w mean mg mb 142 2 100 news [.int n t, .int 2 u] (fun r n' => n' = news ∧ ∃ t, r = .str (dig2 n) t) := by
  unfold Says
  k_fill
  intro dp un gd cn cs a ccd cl outer A₀ base h₀ L m s Q E B F X N T hk hd hu hret
  refine wpAny_call ?_
  k_dflt cell_enter
  k_steps
  all_goals (refine hret _ news _ _ ?R ?F ?N; (case R => exact ⟨rfl, _, congrArg (Value.str · _) (pad2 h0 h1)⟩); (case F => k_asm); (case N => first | k_asm | (refine' cb_drop ?cN ?cS; (case cN => k_asm); (case cS => kcj_all))))

theorem c_padded4 {w : World} {mean : ExcName → Option Value} {mg mb : Str → Option Value} (news : List (Addr × Obj)) (n : Int) (t u : Tok) (h0 : 0 ≤ n) (h1 : n ≤ 9999) :
    Says w mean mg mb 142 2 100 news [.int n t, .int 4 u] (fun r n' => n' = news ∧ ∃ t, r = .str (dig4 n) t) := by
  unfold Says
  k_fill
  intro dp un gd cn cs a ccd cl outer A₀ base h₀ L m s Q E B F X N T hk hd hu hret
  refine wpAny_call ?_
  k_dflt cell_enter
  k_steps
  all_goals (refine hret _ news _ _ ?R ?F ?N; (case R => exact ⟨rfl, _, congrArg (Value.str · _) (pad4 h0 h1)⟩); (case F => k_asm); (case N => first | k_asm | (refine' cb_drop ?cN ?cS; (case cN => k_asm); (case cS => kcj_all))))

theorem c_law_two {w : World} {mean : ExcName → Option Value} {mg mb : Str → Option Value} (news : List (Addr × Obj)) (n : Int) (t : Tok) (h0 : 0 ≤ n) (h1 : n ≤ 99) :
    Says w mean mg mb 219 2 100 news [.int n t] (fun r n' => n' = news ∧ ∃ t, r = .str (dig2 n) t) := by
  unfold Says
  k_fill
  intro dp un gd cn cs a ccd cl outer A₀ base h₀ L m s Q E B F X N T hk hd hu hret
  refine wpAny_call ?_
  k_dflt cell_enter
  k_steps
  all_goals (refine hret _ news _ _ ?R ?F ?N; (case R => exact ⟨rfl, _, congrArg (Value.str · _) (two_dig h0 h1)⟩); (case F => k_asm); (case N => first | k_asm | (refine' cb_drop ?cN ?cS; (case cN => k_asm); (case cS => kcj_all))))

theorem lay_C5_2 : True := by
  k_with "eval Call" => (k_here; (with_reducible show wpAny _ _ (eval (Expr.Call (Expr.Name (Str.ofString "padded") _) _ [] _) _) _ _ _); (fail_if_success (goal_has PyProof.Rows.SeqLeaf)); refine Call_ ?_)
  k_with "call ref" => (k_here; (with_reducible show wpAny _ _ (call (Value.ref 142) _) _ _ _); k_dflt (refine' Says.useS ?uBQ9 ?uFQ9 ?uXQ9 ?uNQ9 ?uTQ9 ?ukQ9 (c_padded2 _ _ _ _ ?p1Q9 ?p2Q9) ?udQ9 ?uuQ9 ?_; (case uBQ9 => k_asm); (case uFQ9 => k_asm); (case uXQ9 => k_asm); (case uNQ9 => k_asm); (case uTQ9 => k_asm); (case ukQ9 => first | exact rfl | assumption); (case p1Q9 => first | omega | assumption); (case p2Q9 => first | omega | assumption); (case udQ9 => ktr_room); (case uuQ9 => ktr_units)); (intro t9 h9 tk9 F9 N9); (try dsimp only); (try k_sweep); (try k_fold))
  k_with "call ref" => (k_here; (with_reducible show wpAny _ _ (call (Value.ref 142) _) _ _ _); k_dflt (refine' Says.useS ?uBQ9 ?uFQ9 ?uXQ9 ?uNQ9 ?uTQ9 ?ukQ9 (c_padded4 _ _ _ _ ?p1Q9 ?p2Q9) ?udQ9 ?uuQ9 ?_; (case uBQ9 => k_asm); (case uFQ9 => k_asm); (case uXQ9 => k_asm); (case uNQ9 => k_asm); (case uTQ9 => k_asm); (case ukQ9 => first | exact rfl | assumption); (case p1Q9 => first | omega | assumption); (case p2Q9 => first | omega | assumption); (case udQ9 => ktr_room); (case uuQ9 => ktr_units)); (intro t9 h9 tk9 F9 N9); (try dsimp only); (try k_sweep); (try k_fold))
  trivial
theorem c_zone_text {w : World} {mean : ExcName → Option Value} {mg mb : Str → Option Value} (news : List (Addr × Obj)) (z : Int) (t : Tok) (h0 : -5999 ≤ z) (h1 : z ≤ 5999) :
    Says w mean mg mb 149 4 110 news [.int z t] (fun r n' => n' = news ∧ ∃ t, r = .str (zoneT z) t) := by
  obtain ⟨⟨q1, q2⟩, q3, q4⟩ := fdiv60 h0 h1
  unfold Says
  k_fill
  intro dp un gd cn cs a ccd cl outer A₀ base h₀ L m s Q E B F X N T hk hd hu hret
  refine wpAny_call ?_
  k_dflt cell_enter
  k_steps
  all_goals (refine hret _ news _ _ ?R ?F ?N; (case R => exact ⟨rfl, _, congrArg (Value.str · _) (by unfold zoneT absI; simp [*])⟩); (case F => k_asm); (case N => first | k_asm | (refine' cb_drop ?cN ?cS; (case cN => k_asm); (case cS => kcj_all))))

theorem c_day_text {w : World} {mean : ExcName → Option Value} {mg mb : Str → Option Value} (news : List (Addr × Obj)) (y m' d : Int) (t u v : Tok) (h0 : 1 ≤ y) (h1 : y ≤ 9999) (h2 : 1 ≤ m') (h3 : m' ≤ 12) (h4 : 1 ≤ d) (h5 : d ≤ 31) :
    Says w mean mg mb 173 4 110 news [.int y t, .int m' u, .int d v] (fun r n' => n' = news ∧ ∃ t, r = .str (dayT y m' d) t) := by
  unfold Says
  k_fill
  intro dp un gd cn cs a ccd cl outer A₀ base h₀ L m s Q E B F X N T hk hd hu hret
  refine wpAny_call ?_
  k_dflt cell_enter
  k_steps
  all_goals (refine hret _ news _ _ ?R ?F ?N; (case R => exact ⟨rfl, _, congrArg (Value.str · _) rfl⟩); (case F => k_asm); (case N => first | k_asm | (refine' cb_drop ?cN ?cS; (case cN => k_asm); (case cS => kcj_all))))

end Mine
end
section
open PySem PySem.W PySem.Calls PySem.Spec PyProof.Rows PyProof.V
namespace Mine
theorem fresh_C6 : True := by
  w_top off
  k_with_none
  trivial
set_option maxRecDepth 100000
set_option maxHeartbeats 4000000
theorem lay_C6_0 : True := by
  k_with_none
  trivial

def numI (l : List Int) : Int := l.foldl (fun (n c : Int) => 10 * n + (c - 48)) 0
def lawNum (x : Str) : Int := if figs x then numI (PySem.W.KStt.codes x) else -1
theorem dig_cps : (Str.ofString "0123456789").cps.toList = [48,49,50,51,52,53,54,55,56,57] := by decide +kernel
theorem dig_in (n : Nat) : (Builtin.Str.occurrences (Str.ofString "0123456789") ⟨#[n]⟩ 0 (Str.ofString "0123456789").length 1).isEmpty = !isFig n := by
  rw [← Bool.not_inj_iff, StrLaws.found_one, dig_cps, Bool.not_not]
  unfold isFig

  simp only [List.mem_cons, List.not_mem_nil, or_false, ← Bool.decide_and]
  exact decide_eq_decide.mpr (by omega)
theorem dig_at {n : Nat} (h : isFig n = true) : Txt.find (Str.ofString "0123456789") ⟨#[n]⟩ = (n : Int) - 48 := by
  have h' : n = 48 ∨ n = 49 ∨ n = 50 ∨ n = 51 ∨ n = 52 ∨ n = 53 ∨ n = 54 ∨ n = 55 ∨ n = 56 ∨ n = 57 := by
    simp [isFig] at h
    omega
  rcases h' with h | h | h | h | h | h | h | h | h | h <;> subst h <;> decide +kernel
theorem fig_code {n : Nat} : isFig n = true ↔ 48 ≤ (n : Int) ∧ (n : Int) ≤ 57 := by
  simp [isFig]; omega
theorem numI_snoc (l : List Int) (n : Int) : numI (l ++ [n]) = 10 * numI l + (n - 48) := by
  simp [numI]
theorem figs_codes {x : Str} : figs x = true ↔ (x != Str.ofString "") = true ∧ ∀ c ∈ PySem.W.KStt.codes x, 48 ≤ c ∧ c ≤ 57 := by
  unfold figs PySem.W.KStt.codes
  simp only [Bool.and_eq_true, List.all_eq_true, List.mem_map]
  constructor
  · rintro ⟨h1, h2⟩
    refine ⟨h1, ?_⟩
    rintro c ⟨n, hn, rfl⟩
    exact fig_code.mp (h2 n hn)
  · rintro ⟨h1, h2⟩
    exact ⟨h1, fun n hn => fig_code.mpr (h2 _ ⟨n, hn, rfl⟩)⟩
theorem num_turn {pre : List Int} {k : Nat} {n : Int} (ho : (Builtin.Str.occurrences (Str.ofString "0123456789") ⟨#[k]⟩ 0 (Str.ofString "0123456789").length 1).isEmpty = false) (h1 : n = numI pre) (h2 : ∀ c ∈ pre, 48 ≤ c ∧ c ≤ 57) :
    10 * n + Txt.find (Str.ofString "0123456789") ⟨#[k]⟩ = numI (pre ++ [(k : Int)]) ∧ ∀ c ∈ pre ++ [(k : Int)], 48 ≤ c ∧ c ≤ 57 := by
  rw [dig_in] at ho
  have hf : isFig k = true := by simpa using ho
  rw [dig_at hf, numI_snoc, h1]
  refine ⟨rfl, fun c hc => ?_⟩
  rcases List.mem_append.mp hc with h | h
  · exact h2 c h
  · rw [List.mem_singleton.mp h]
    exact fig_code.mp hf
theorem c_law_number {w : World} {mean : ExcName → Option Value} {mg mb : Str → Option Value} (news : List (Addr × Obj)) (x : Str) (t : Tok) (hx : okT x) (hx4 : x.length ≤ 4) :
    Says w mean mg mb 226 4 110 news [.str x t] (fun r n' => n' = news ∧ ∃ t, r = .int (lawNum x) t) := by
  have hx1 : x.length ≤ 100 := hx.1
  unfold Says
  k_fill
  intro dp un gd cn cs a ccd cl outer A₀ base h₀ L m s Q E B F X N T hk hd hu hret
  refine wpAny_call ?_
  k_dflt cell_enter
  (k_with "pyIter str" => k_state (fun (pre : List Int) (n : Int) => n = numI pre ∧ (∀ c ∈ pre, 48 ≤ c ∧ c ≤ 57)) "number")
  (k_with "state" => first | exact num_turn (by assumption) (by assumption) (by assumption) | exact ⟨rfl, fun c hc => nomatch hc⟩)
  k_steps
  · rename_i e
    refine hret _ news _ _ ?R ?F ?N
    case R =>
      refine ⟨rfl, _, congrArg (Value.int · _) ?_⟩
      have := dig_in kN
      unfold lawNum
      rw [if_neg]
      intro hf
      have h1 := (figs_codes.mp hf).2 kN (by rw [kEq]; simp)
      have h2 := fig_code.mpr h1
      simp_all
    case F => k_asm
    case N => first | k_asm | (refine' cb_drop ?cN ?cS; (case cN => k_asm); (case cS => kcj_all))
  · simp_all [dig_in]
  · refine hret _ news _ _ ?R ?F ?N
    case R =>
      refine ⟨rfl, _, congrArg (Value.int · _) ?_⟩
      unfold lawNum
      rw [if_pos (figs_codes.mpr ⟨by assumption, by assumption⟩)]
      assumption
    case F => k_asm
    case N => first | k_asm | (refine' cb_drop ?cN ?cS; (case cN => k_asm); (case cS => kcj_all))
  · refine hret _ news _ _ ?R ?F ?N
    case R =>
      refine ⟨rfl, _, congrArg (Value.int · _) ?_⟩
      unfold lawNum
      rw [if_neg]
      intro hf
      have h1 := (figs_codes.mp hf).1
      simp_all
    case F => k_asm
    case N => first | k_asm | (refine' cb_drop ?cN ?cS; (case cN => k_asm); (case cS => kcj_all))

end Mine
end
section
open PySem PySem.W PySem.Calls PySem.Spec PyProof.Rows PyProof.V
namespace Mine
theorem fresh_P2 : True := by
  w_top off
  k_with_none
  trivial
set_option maxRecDepth 100000
set_option maxHeartbeats 4000000

def numS (x : Str) : Int := numI (PySem.W.KStt.codes x)
/-- the text of these codes -/
abbrev T (l : List Nat) : Str := ⟨l.toArray⟩
theorem T_cps (l : List Nat) : (T l).cps.toList = l := by simp [T]
theorem eq_T (x : Str) : x = T x.cps.toList := by
  refine PySem.Str.ext' ?_
  simp [T]
theorem len_T (l : List Nat) : (T l).length = l.length := by simp [T, PySem.Str.length]
theorem len_list (x : Str) : x.cps.toList.length = x.length := by simp [PySem.Str.length]
theorem slice_ss {x : Str} {i j : Int} (h0 : 0 ≤ i) (h1 : i ≤ j) (h2 : j ≤ x.length) : Txt.slice x (some i) (some j) = T ((x.cps.toList.drop i.toNat).take (j - i).toNat) :=
  beq_iff_eq.mp (slice_closesL h0 h1 h2)
theorem slice_ns {x : Str} {j : Int} (h1 : 0 ≤ j) (h2 : j ≤ x.length) : Txt.slice x none (some j) = T (x.cps.toList.take j.toNat) := by
  have := beq_iff_eq.mp (slice_closes_toL (x := x) h1 h2)
  simpa using this
theorem slice_sn {x : Str} {i : Int} (h0 : 0 ≤ i) (h1 : i ≤ x.length) : Txt.slice x (some i) none = T (x.cps.toList.drop i.toNat) := by
  rw [slice_from_eq (b := (x.length : Int)) h0 h1 rfl, List.take_of_length_le]
  rw [List.length_drop, len_list]
  omega
theorem okT_part {x : Str} (h : okT x) {l : List Nat} (hl : l.length ≤ x.length) (hs : ∀ c ∈ l, c ∈ x.cps.toList) : okT (T l) := by
  refine ⟨?_, fun c hc => h.2 c (hs c (by simpa using hc))⟩
  rw [len_T]
  exact Nat.le_trans hl h.1
theorem okT_ss {x : Str} {i j : Int} (h : okT x) (h0 : 0 ≤ i) (h1 : i ≤ j) (h2 : j ≤ x.length) : okT (Txt.slice x (some i) (some j)) := by
  rw [slice_ss h0 h1 h2]
  refine okT_part h ?_ fun c hc => List.mem_of_mem_drop (List.mem_of_mem_take hc)
  simp [len_list]
  omega
theorem okT_sn {x : Str} {i : Int} (h : okT x) (h0 : 0 ≤ i) (h1 : i ≤ x.length) : okT (Txt.slice x (some i) none) := by
  rw [slice_sn h0 h1]
  refine okT_part h ?_ fun c hc => List.mem_of_mem_drop hc
  rw [List.length_drop, len_list]
  omega
theorem okT_ns {x : Str} {j : Int} (h : okT x) (h1 : 0 ≤ j) (h2 : j ≤ x.length) : okT (Txt.slice x none (some j)) := by
  rw [slice_ns h1 h2]
  refine okT_part h ?_ fun c hc => List.mem_of_mem_take hc
  simp [len_list]
  omega
theorem val_I (l : List Nat) (h : PySem.NumText.AllDigits l) : ∀ n : Nat, ((l.foldl (fun acc c => acc * 10 + (c - 48)) n : Nat) : Int) = (l.map fun (c : Nat) => (c : Int)).foldl (fun (n c : Int) => 10 * n + (c - 48)) n := by
  induction l with
  | nil => intro n; rfl
  | cons c r ih =>
    intro n
    have hc := h.head
    rw [List.map_cons, List.foldl_cons, List.foldl_cons, ih h.tail]
    congr 1
    omega
theorem fig_read {x : Str} (h : figs x = true) (hl : x.length ≤ 640) : PySem.intText? x = some (numS x) := by
  unfold figs at h
  rw [Bool.and_eq_true, List.all_eq_true] at h
  have hd : PySem.NumText.AllDigits x.cps.toList := fun c hc => by
    have := h.2 c hc
    simpa [isFig] using this
  have hne : x.cps.toList ≠ [] := by
    intro e
    have h1 := h.1
    rw [eq_T x, e] at h1
    revert h1
    decide +kernel
  rw [PySem.intText_digits hd hne (by omega)]
  exact congrArg some (val_I _ hd 0)
theorem figs_T (l : List Nat) : figs (T l) = (!l.isEmpty && l.all isFig) := by
  unfold figs
  rw [T_cps]
  congr 1
  cases l with
  | nil => decide +kernel
  | cons c r =>
    show ((T (c :: r)) != Str.ofString "") = true
    rw [bne_iff_ne]
    intro e
    have := congrArg PySem.Str.length e
    rw [len_T] at this
    have e0 : (Str.ofString "").length = 0 := by decide +kernel
    rw [e0] at this
    simp at this
theorem figs_sub {x : Str} {l m : List Nat} (h : figs (T l) = true) (hm : m ≠ []) (hs : ∀ c ∈ m, c ∈ l) : figs (T m) = true := by
  rw [figs_T, Bool.and_eq_true, List.all_eq_true] at h ⊢
  exact ⟨by cases m with | nil => exact absurd rfl hm | cons _ _ => rfl, fun c hc => h.2 c (hs c hc)⟩
theorem five {x : Str} (h : x.length = 5) : ∃ a b c d e, x = T [a, b, c, d, e] := by
  have hl := len_list x
  rw [h] at hl
  rw [eq_T x]
  generalize x.cps.toList = l at *
  match l, hl with
  | [a, b, c, d, e], _ => exact ⟨a, b, c, d, e, rfl⟩
theorem z_figs3 {x : Str} (h : (x.length : Int) = 5) (hf : figs (Txt.slice x (some 1) none) = true) : figs (Txt.slice x (some 3) none) = true := by
  obtain ⟨a, b, c, d, e, rfl⟩ := five (x := x) (by omega)
  rw [slice_sn (by decide) (by rw [len_T]; simp), T_cps] at *
  simp [figs_T] at *
  simp_all
theorem z_figs1 {x : Str} (h : (x.length : Int) = 5) (hf : figs (Txt.slice x (some 1) none) = true) : figs (Txt.slice x (some 1) (some 3)) = true := by
  obtain ⟨a, b, c, d, e, rfl⟩ := five (x := x) (by omega)
  rw [slice_sn (by decide) (by rw [len_T]; simp), T_cps] at hf
  rw [slice_ss (by decide) (by decide) (by rw [len_T]; simp), T_cps]
  simp [figs_T] at *
  simp_all
end Mine
end
section
open PySem PySem.W PySem.Calls PySem.Spec PyProof.Rows PyProof.V
namespace Mine
theorem fresh_C7 : True := by
  w_top off
  k_with_none
  trivial
set_option maxRecDepth 100000
set_option maxHeartbeats 4000000

def zoneIn (x : Str) : Option Int :=
  if (x.length : Int) = 5 then
    if (Builtin.Str.occurrences (Str.ofString "+-") (Txt.item x 0) 0 (Str.ofString "+-").length 1).isEmpty then none
    else if figs (Txt.slice x (some 1) none) then
      if numS (Txt.slice x (some 3) none) > 59 then none
      else if Txt.item x 0 == Str.ofString "-" then some (-(numS (Txt.slice x (some 1) (some 3)) * 60 + numS (Txt.slice x (some 3) none))) else some (numS (Txt.slice x (some 1) (some 3)) * 60 + numS (Txt.slice x (some 3) none))
    else none
  else none
def IsO (o : Option Int) (r : Value) : Prop := (o = none ∧ r = .none) ∨ ∃ v t, o = some v ∧ r = .int v t
theorem lay_C7_1 : True := by
  k_with_none
  k_with "eval Call" => (k_here; (with_reducible show wpAny _ _ (eval (Expr.Call (Expr.Name (Str.ofString "is_figures") _) _ [] _) _) _ _ _); (fail_if_success (goal_has PyProof.Rows.SeqLeaf)); refine Call_ ?_)
  k_with "call ref" => (k_here; (with_reducible show wpAny _ _ (call (Value.ref 159) _) _ _ _); k_dflt (refine' Says.useB ?uBQ9 ?uFQ9 ?uXQ9 ?uNQ9 ?uTQ9 ?ukQ9 (c_is_figures _ _ _ ?p1Q9) ?udQ9 ?uuQ9 ?_; (case uBQ9 => k_asm); (case uFQ9 => k_asm); (case uXQ9 => k_asm); (case uNQ9 => k_asm); (case uTQ9 => k_asm); (case ukQ9 => first | exact rfl | assumption); (case p1Q9 => first | assumption | exact okT_sn (by assumption) (by decide) (by omega)); (case udQ9 => ktr_room); (case uuQ9 => ktr_units)); (intro h9 tk9 F9 N9); (try dsimp only); (try k_sweep); (try k_fold))
  k_with "call type:int" => (k_here; (with_reducible show wpAny _ _ (call (Value.type "int") [Value.str _ _]) _ _ _); refine KIN.call_text (fig_read (by first | assumption | exact z_figs3 (by assumption) (by assumption) | exact z_figs1 (by assumption) (by assumption)) (by omega)) (by omega) ?_)
  trivial
theorem c_zone_in {w : World} {mean : ExcName → Option Value} {mg mb : Str → Option Value} (news : List (Addr × Obj)) (x : Str) (t : Tok) (hx : okT x) :
    Says w mean mg mb 166 4 110 news [.str x t] (fun r n' => n' = news ∧ IsO (zoneIn x) r) := by
  have hx1 : x.length ≤ 100 := hx.1
  unfold Says
  k_fill
  intro dp un gd cn cs a ccd cl outer A₀ base h₀ L m s Q E B F X N T hk hd hu hret
  refine wpAny_call ?_
  k_dflt cell_enter
  k_steps
  all_goals (refine hret _ news _ _ ?R ?F ?N; (case R => exact ⟨rfl, by first | exact .inl ⟨by (unfold zoneIn; simp [*]), rfl⟩ | exact .inr ⟨_, _, by (unfold zoneIn; simp [*]), rfl⟩⟩); (case F => k_asm); (case N => first | k_asm | (refine' cb_drop ?cN ?cS; (case cN => k_asm); (case cS => kcj_all))))

end Mine
end
section
open PySem PySem.W PySem.Calls PySem.Spec PyProof.Rows PyProof.V
namespace Mine
theorem fresh_C8 : True := by
  w_top off
  k_with_none
  trivial
set_option maxRecDepth 100000
set_option maxHeartbeats 4000000
theorem lay_C8_0 : True := by
  k_with_none
  trivial

theorem under_mk {dp un : Nat} {gd : Option (List Code)} {cn : Str} {cs : Scope} {L a : Addr} {ccd : Value} {cl : List (Str × Addr)} {outer : List Env} {c : Addr} {rest : List Value} :
    (ktrTop dp un gd cn cs L a ccd cl outer).under (.builtin "type.__call__" ⟨.ref c :: rest, []⟩) = ktrTop (dp + 1) (un + 1) gd cn cs L a ccd cl outer := by
  cases gd <;> rfl
abbrev tupO (vs : List Value) : Obj := { cls := .type "tuple", data := .seq vs.toArray }
/-- the dict of a moment -/
abbrev momD (P : Params) (y o d h i z k : Int) (u t : Nat → Tok) : Obj := dictOf [⟨PyData.keyHash P (Str.ofString "year"), .str (Str.ofString "year") (u 0), .int y (t 0)⟩, ⟨PyData.keyHash P (Str.ofString "month"), .str (Str.ofString "month") (u 1), .int o (t 1)⟩, ⟨PyData.keyHash P (Str.ofString "day"), .str (Str.ofString "day") (u 2), .int d (t 2)⟩, ⟨PyData.keyHash P (Str.ofString "hour"), .str (Str.ofString "hour") (u 3), .int h (t 3)⟩, ⟨PyData.keyHash P (Str.ofString "minute"), .str (Str.ofString "minute") (u 4), .int i (t 4)⟩, ⟨PyData.keyHash P (Str.ofString "second"), .str (Str.ofString "second") (u 5), .int z (t 5)⟩, ⟨PyData.keyHash P (Str.ofString "zone"), .str (Str.ofString "zone") (u 6), .int k (t 6)⟩] 7
theorem lt_of_all {d : Addr} (l : List (Addr × Obj)) : AllLt d l → ∀ p ∈ l, p.1 < d := by
  induction l with
  | nil => intro _ p hp; exact nomatch hp
  | cons q r ih =>
    intro h p hp
    unfold AllLt at h
    cases hp with
    | head => exact h.1
    | tail _ hp => exact ih h.2 p hp
theorem lt2 {q dq D : Addr} {o1 o2 : Obj} {l : List (Addr × Obj)} (h : q < D ∧ dq < D ∧ AllLt D l) : ∀ p ∈ (q, o1) :: (dq, o2) :: l, p.1 < D := lt_of_all ((q, o1) :: (dq, o2) :: l) (by unfold AllLt AllLt; exact h)
theorem mk_moment {w : World} {mean : ExcName → Option Value} {mg mb : Str → Option Value}
  {dp un : Nat} {gd : Option (List Code)} {cn : Str} {cs : Scope} {a : Addr} {ccd : Value} {cl : List (Str × Addr)} {outer : List Env} {A₀ : Around} {base h₀ : Heap} {L : Addr} {m : Str → Option Value} {s : Shared} {Q E : Value → Shared → Prop} {news : List (Addr × Obj)}
  {y o d h i z k : Int} {t1 t2 t3 t4 t5 t6 t7 : Tok} (B : Below A₀ base outer h₀) (F : Fr h₀ L s.heap m) (X : (hd.heap_39 w.params).In h₀) (N : News h₀ L s.heap news) (T : Top view LS mean mg mb h₀) (hk : cs.kind = .function)
    (hd : dp + 5 < recursionLimit) (hu : un + 60 < cLine)
    (hret : ∀ x dx u t h' tk', Fr h₀ L h' m → News h₀ L h' ((x, instObj 91 dx) :: (dx, momD w.params y o d h i z k u t) :: news) → (∀ p ∈ news, p.1 < dx) → dx < x → Q (.ref x) { s with heap := h', toks := tk' }) :
    wpAny (model PySem.Challenge.rw_no0354_01.row.prog w) (ktrTop dp un gd cn cs L a ccd cl outer) (call (.ref 91) [.int y t1, .int o t2, .int d t3, .int h t4, .int i t5, .int z t6, .int k t7]) Q E s := by
  revert B F X N T
  k_fill
  intro B F X N T
  k_dflt (refine' call_cls (K := Mine.hd.heap_39 w.params) ?k1 ?k2 ?k3 ?k4 ?k5 ?k6 ?_; (case k1 => k_asm); (case k2 => k_asm); (case k3 => k_asm); (case k4 => k_is); (case k5 => k_is); (case k6 => k_is); k_whole; intro x' d' h' F' N' l1 l2; (try k_lt l1); (try k_lt2 l2); (try k_sweep))
  rw [under_mk]
  k_dflt cell_enter
  k_steps
  rename_i kN _ _
  exact hret x' d' (fun n => List.getD [_, _, _, _, _, _, _] n 0) (fun n => List.getD [_, _, _, _, _, _, _] n 0) _ _ (by assumption) kN (by assumption) (by assumption)
theorem c_told {w : World} {mean : ExcName → Option Value} {mg mb : Str → Option Value} (news : List (Addr × Obj)) (y o d h i z k : Int) (u t : Nat → Tok) (q dq : Addr)  :
    Says w mean mg mb 88 2 100 ((q, instObj 91 dq) :: (dq, momD w.params y o d h i z k u t) :: news) [.ref q] (fun r n' => ∃ a, r = .ref a ∧ n' = (a, tupO [.int y (t 0), .int o (t 1), .int d (t 2), .int h (t 3), .int i (t 4), .int z (t 5), .int k (t 6)]) :: ((q, instObj 91 dq) :: (dq, momD w.params y o d h i z k u t) :: news) ∧ (∀ p ∈ ((q, instObj 91 dq) :: (dq, momD w.params y o d h i z k u t) :: news), p.1 < a)) := by
  unfold Says
  k_fill
  intro dp un gd cn cs a ccd cl outer A₀ base h₀ L m s Q E B F X N T hk hd hu hret
  refine wpAny_call ?_
  k_dflt cell_enter
  k_steps
  refine' hret _ _ _ _ ?R ?F ?N
  case F => k_asm
  case N => k_asm
  case R => exact ⟨_, rfl, rfl, lt2 (by assumption)⟩

end Mine
end
section
open PySem PySem.W PySem.Calls PySem.Spec PyProof.Rows PyProof.V
namespace Mine
theorem fresh_C9 : True := by
  w_top off
  k_with_none
  trivial
set_option maxRecDepth 100000
set_option maxHeartbeats 4000000

theorem c_is_day_t {w : World} {mean : ExcName → Option Value} {mg mb : Str → Option Value} (news : List (Addr × Obj)) (y m' d : Int) (t u v : Tok) (h : dayOk y m' d = true) :
    Says w mean mg mb 116 6 120 news [.int y t, .int m' u, .int d v] (fun r n' => n' = news ∧ r = .bool true) := h ▸ c_is_day news y m' d t u v
theorem c_is_time_t {w : World} {mean : ExcName → Option Value} {mg mb : Str → Option Value} (news : List (Addr × Obj)) (y m' d : Int) (t u v : Tok) (h : timeOk y m' d = true) :
    Says w mean mg mb 123 2 100 news [.int y t, .int m' u, .int d v] (fun r n' => n' = news ∧ r = .bool true) := h ▸ c_is_time news y m' d t u v

theorem clock3 (h i z : Int) : Txt.join (Str.ofString ":") (List.map dig2 [h, i, z]) = T [48 + h.toNat / 10, 48 + h.toNat % 10, 58, 48 + i.toNat / 10, 48 + i.toNat % 10, 58, 48 + z.toNat / 10, 48 + z.toNat % 10] := by
  rw [beq_iff_eq.mp (join_closes (sep := Str.ofString ":") (ys := List.map dig2 [h, i, z]) rfl)]
  show dig2 h ++ Str.ofString ":" ++ (dig2 i ++ Str.ofString ":" ++ dig2 z) = _
  have e : Str.ofString ":" = ⟨[58].toArray⟩ := by decide +kernel
  rw [e]
  show ((⟨[48 + h.toNat / 10, 48 + h.toNat % 10].toArray⟩ : Str) ++ ⟨[58].toArray⟩) ++ (((⟨[48 + i.toNat / 10, 48 + i.toNat % 10].toArray⟩ : Str) ++ ⟨[58].toArray⟩) ++ ⟨[48 + z.toNat / 10, 48 + z.toNat % 10].toArray⟩) = _
  rw [cat_cps, cat_cps, cat_cps, cat_cps]
  rfl
theorem B_clock {n : Nat} (h i z : Int) : Bd (n + 1) (Txt.join (Str.ofString ":") (List.map dig2 [h, i, z])) := by
  refine B_one ?_
  rw [clock3, len_T]
  exact Nat.le_of_ble_eq_true rfl
def clockT (h i z k : Int) : Str := Txt.join (Str.ofString ":") (List.map dig2 [h, i, z]) ++ Str.ofString " " ++ zoneT k
theorem time_bnd {h i z : Int} (ht : timeOk h i z = true) : 0 ≤ h ∧ h ≤ 23 ∧ 0 ≤ i ∧ i ≤ 59 ∧ 0 ≤ z ∧ z ≤ 60 := by
  unfold timeOk at ht
  exact of_decide_eq_true ht
theorem lay_C9_1 : True := by
  k_with_none
  k_with "eval Call" => (k_here; (with_reducible show wpAny _ _ (eval (Expr.Call (Expr.Name (Str.ofString "is_day") _) _ [] _) _) _ _ _); (fail_if_success (goal_has PyProof.Rows.SeqLeaf)); k_dflt (refine Call_ ?_))
  k_with "eval Call" => (k_here; (with_reducible show wpAny _ _ (eval (Expr.Call (Expr.Name (Str.ofString "is_time") _) _ [] _) _) _ _ _); (fail_if_success (goal_has PyProof.Rows.SeqLeaf)); k_dflt (refine Call_ ?_))
  k_with "call ref" => (k_here; (with_reducible show wpAny _ _ (call (Value.ref 116) _) _ _ _); k_dflt (refine' Says.useB ?uBQ9 ?uFQ9 ?uXQ9 ?uNQ9 ?uTQ9 ?ukQ9 (c_is_day_t _ _ _ _ _ _ _ ?p1Q9) ?udQ9 ?uuQ9 ?_; (case uBQ9 => k_asm); (case uFQ9 => k_asm); (case uXQ9 => k_asm); (case uNQ9 => k_asm); (case uTQ9 => k_asm); (case ukQ9 => first | exact rfl | assumption); (case p1Q9 => assumption); (case udQ9 => ktr_room); (case uuQ9 => ktr_units)); (intro h9 tk9 F9 N9); (try dsimp only); (try k_sweep); (try k_fold))
  k_with "call ref" => (k_here; (with_reducible show wpAny _ _ (call (Value.ref 123) _) _ _ _); k_dflt (refine' Says.useB ?uBQ9 ?uFQ9 ?uXQ9 ?uNQ9 ?uTQ9 ?ukQ9 (c_is_time_t _ _ _ _ _ _ _ ?p1Q9) ?udQ9 ?uuQ9 ?_; (case uBQ9 => k_asm); (case uFQ9 => k_asm); (case uXQ9 => k_asm); (case uNQ9 => k_asm); (case uTQ9 => k_asm); (case ukQ9 => first | exact rfl | assumption); (case p1Q9 => assumption); (case udQ9 => ktr_room); (case uuQ9 => ktr_units)); (intro h9 tk9 F9 N9); (try dsimp only); (try k_sweep); (try k_fold))
  trivial
theorem c_check_moment {w : World} {mean : ExcName → Option Value} {mg mb : Str → Option Value} (news : List (Addr × Obj)) (y o d h i z k : Int) (u t : Nat → Tok) (q dq : Addr) (hday : dayOk y o d = true) (htime : timeOk h i z = true) (hz0 : -5999 ≤ k) (hz1 : k ≤ 5999)  :
    Says w mean mg mb 130 8 130 ((q, instObj 91 dq) :: (dq, momD w.params y o d h i z k u t) :: news) [.ref q] (fun r n' => n' = ((q, instObj 91 dq) :: (dq, momD w.params y o d h i z k u t) :: news) ∧ r = .none) := by
  unfold Says
  k_fill
  intro dp un gd cn cs a ccd cl outer A₀ base h₀ L m s Q E B F X N T hk hd hu hret
  refine wpAny_call ?_
  k_dflt cell_enter
  k_steps
  all_goals (refine hret _ ((q, instObj 91 dq) :: (dq, momD w.params y o d h i z k u t) :: news) _ _ ?R ?F ?N; (case R => exact ⟨rfl, rfl⟩); (case F => k_asm); (case N => k_asm))

theorem lay_C9_2 : True := by
  k_with "binaryOp Add str str" => (k_here; (with_reducible show wpAny _ _ (binaryOp Operator.Add (Value.str _ _) (Value.str _ _)) _ _ _); k_dflt (refine' PyProof.Rows.add_str ?_ ?zAddQ9; (case zAddQ9 => (refine len2 ?_ ?_ <;> (repeat (first | with_reducible refine B_app ?_ ?_ | with_reducible exact B_dig2 _ | with_reducible exact B_dig4 _ | with_reducible exact B_dig1 _ | with_reducible exact B_zone _ | with_reducible exact B_clock _ _ _ | ((with_reducible show Bd _ (List.getD _ _ _)); exact B_mon _) | ((with_reducible show Bd _ (Str.ofString (@toString Int _ _))); exact B_int (by omega) (by omega)) | ((with_reducible show Bd _ (Str.ofString _)); exact B_lit (by decide +kernel)) | (refine B_one ?_; omega)))))); (intro t9 k9); (try dsimp only); (try k_fold))
  k_with "eval Call" => (k_here; (with_reducible show wpAny _ _ (eval (Expr.Call (Expr.Name (Str.ofString "padded") _) _ [] _) _) _ _ _); (fail_if_success (goal_has PyProof.Rows.SeqLeaf)); k_dflt (refine Call_ ?_))
  k_with "eval Call" => (k_here; (with_reducible show wpAny _ _ (eval (Expr.Call (Expr.Name (Str.ofString "zone_text") _) _ [] _) _) _ _ _); (fail_if_success (goal_has PyProof.Rows.SeqLeaf)); k_dflt (refine Call_ ?_))
  k_with "call ref" => (k_here; (with_reducible show wpAny _ _ (call (Value.ref 142) _) _ _ _); k_dflt (refine' Says.useS ?uBQ9 ?uFQ9 ?uXQ9 ?uNQ9 ?uTQ9 ?ukQ9 (c_padded2 _ _ _ _ ?p1Q9 ?p2Q9) ?udQ9 ?uuQ9 ?_; (case uBQ9 => k_asm); (case uFQ9 => k_asm); (case uXQ9 => k_asm); (case uNQ9 => k_asm); (case uTQ9 => k_asm); (case ukQ9 => first | exact rfl | assumption); (case p1Q9 => first | omega | assumption); (case p2Q9 => first | omega | assumption); (case udQ9 => ktr_room); (case uuQ9 => ktr_units)); (intro t9 h9 tk9 F9 N9); (try dsimp only); (try k_sweep); (try k_fold))
  k_with "call ref" => (k_here; (with_reducible show wpAny _ _ (call (Value.ref 149) _) _ _ _); k_dflt (refine' Says.useS ?uBQ9 ?uFQ9 ?uXQ9 ?uNQ9 ?uTQ9 ?ukQ9 (c_zone_text _ _ _ ?p1Q9 ?p2Q9) ?udQ9 ?uuQ9 ?_; (case uBQ9 => k_asm); (case uFQ9 => k_asm); (case uXQ9 => k_asm); (case uNQ9 => k_asm); (case uTQ9 => k_asm); (case ukQ9 => first | exact rfl | assumption); (case p1Q9 => first | omega | assumption); (case p2Q9 => first | omega | assumption); (case udQ9 => ktr_room); (case uuQ9 => ktr_units)); (intro t9 h9 tk9 F9 N9); (try dsimp only); (try k_sweep); (try k_fold))
  k_with "exec Assign cons ListComp" => (k_here; (with_reducible show wpAny _ _ (exec (Stmt.Assign _ (Expr.ListComp (Expr.Call (Expr.Name (Str.ofString "padded") _) _ _ _) _ _ _) _) _) _ _ _); k_dflt (refine Assign_ListComp_G (by k_asm) (by rfl) (by with_unfolding_all rfl) (by with_unfolding_all rfl) (by decide) (by rfl) (by decide) (by rfl) (by rfl) (by rfl) ?_))
  k_with "call builtin:str.join" => (k_here; (with_reducible show wpAny _ _ (call (Value.builtin "str.join") [Value.str _ _, Value.ref _]) _ _ _); k_dflt (refine' join_listW ?aQ9 ?bQ9 ?cQ9 ?dQ9 ?_; (case aQ9 => is_list); (case bQ9 => assumption); (case cQ9 => decide +kernel); (case dQ9 => exact Nat.le_of_ble_eq_true rfl)); (intro t9 k9); (try dsimp only); (try k_fold))
  trivial
theorem c_clock_text {w : World} {mean : ExcName → Option Value} {mg mb : Str → Option Value} (news : List (Addr × Obj)) (y o d h i z k : Int) (u t : Nat → Tok) (q dq : Addr) (hday : dayOk y o d = true) (htime : timeOk h i z = true) (hz0 : -5999 ≤ k) (hz1 : k ≤ 5999)  :
    Says w mean mg mb 154 8 130 ((q, instObj 91 dq) :: (dq, momD w.params y o d h i z k u t) :: news) [.ref q] (fun r n' => n' = ((q, instObj 91 dq) :: (dq, momD w.params y o d h i z k u t) :: news) ∧ ∃ t, r = .str (clockT h i z k) t) := by
  unfold Says
  k_fill
  intro dp un gd cn cs a ccd cl outer A₀ base h₀ L m s Q E B F X N T hk hd hu hret
  refine wpAny_call ?_
  k_dflt cell_enter
  k_steps
  obtain ⟨b1, b2, b3, b4, b5, b6⟩ := time_bnd htime
  refine SrcG.tuple (its := #[.int h (t 3), .int i (t 4), .int z (t 5)]) rfl (by k_asm) (by k_asm) (.inr ⟨_, .head _, rfl, _, rfl⟩) (by rw [sizeLine_eq]; exact Nat.le_of_ble_eq_true rfl) ?_
  intro g2
  refine rest_gen IsI IsS [h, i, z] dig2 rfl ?hP ?turn ?fin
  case hP =>
    rintro j v hj
    refine are_at (vs := [.int h (t 3), .int i (t 4), .int z (t 5)]) (.cons ⟨_, rfl⟩ (.cons ⟨_, rfl⟩ (.cons ⟨_, rfl⟩ .nil))) (by simpa using hj)
  case turn =>
    rintro a v I oI C oC D m₂ ys h' tk E' ha ⟨t, rfl⟩ hC hmx F9 N9 off ne
    have ha0 : 0 ≤ a ∧ a ≤ 99 := by
      simp only [List.mem_cons, List.not_mem_nil, or_false] at ha
      omega
    obtain ⟨ha1, ha2⟩ := ha0
    k_steps
    refine' LCg.CompEnd.intro ?eF ?eN _ (fun p hp => hp) off ?eS ?eR
    case eF => assumption
    case eN => assumption
    case eS => exact .inr ⟨_, .head _, rfl, _, rfl⟩
    case eR => exact ⟨rfl, _, rfl⟩
  case fin =>
    intro ys hys
    replace hys := hys.strs
    unfold LCg.FinA
    intro D h' tk F9 N9 o1
    k_steps
    refine' hret _ ((q, instObj 91 dq) :: (dq, momD w.params y o d h i z k u t) :: news) _ _ ?R ?F ?N
    case R => exact ⟨rfl, _, rfl⟩
    case F => k_asm
    case N => refine' cb_drop ?cN ?cS; (case cN => k_asm); (case cS => kcj_all)

end Mine
end
section
open PySem PySem.W PySem.Calls PySem.Spec PyProof.Rows PyProof.V
namespace Mine
theorem fresh_P3 : True := by
  w_top off
  k_with_none
  trivial
set_option maxRecDepth 100000
set_option maxHeartbeats 4000000

/-- the codes of a month's name -/
def monC (j : Nat) : List Nat := [[74, 97, 110], [70, 101, 98], [77, 97, 114], [65, 112, 114], [77, 97, 121], [74, 117, 110], [74, 117, 108], [65, 117, 103], [83, 101, 112], [79, 99, 116], [78, 111, 118], [68, 101, 99]].getD j []
theorem mon_cases {P : Nat → Prop} (h : ∀ j : Fin 12, P j.val) {o : Int} (h0 : 1 ≤ o) (h1 : o ≤ 12) : P (o - 1).toNat := h ⟨(o - 1).toNat, by omega⟩
theorem mon_T {o : Int} (h0 : 1 ≤ o) (h1 : o ≤ 12) : monthsS.getD (o - 1).toNat Str.empty = T (monC (o - 1).toNat) :=
  mon_cases (P := fun j => monthsS.getD j Str.empty = T (monC j)) (by decide +kernel) h0 h1
theorem mon_len {o : Int} (h0 : 1 ≤ o) (h1 : o ≤ 12) : (monC (o - 1).toNat).length = 3 :=
  mon_cases (P := fun j => (monC j).length = 3) (by decide +kernel) h0 h1
def c2 (n : Int) : List Nat := [48 + n.toNat / 10, 48 + n.toNat % 10]
def c4 (n : Int) : List Nat := [48 + n.toNat / 1000, 48 + n.toNat / 100 % 10, 48 + n.toNat / 10 % 10, 48 + n.toNat % 10]
def cDay (d : Int) : List Nat := if d < 10 then [48 + d.toNat] else c2 d
theorem cat_T (a b : List Nat) : T a ++ T b = T (a ++ b) := cat_cps a b
theorem dig2_T (n : Int) : dig2 n = T (c2 n) := rfl
theorem dig4_T (n : Int) : dig4 n = T (c4 n) := rfl
theorem day_T {d : Int} (h0 : 1 ≤ d) (h1 : d ≤ 31) : Str.ofString (toString d) = T (cDay d) := by
  unfold cDay
  split
  · rw [day1 (by omega) (by omega)]; rfl
  · rw [day2 (by omega) (by omega)]; rfl
theorem dash_T : Str.ofString "-" = T [45] := by decide +kernel
theorem blank_T : Str.ofString " " = T [32] := by decide +kernel
theorem colon_T : Str.ofString ":" = T [58] := by decide +kernel
theorem plus_T : Str.ofString "+" = T [43] := by decide +kernel
theorem dayT_T {y o d : Int} (h1 : 1 ≤ o) (h2 : o ≤ 12) (h3 : 1 ≤ d) (h4 : d ≤ 31) : dayT y o d = T (cDay d ++ [45] ++ monC (o - 1).toNat ++ [45] ++ c4 y) := by
  unfold dayT
  rw [day_T h3 h4, dash_T, mon_T h1 h2, dig4_T, cat_T, cat_T, cat_T, cat_T]
theorem dayT_len {y o d : Int} (h1 : 1 ≤ o) (h2 : o ≤ 12) (h3 : 1 ≤ d) (h4 : d ≤ 31) : (dayT y o d).length = if d < 10 then 10 else 11 := by
  rw [dayT_T h1 h2 h3 h4, len_T]
  simp only [List.length_append, mon_len h1 h2]
  unfold cDay
  split <;> rfl
end Mine
end
section
open PySem PySem.W PySem.Calls PySem.Spec PyProof.Rows PyProof.V
namespace Mine
theorem fresh_C10 : True := by
  w_top off
  k_with_none
  trivial
set_option maxRecDepth 100000
set_option maxHeartbeats 4000000

theorem day_bnd {y o d : Int} (hd : dayOk y o d = true) : 1 ≤ y ∧ y ≤ 9999 ∧ 1 ≤ o ∧ o ≤ 12 ∧ 1 ≤ d ∧ d ≤ 31 := by
  unfold dayOk mlen at hd
  have := of_decide_eq_true hd
  revert this
  split <;> try split
  all_goals omega
theorem B_ct {n : Nat} (h i z k : Int) : Bd (n + 1) (clockT h i z k) := by
  refine B_one ?_
  unfold clockT zoneT
  rw [clock3, blank_T]
  rw [show (if k < 0 then Str.ofString "-" else Str.ofString "+") = T (if k < 0 then [45] else [43]) from by split; exact dash_T; exact plus_T]
  rw [dig2_T, dig2_T, cat_T, cat_T, cat_T, cat_T, len_T]
  split <;> exact Nat.le_of_ble_eq_true rfl
def writeT (y o d h i z k : Int) : Str := Txt.mul (Str.ofString " ") (11 - ((dayT y o d).length : Int)) ++ dayT y o d ++ Str.ofString " " ++ clockT h i z k
theorem lay_C10_1 : True := by
  k_with_none
  k_with "binaryOp Add str str" => (k_here; (with_reducible show wpAny _ _ (binaryOp Operator.Add (Value.str _ _) (Value.str _ _)) _ _ _); k_dflt (refine' PyProof.Rows.add_str ?_ ?zAddQ9; (case zAddQ9 => (refine len2 ?_ ?_ <;> (repeat (first | with_reducible refine B_app ?_ ?_ | with_reducible exact B_dig2 _ | with_reducible exact B_dig4 _ | with_reducible exact B_dig1 _ | with_reducible exact B_zone _ | with_reducible exact B_ct _ _ _ _ | with_reducible exact B_clock _ _ _ | ((with_reducible show Bd _ (List.getD _ _ _)); exact B_mon _) | ((with_reducible show Bd _ (Str.ofString (@toString Int _ _))); exact B_int (by omega) (by omega)) | ((with_reducible show Bd _ (Str.ofString _)); exact B_lit (by decide +kernel)) | (refine B_one ?_; omega)))))); (intro t9 k9); (try dsimp only); (try k_fold))
  k_with "eval Call" => (k_here; (with_reducible show wpAny _ _ (eval (Expr.Call (Expr.Name (Str.ofString "check_moment") _) _ [] _) _) _ _ _); (fail_if_success (goal_has PyProof.Rows.SeqLeaf)); k_dflt (refine Call_ ?_))
  k_with "eval Call" => (k_here; (with_reducible show wpAny _ _ (eval (Expr.Call (Expr.Name (Str.ofString "day_text") _) _ [] _) _) _ _ _); (fail_if_success (goal_has PyProof.Rows.SeqLeaf)); k_dflt (refine Call_ ?_))
  k_with "eval Call" => (k_here; (with_reducible show wpAny _ _ (eval (Expr.Call (Expr.Name (Str.ofString "clock_text") _) _ [] _) _) _ _ _); (fail_if_success (goal_has PyProof.Rows.SeqLeaf)); k_dflt (refine Call_ ?_))
  k_with "eval Call" => (k_here; (with_reducible show wpAny _ _ (eval (Expr.Call (Expr.Name (Str.ofString "padded") _) _ [] _) _) _ _ _); (fail_if_success (goal_has PyProof.Rows.SeqLeaf)); k_dflt (refine Call_ ?_))
  k_with "call ref" => (k_here; (with_reducible show wpAny _ _ (call (Value.ref 130) _) _ _ _); k_dflt (refine' Says.useN ?uBQ9 ?uFQ9 ?uXQ9 ?uNQ9 ?uTQ9 ?ukQ9 (c_check_moment _ _ _ _ _ _ _ _ _ _ _ _ ?p1Q9 ?p2Q9 ?p3Q9 ?p4Q9) ?udQ9 ?uuQ9 ?_; (case uBQ9 => k_asm); (case uFQ9 => k_asm); (case uXQ9 => k_asm); (case uNQ9 => k_asm); (case uTQ9 => k_asm); (case ukQ9 => first | exact rfl | assumption); (case p1Q9 => first | assumption | omega); (case p2Q9 => first | assumption | omega); (case p3Q9 => first | assumption | omega); (case p4Q9 => first | assumption | omega); (case udQ9 => ktr_room); (case uuQ9 => ktr_units)); (intro h9 tk9 F9 N9); (try dsimp only); (try k_sweep); (try k_fold))
  k_with "call ref" => (k_here; (with_reducible show wpAny _ _ (call (Value.ref 154) _) _ _ _); k_dflt (refine' Says.useS ?uBQ9 ?uFQ9 ?uXQ9 ?uNQ9 ?uTQ9 ?ukQ9 (c_clock_text _ _ _ _ _ _ _ _ _ _ _ _ ?p1Q9 ?p2Q9 ?p3Q9 ?p4Q9) ?udQ9 ?uuQ9 ?_; (case uBQ9 => k_asm); (case uFQ9 => k_asm); (case uXQ9 => k_asm); (case uNQ9 => k_asm); (case uTQ9 => k_asm); (case ukQ9 => first | exact rfl | assumption); (case p1Q9 => first | assumption | omega); (case p2Q9 => first | assumption | omega); (case p3Q9 => first | assumption | omega); (case p4Q9 => first | assumption | omega); (case udQ9 => ktr_room); (case uuQ9 => ktr_units)); (intro t9 h9 tk9 F9 N9); (try dsimp only); (try k_sweep); (try k_fold))
  k_with "call ref" => (k_here; (with_reducible show wpAny _ _ (call (Value.ref 173) _) _ _ _); k_dflt (refine' Says.useS ?uBQ9 ?uFQ9 ?uXQ9 ?uNQ9 ?uTQ9 ?ukQ9 (c_day_text _ _ _ _ _ _ _ ?p1Q9 ?p2Q9 ?p3Q9 ?p4Q9 ?p5Q9 ?p6Q9) ?udQ9 ?uuQ9 ?_; (case uBQ9 => k_asm); (case uFQ9 => k_asm); (case uXQ9 => k_asm); (case uNQ9 => k_asm); (case uTQ9 => k_asm); (case ukQ9 => first | exact rfl | assumption); (case p1Q9 => first | assumption | omega); (case p2Q9 => first | assumption | omega); (case p3Q9 => first | assumption | omega); (case p4Q9 => first | assumption | omega); (case p5Q9 => first | assumption | omega); (case p6Q9 => first | assumption | omega); (case udQ9 => ktr_room); (case uuQ9 => ktr_units)); (intro t9 h9 tk9 F9 N9); (try dsimp only); (try k_sweep); (try k_fold))
  trivial
theorem c_write_internal {w : World} {mean : ExcName → Option Value} {mg mb : Str → Option Value} (news : List (Addr × Obj)) (y o d h i z k : Int) (u t : Nat → Tok) (q dq : Addr) (hday : dayOk y o d = true) (htime : timeOk h i z = true) (hz0 : -5999 ≤ k) (hz1 : k ≤ 5999)  :
    Says w mean mg mb 192 12 160 ((q, instObj 91 dq) :: (dq, momD w.params y o d h i z k u t) :: news) [.ref q] (fun r n' => n' = ((q, instObj 91 dq) :: (dq, momD w.params y o d h i z k u t) :: news) ∧ ∃ t, r = .str (writeT y o d h i z k) t) := by
  unfold Says
  k_fill
  intro dp un gd cn cs a ccd cl outer A₀ base h₀ L m s Q E B F X N T hk hd hu hret
  refine wpAny_call ?_
  k_dflt cell_enter
  obtain ⟨b1, b2, b3, b4, b5, b6⟩ := day_bnd hday
  have hlen := dayT_len (y := y) b3 b4 b5 b6
  have hlen1 : (dayT y o d).length ≤ 11 := by rw [hlen]; split <;> decide
  have hlen2 : 10 ≤ (dayT y o d).length := by rw [hlen]; split <;> decide
  clear hlen
  k_steps
  all_goals (refine hret _ ((q, instObj 91 dq) :: (dq, momD w.params y o d h i z k u t) :: news) _ _ ?R ?F ?N; (case R => exact ⟨rfl, _, rfl⟩); (case F => k_asm); (case N => first | k_asm | (refine' cb_drop ?cN ?cS; (case cN => k_asm); (case cS => kcj_all))))

end Mine
end
section
open PySem PySem.W PySem.Calls PyProof.Rows
namespace Mine
theorem fresh_E1 : True := by
  w_top off
  k_with_none
  trivial
set_option maxRecDepth 100000
set_option maxHeartbeats 2000000

section
variable {prog : Program} {w : World} {A : Around} {E : Value → Shared → Prop} {h : Heap} {g : Array GenState} {d : Drawn} {t : Nat} {os : OsState}

abbrev bm52 : List Value := [.ref 39, .type "Exception", .type "BaseException", .type "object"]

theorem fault_cls {P : Params} (X : (hd.heap_39 P).In h) : ∃ nm q N bs hdct sn sub ab col dd k0 k1 k2 k3 k5,
    h.get? 52 = some (excClassObj nm q 52 N bs bm52 hdct sn sub ab col dd k0 k1 k2 k3 k5 "Exception.__new__") := by
  have e : (hd.heap_39 P).lookup 52 = some _ := rfl
  exact ⟨_, _, _, _, _, _, _, _, _, _, _, _, _, _, _, X _ _ e⟩

theorem fault_check_new {C N : Addr} {nm q : Str} {bs : List Value} {hdct : Bool} {sn : List Str} {sub : List Value} {ab : Bool} {col : Option Bool} {dd : Option Addr} {k0 k1 k2 k3 k5 : Option Value} {M : Model} {rest : List Value} {Q : Unit → Shared → Prop}
    (hC : h.get? C = some (excClassObj nm q C N bs bm52 hdct sn sub ab col dd k0 k1 k2 k3 k5 "Exception.__new__")) (hq : Q () ⟨h, g, d, t, os⟩) :
    wpAny M A (checkBuiltinCall "Exception.__new__" ⟨.ref C :: rest, []⟩) Q E ⟨h, g, d, t, os⟩ := by
  have F := PySem.F.excBase_Exception
  have hcont : (Value.ref C :: bm52).contains (.type "Exception") = true := by rw [List.contains_cons]; simp
  have hstar := F.noStar
  simp only [checkBuiltinCall, F.newKind, F.newSplit, F.newRow]
  repeat (first | refine wpAny_loadPart_at hC ?_ | (refine wpAny_isSubtype_exc hC ?_; rw [hcont]) | refine wpAny_staticBase_exc hC ?_ | refine wpAny_madeBy_exc hC ?_ | simp only [bne_self_eq_false, Bool.false_eq_true, if_false] | wp_step)
  exact hq

theorem fault_new {C N : Addr} {nm q : Str} {bs : List Value} {hdct : Bool} {sn : List Str} {sub : List Value} {ab : Bool} {col : Option Bool} {dd : Option Addr} {k0 k1 k2 k3 k5 : Option Value} {R : Result → Shared → Prop} {rest : List Value}
    (hC : h.get? C = some (excClassObj nm q C N bs bm52 hdct sn sub ab col dd k0 k1 k2 k3 k5 "Exception.__new__"))
    (hq : R (.ok (.ret (.ref (h.objs.size + 1)))) ⟨(h.push { cls := .type "tuple", data := .seq rest.toArray }).push
      { cls := .ref C, data := .fields #[.ref h.objs.size, .none, .none, .none, .bool false, .none] }, g, d, t, os⟩) (hrest : rest.length ≤ sizeLine) :
    codeAny (model prog w) A (.builtin "Exception.__new__" ⟨.ref C :: rest, []⟩) R ⟨h, g, d, t, os⟩ := by
  have F := PySem.F.excBase_Exception
  have hends := F.ends
  have hcB : (Value.ref C :: bm52).contains (.type "Exception") = true := by rw [List.contains_cons]; simp
  have hcA : (Value.ref C :: bm52).contains (.type "AttributeError") = false := by rw [List.contains_cons]; simp
  have hcN : (Value.ref C :: bm52).contains (.type "NameError") = false := by rw [List.contains_cons]; simp
  refine codeAny_builtinAt F.entry ?_
  unfold Builtin.«BaseException.__new__»
  refine PySem.wpAt_bind ?_
  show PySem.wpAt _ _ _ (stack >>= _) _ _ _
  refine PySem.wpAt_bind (PySem.wpAt_stack fun p below => PySem.wpAt_of_wpAny ?_)
  wp_walk
  refine PySem.wpAt_of_wpAny ?_
  rw [F.owner]
  repeat (first | with_reducible refine wpAny_madeHere_exc F.canon hC ?_ | with_reducible refine wpAny_loadPart_at hC ?_ | (with_reducible refine wpAny_isSubtype_exc hC ?_; first | rw [hcB] | rw [hcA] | rw [hcN]) | wp_step)
  show R _ _
  rw [Heap.size_push]
  exact hq

theorem fault_typecall {C N fI : Addr} {nm q : Str} {bs : List Value} {hdct : Bool} {sn : List Str} {sub : List Value} {ab : Bool} {col : Option Bool} {dd : Option Addr} {k0 k1 k2 k3 k5 : Option Value} {oI : Obj} {rest : List Value} {Q : Fin → Shared → Prop}
    (hC : h.get? C = some (excClassObj nm q C N bs bm52 hdct sn sub ab col dd k0 k1 k2 k3 k5 "Exception.__new__"))
    (hi : ∀ h', (∀ b o, h.get? b = some o → h'.get? b = some o) → Looks (model prog w) h' (typeLookup (.ref C) "__init__") (some (.ref fI)))
    (hfI : h.get? fI = some oI) (hfc : oI.cls = .type "function")
    (hq : ∀ h' e, Heap.MadeExcOf h h' e (.ref C) rest →
      wpAny (model prog w) A (call (.ref fI) (.ref e :: rest)) (fun r s' => r = .none ∧ Q (.done (.ret (.ref e))) s') E ⟨h', g, d, t, os⟩) (hrest : rest.length ≤ sizeLine) :
    wpAny (model prog w) A (Builtin.«type.__call__» ⟨.ref C :: rest, []⟩) Q E ⟨h, g, d, t, os⟩ := by
  have F := PySem.F.excBase_Exception
  repeat (first | with_reducible refine wpAny_loadPart_at hC ?_ | with_reducible refine wpAny_madeBy_exc hC ?_ | wp_step)
  refine codeAny_call_builtin_code (Code.quiet_builtin _ F.quiet) (fault_check_new hC ?_)
  refine fault_new hC ?_ hrest
  show wpAny _ _ _ _ _ _
  have hC₁ := Heap.get?_push_of_some { cls := .ref C, data := .fields #[.ref h.objs.size, .none, .none, .none, .bool false, .none] }
    (Heap.get?_push_of_some { cls := .type "tuple", data := .seq rest.toArray } hC)
  have hfI₁ := Heap.get?_push_of_some { cls := .ref C, data := .fields #[.ref h.objs.size, .none, .none, .none, .bool false, .none] }
    (Heap.get?_push_of_some { cls := .type "tuple", data := .seq rest.toArray } hfI)
  have hget : ((h.push { cls := .type "tuple", data := .seq rest.toArray }).push
      { cls := .ref C, data := .fields #[.ref h.objs.size, .none, .none, .none, .bool false, .none] }).get? (h.objs.size + 1) = some
      { cls := .ref C, data := .fields #[.ref h.objs.size, .none, .none, .none, .bool false, .none] } := by heap_get
  have hcC : (Value.ref C :: bm52).contains (.ref C) = true := by simp
  unfold isInstance
  repeat (first | with_reducible refine wpAny_loadPart_at hget ?_ | (with_reducible refine wpAny_isSubtype_exc hC₁ ?_; rw [hcC]) | wp_step)
  show wpAny _ _ (typeLookup (.ref C) _) _ _ _
  refine (hi _ fun b o hb => Heap.get?_push_of_some _ (Heap.get?_push_of_some _ hb)).at ?_
  refine wpAny_holding (wpAny_bind ?_)
  unfold bindSpecial
  refine wpAny_bind (wpAny_typeOf (T := "function") ⟨_, hfI₁, hfc⟩ ?_)
  rw [if_pos (by decide)]
  refine wpAny_pure (wpAny_bind (wpAny_mono (hq _ (h.objs.size + 1) ⟨fun b o hb => Heap.get?_push_of_some _ (Heap.get?_push_of_some _ hb), Heap.get?_none_of_le (Nat.le_succ _), h.objs.size, hget, Heap.get?_none_of_le (Nat.le_refl _), ?_⟩) (fun r s' hr => ?_) fun _ _ z => z))
  · exact Heap.get?_push_of_some _ (Heap.get?_push_at rfl rfl)
  · obtain ⟨rfl, hQ⟩ := hr
    wp_walk
    exact hQ

theorem fault_call (X : (hd.heap_39 w.params).In h) {rest : List Value} {Q : Value → Shared → Prop}
    (hi : findIn (hd.heap_39 w.params) (.ref 52) "__init__" = some (some (.ref 29))) 
    (hq : ∀ h' e, Heap.MadeExcOf h h' e (.ref 52) rest →
      wpAny (model prog w) (A.under (.builtin "type.__call__" ⟨.ref 52 :: rest, []⟩)) (call (.ref 29) (.ref e :: rest)) (fun r s' => r = .none ∧ Q (.ref e) s') E ⟨h', g, d, t, os⟩) (hrest : rest.length ≤ sizeLine) :
    wpAny (model prog w) A (call (.ref 52) rest) Q E ⟨h, g, d, t, os⟩ := by
  obtain ⟨nm, q, N, bs, hdct, sn, sub, ab, col, dd, k0, k1, k2, k3, k5, hC⟩ := fault_cls X
  have f1 := tc_lookup
  have f2 := tc_bind (.ref 52)
  have hT : (⟨h, g, d, t, os⟩ : Shared).TypeIs (.ref 52) "type" := ⟨_, hC, rfl⟩
  have e29 : (hd.heap_39 w.params).lookup 29 = some _ := rfl
  refine wpAny_call (codeAny_of_tree ?_)
  show wpAny _ _ (callAny (.ref 52) _) _ _ _
  repeat (any_goals (first | assumption | with_reducible refine wpAny_loadPart_at hC ?_ | wp_step))
  refine ⟨rfl, ?_⟩
  refine codeAny_call_builtin_at (Code.quiet_builtin _ (by decide +kernel)) entry_typeCall (wpAny_check_type_call_sub hC (fault_typecall (fI := 29) hC (fun h' k => looks_findIn (X.keeps k) hi) (X _ _ e29) rfl (fun h' e hm => ?_) hrest))
  exact hq h' e hm
end
end Mine
end
section
open PySem PySem.W PySem.Calls PyProof.Rows
namespace Mine
theorem fresh_E2 : True := by
  w_top off
  k_with_none
  trivial
set_option maxRecDepth 100000
set_option maxHeartbeats 2000000

section
variable {prog : Program} {w : World} {A : Around} {E : Value → Shared → Prop} {s : Shared} {h₀ : Heap} {L : Addr} {m : Str → Option Value}

theorem fault_pass (self : Value) : refuseLoop self "__setattr__" [.ref 52, .ref 39, .type "Exception", .type "BaseException", .type "object"] = pure () := by
  rw [refuseLoop_ref, refuseLoop_ref]
  kernel_rfl

theorem fault_clsIn (P : Params) : ∃ cd, clsIn (hd.heap_39 P) 52 = some cd ∧ cd.mro = [.ref 52, .ref 39, .type "Exception", .type "BaseException", .type "object"] ∧ cd.hasDict = true := by
  refine ⟨_, rfl, ?_, ?_⟩ <;> rfl

theorem fault_osa {K : Frag} {x C : Addr} {cd : ClassData} {ox : Obj} {od : Option Obj} {name : Str} {tk : Tok} {v : Value} {r : Option Value} {R : Result → Shared → Prop} (X : K.In s.heap) (I : InstAt s.heap x ox C od)
    (hc : clsIn K C = some cd) (hobj : cd.mro.isEmpty = false) (hhas : cd.mro.contains (.type "object") = true) (hpass : refuseLoop (.ref x) "__setattr__" cd.mro = pure ()) (ht : takerIn K C name = some r)
    (h : ∀ b, wpAny (model prog w) A.in1 (match r with | some a => Builtin.ObjectAttr.setByDescriptor a (.ref x) v | none => Builtin.ObjectAttr.storeInOwnDict (.ref x) (.ref C) (.str name tk) name v b)
      (fun fin s' => match fin with | .done f => R (.ok f) s' | .again c' => c'.quiet = true ∧ codeAny (model prog w) A c' R s') (fun e s' => R (.error e) s') s) :
    codeAny (model prog w) A (.call (.builtin "object.__setattr__") ⟨[.ref x, .str name tk, v], []⟩) R s := by
  have SF := PySem.F.store_object
  have sub : Looks (model prog w) s.heap (isInstance (.ref x) (.type "object")) true := I.type.andThen (looks_mroIn X (by unfold mroIn; rw [hc, Option.bind_some, if_neg (by rw [hobj]; decide), hhas]))
  refine codeAny_call_builtin SF.slot.plain SF.entry (@check_slot (model prog w) _ _ s "object.__setattr__" "object" "__setattr__" (.ref x) [.str name tk, v] [] _ SF.kind SF.split sub (SF.args (.ref x) (.str name tk) v) ?_)
  obtain ⟨attr, ha, hr⟩ := Option.bind_eq_some_iff.mp ht
  have hm : Looks (model prog w) s.heap (mroOf (.ref C)) cd.mro := (looks_clsIn X hc).andThen .now
  have L3 : Looks (model prog w) s.heap (Builtin.ObjectAttr.storeTaker? attr) r := by
    cases attr with
    | none => cases hr; exact .now
    | some a =>
      obtain ⟨b, hb, rfl⟩ := Option.map_eq_some_iff.mp hr
      refine (looks_takesIn X hb).andThen ?_
      cases b <;> exact .now
  rw [osa_eq, refuse_eq]
  refine wpAny_bind (wpAny_bind (I.type.here (wpAny_bind (hm.here ?_))))
  rw [hpass]
  refine wpAny_pure (wpAny_bind (I.type.here (wpAny_bind ((looks_findIn X ha).here (wpAny_bind (L3.here ?_))))))
  exact h _

theorem store_led {A' : Around} {d : Addr} {name : Str} {tk : Tok} {v : Value} {es : List DictEntry} {n : Nat} {pre post : List (Addr × Obj)} {R : Result → Shared → Prop}
    (F : Fr h₀ L s.heap m) (N : News h₀ L s.heap (pre ++ (d, dictOf es n) :: post)) (h1 : ∀ p ∈ pre, p.1 ≠ d) (h2 : ∀ p ∈ post, p.1 ≠ d) (hl : (getL name es).isSome = true) (hz : (putL name (PyData.keyHash w.params name) (.str name s.toks) v es).length ≤ 1000)
    (h : ∀ h', Fr h₀ L h' m → News h₀ L h' (pre ++ (d, dictOf (putL name (PyData.keyHash w.params name) (.str name s.toks) v es) (putN name es n)) :: post) → R (.ok (.ret .none)) { s with heap := h', toks := s.toks + 1 }) :
    wpAny (model prog w) A (Builtin.ObjectAttr.storeInDict d (.str name tk) name v)
      (fun fin s' => match fin with | .done f => R (.ok f) s' | .again c' => c'.quiet = true ∧ codeAny (model prog w) A' c' R s') (fun e s' => R (.error e) s') s := by
  obtain ⟨U1, U2⟩ := news_upd (f := Obj.putName name (PyData.keyHash w.params name) (.str name s.toks) v) F N h1 h2 (putName_dict _ _ _ _ _ _) rfl
  have D := (N (d, dictOf es n) (by simp)).1
  have D' := (U2 (d, dictOf (putL name (PyData.keyHash w.params name) (.str name s.toks) v es) (putN name es n)) (List.mem_append_right _ (.head _))).1
  refine wpAny_bind (wpAny_pure (wpAny_bind ?_))
  unfold nsSet
  refine wpAny_bind (wpAny_bind (wpAny_askSetting (wpAny_pure (wpAny_bind (wpAny_mkText (wpAny_bind (wpAny_loadPart D ?_)))))))
  have c : (!(es.toArray).any (·.key.isStr name) && (es.toArray).any (·.refKey)) = false := by
    rw [← Array.any_toList, ← Array.any_toList]
    unfold getL at hl
    split at hl
    · rename_i en he
      simp only [List.any_eq_true.mpr ⟨en, List.mem_of_find?_eq_some he, List.find?_some he⟩]; rfl
    · split at hl
      · cases hl
      · rename_i z; rw [Bool.not_eq_true] at z; simp only [z, Bool.and_false]
  dsimp only
  rw [aRefKeyMayBeTheName_at, c]
  refine wpAny_updatePart D ?_
  refine wpAny_bind (wpAny_lookBehind D' (pastItsLine_dict (by rw [List.size_toArray, sizeLine_eq]; omega)) ?_)
  exact wpAny_pure (h _ U1 U2)

abbrev excOf (d : Option Addr) (fs : Array Value) (sl : Array (Option Value)) : Obj := ⟨.ref 52, d, .fields fs, sl⟩

theorem fault_set1 {e : Addr} {fs : Array Value} {sl : Array (Option Value)} {name : Str} {v : Value} {rest : List (Addr × Obj)} {Q : Unit → Shared → Prop}
    (F : Fr h₀ L s.heap m) (X : (hd.heap_39 w.params).In h₀) (N : News h₀ L s.heap ((e, excOf none fs sl) :: rest)) (hne : ∀ p ∈ rest, p.1 ≠ e)
    (hs : findIn (hd.heap_39 w.params) (.ref 52) "__setattr__" = some (some (.builtin "object.__setattr__"))) (ht : takerIn (hd.heap_39 w.params) 52 name = some none)
    (h : ∀ d h' t, Fr h₀ L h' m → News h₀ L h' ((e, excOf (some d) fs sl) :: (d, dictOf [⟨PyData.keyHash w.params name, .str name t, v⟩] 1) :: rest) → d ≠ e → (∀ p ∈ rest, p.1 < d) → Q () { s with heap := h', toks := s.toks + 2 }) :
    wpAny (model prog w) A (setAttr (.ref e) name v) Q E s := by
  have X₁ := X.keeps F.keep
  obtain ⟨cd, hc, hm, hdct⟩ := fault_clsIn w.params
  have he : s.heap.get? e = some (excOf none fs sl) := (N (e, _) (.head _)).1
  have I : InstAt s.heap e (excOf none fs sl) 52 none := ⟨he, rfl, rfl, trivial⟩
  refine set_plain X₁ I hs ?_
  have I' : InstAt ({ s with toks := s.toks + 1 } : Shared).heap e (excOf none fs sl) 52 none := I
  refine fault_osa (s := { s with toks := s.toks + 1 }) X₁ I' hc (by rw [hm]; rfl) (by rw [hm]; rfl) (by rw [hm]; exact fault_pass _) ht fun b => ?_
  dsimp only
  unfold Builtin.ObjectAttr.storeInOwnDict
  refine wpAny_bind (wpAny_pure ?_)
  dsimp only
  rw [if_neg (by decide)]
  refine wpAny_bind ?_
  show wpAny _ _ (instanceDict e true) _ _ _
  unfold instanceDict
  refine wpAny_bind (wpAny_loadPart he ?_)
  dsimp only
  refine wpAny_bind (m := classData 52) (looks_clsIn X₁ hc _ _ _ _ (fun _ _ e => e) ?_)
  rw [hdct]
  rw [if_neg (by decide), if_neg (by decide)]
  have F1 := F.push (o := { cls := .type "dict", data := .dict #[] })
  have N1 := N.push F { cls := .type "dict", data := .dict #[] }
  have lt : ∀ p ∈ (e, excOf none fs sl) :: rest, p.1 < s.heap.objs.size := fun p hp => Heap.lt_size (N p hp).1
  have hde : s.heap.objs.size ≠ e := Nat.ne_of_gt (lt _ (.head _))
  obtain ⟨U1, U2⟩ := news_upd (pre := [(s.heap.objs.size, dictOf [] 0)]) (post := rest) (d := e) (o := excOf none fs sl) (o' := excOf (some s.heap.objs.size) fs sl) (f := fun o => { o with dict := some s.heap.objs.size }) F1 N1
    (fun p hp => by rw [List.mem_singleton.mp hp]; exact hde) hne rfl rfl
  refine wpAny_bind (wpAny_alloc ?_)
  refine wpAny_bind (wpAny_update (Heap.get?_push_of_some _ he) ?_)
  refine wpAny_pure ?_
  dsimp only
  have N3 : News h₀ L ((s.heap.push { cls := .type "dict", data := .dict #[] }).update e fun o => { o with dict := some s.heap.objs.size }) ([(e, excOf (some s.heap.objs.size) fs sl)] ++ (s.heap.objs.size, dictOf [] 0) :: rest) := fun p hp => U2 p (by
    rcases List.mem_append.mp hp with hp | hp
    · rw [List.mem_singleton.mp hp]; exact .tail _ (.head _)
    · rcases List.mem_cons.mp hp with rfl | hp
      · exact .head _
      · exact .tail _ (.tail _ hp))
  refine store_led (prog := prog) (w := w) (A := A.in1) (name := name) (v := v) (s := { s with heap := (s.heap.push { cls := .type "dict", data := .dict #[] }).update e (fun o => { o with dict := some s.heap.objs.size }), toks := s.toks + 1 }) (R := fun r s' => match r with | .ok (.ret _) => Q () s' | .ok _ => False | .error e => E e s') U1 N3 (fun p hp => by rw [List.mem_singleton.mp hp]; exact Ne.symm hde) (fun p hp => Nat.ne_of_lt (lt p (.tail _ hp))) rfl (by simp [putL]) fun h' F' N' => ?_
  exact h _ h' _ F' N' hde fun p hp => lt p (.tail _ hp)

theorem fault_set2 {e d : Addr} {fs : Array Value} {sl : Array (Option Value)} {name : Str} {v : Value} {es : List DictEntry} {n : Nat} {rest : List (Addr × Obj)} {Q : Unit → Shared → Prop}
    (F : Fr h₀ L s.heap m) (X : (hd.heap_39 w.params).In h₀) (N : News h₀ L s.heap ((e, excOf (some d) fs sl) :: (d, dictOf es n) :: rest)) (hde : e ≠ d) (hne : ∀ p ∈ rest, p.1 ≠ d)
    (hs : findIn (hd.heap_39 w.params) (.ref 52) "__setattr__" = some (some (.builtin "object.__setattr__"))) (ht : takerIn (hd.heap_39 w.params) 52 name = some none)
    (hl : (getL name es).isSome = true) (hz : es.length ≤ 900)
    (h : ∀ h' t, Fr h₀ L h' m → News h₀ L h' ((e, excOf (some d) fs sl) :: (d, dictOf (putL name (PyData.keyHash w.params name) (.str name t) v es) (putN name es n)) :: rest) → Q () { s with heap := h', toks := s.toks + 2 }) :
    wpAny (model prog w) A (setAttr (.ref e) name v) Q E s := by
  have X₁ := X.keeps F.keep
  obtain ⟨cd, hc, hm, hdct⟩ := fault_clsIn w.params
  have he : s.heap.get? e = some (excOf (some d) fs sl) := (N (e, _) (.head _)).1
  have hd' : s.heap.get? d = some (dictOf es n) := (N (d, _) (.tail _ (.head _))).1
  have I : InstAt s.heap e (excOf (some d) fs sl) 52 (some (dictOf es n)) := ⟨he, rfl, rfl, hd'⟩
  refine set_plain X₁ I hs ?_
  have I' : InstAt ({ s with toks := s.toks + 1 } : Shared).heap e (excOf (some d) fs sl) 52 (some (dictOf es n)) := I
  refine fault_osa (s := { s with toks := s.toks + 1 }) X₁ I' hc (by rw [hm]; rfl) (by rw [hm]; rfl) (by rw [hm]; exact fault_pass _) ht fun b => ?_
  dsimp only
  unfold Builtin.ObjectAttr.storeInOwnDict
  refine wpAny_bind (wpAny_pure ?_)
  dsimp only
  rw [if_neg (by decide)]
  refine wpAny_bind ?_
  show wpAny _ _ (instanceDict e true) _ _ _
  unfold instanceDict
  refine wpAny_bind (wpAny_loadPart he ?_)
  dsimp only
  refine wpAny_bind (m := classData 52) (looks_clsIn X₁ hc _ _ _ _ (fun _ _ e => e) ?_)
  rw [hdct]
  rw [if_neg (by decide)]
  refine wpAny_pure ?_
  dsimp only
  refine store_led (prog := prog) (w := w) (A := A.in1) (A' := A) (name := name) (v := v) (pre := [(e, excOf (some d) fs sl)]) (s := { s with toks := s.toks + 1 }) (R := fun r s' => match r with | .ok (.ret _) => Q () s' | .ok _ => False | .error e => E e s') F N (fun p hp => by rw [List.mem_singleton.mp hp]; exact hde) hne hl ?_ fun h' F' N' => ?_
  · have : ∀ es : List DictEntry, (putL name (PyData.keyHash w.params name) (.str name (s.toks + 1)) v es).length ≤ es.length + 1 := by
      intro es
      induction es with
      | nil => simp [putL]
      | cons a r ih => unfold putL; split <;> simp <;> omega
    exact Nat.le_trans (this es) (by omega)
  · exact h h' _ F' N'

theorem fault_binit {e t : Addr} {v : Value} {b c x y z : Value} {dd : Option Addr} {sl : Array (Option Value)} {rest : List (Addr × Obj)} {Q : Value → Shared → Prop}
    (F : Fr h₀ L s.heap m) (X : (hd.heap_39 w.params).In h₀) (N : News h₀ L s.heap ((e, excOf dd #[.ref t, b, c, x, y, z] sl) :: rest)) (hne : ∀ p ∈ rest, p.1 ≠ e)
    (h : ∀ t' h', Fr h₀ L h' m → News h₀ L h' ((e, excOf dd #[.ref t', b, c, x, y, z] sl) :: (t', { cls := .type "tuple", data := .seq #[v] }) :: rest) → (∀ p ∈ rest, p.1 < t') → e < t' → Q .none { s with heap := h' }) :
    wpAny (model prog w) A (call (.builtin "Exception.__init__") [.ref e, v]) Q E s := by
  have X₁ := X.keeps F.keep
  have FB := PySem.F.excBase_Exception
  obtain ⟨nm, q, NN, bs, hdct, sn, sub, ab, col, dd', k0, k1, k2, k3, k5, hC⟩ := fault_cls X₁
  have he : s.heap.get? e = some (excOf dd #[.ref t, b, c, x, y, z] sl) := (N (e, _) (.head _)).1
  obtain ⟨hp, g, dr, tk, os⟩ := s
  have hcB : (Value.ref 52 :: bm52).contains (.type "Exception") = true := by rw [List.contains_cons]; simp
  refine wpAny_call (codeAny_call_builtin FB.init.plain FB.initEntry ?_)
  have hchk : ∀ {M : Model} {A : Around} {E : Value → Shared → Prop} {Q : Unit → Shared → Prop}, Q () ⟨hp, g, dr, tk, os⟩ → wpAny M A (checkBuiltinCall "Exception.__init__" ⟨[.ref e, v], []⟩) Q E ⟨hp, g, dr, tk, os⟩ := by
    intro M A E Q hq
    have hshort := FB.noStar
    simp only [checkBuiltinCall, FB.initKind, FB.initSplit, FB.initRow]
    repeat (first | with_reducible refine wpAny_loadPart_at he ?_ | with_reducible refine wpAny_loadPart_at hC ?_ | (with_reducible refine wpAny_isSubtype_exc hC ?_; rw [hcB]) | wp_step)
    exact hq
  refine hchk ?_
  wp_walk
  show Q .none _
  have F1 := F.push (o := { cls := .type "tuple", data := .seq #[v] })
  have N1 := N.push F { cls := .type "tuple", data := .seq #[v] }
  have lt : ∀ p ∈ (e, excOf dd #[.ref t, b, c, x, y, z] sl) :: rest, p.1 < hp.objs.size := fun p hm => Heap.lt_size (N p hm).1
  have hte : hp.objs.size ≠ e := Nat.ne_of_gt (lt _ (.head _))
  obtain ⟨U1, U2⟩ := news_upd (pre := [(hp.objs.size, { cls := .type "tuple", data := .seq #[v] })]) (post := rest) (d := e) (o := excOf dd #[.ref t, b, c, x, y, z] sl)
    (o' := excOf dd #[.ref hp.objs.size, b, c, x, y, z] sl) (f := Obj.mapFields fun x => x.setIfInBounds 0 (Value.ref hp.objs.size)) F1 N1
    (fun p hm => by rw [List.mem_singleton.mp hm]; exact hte) hne rfl rfl
  refine h hp.objs.size _ U1 (fun p hm => U2 p ?_) (fun p hm => lt p (.tail _ hm)) (lt _ (.head _))
  rcases List.mem_cons.mp hm with rfl | hm
  · exact .tail _ (.head _)
  · rcases List.mem_cons.mp hm with rfl | hm
    · exact .head _
    · exact .tail _ (.tail _ hm)
end
end Mine
end
section
open PySem PySem.W PySem.Calls PyProof.Rows
namespace Mine
theorem fresh_E3 : True := by
  w_top off
  k_with_none
  trivial
set_option maxRecDepth 100000
set_option maxHeartbeats 4000000

theorem typeOf_Exception : typeOf (.type "Exception") = pure (.type "type") := by kernel_rfl
abbrev tupOf (vs : List Value) : Obj := { cls := .type "tuple", data := .seq vs.toArray }

theorem ne_cons {a e : Addr} {o : Obj} {rest : List (Addr × Obj)} (h : e < a) (hr : ∀ p ∈ rest, p.1 ≠ e) : ∀ p ∈ (a, o) :: rest, p.1 ≠ e :=
  List.forall_mem_cons.mpr ⟨Nat.ne_of_gt h, hr⟩

theorem ne_lts {d : Addr} {rest : List (Addr × Obj)} (h : ∀ p ∈ rest, p.1 < d) : ∀ p ∈ rest, p.1 ≠ d := fun p hp => Nat.ne_of_lt (h p hp)
theorem lts_tail {d : Addr} {q : Addr × Obj} {rest : List (Addr × Obj)} (h : ∀ p ∈ q :: rest, p.1 < d) : ∀ p ∈ rest, p.1 < d := fun p hp => h p (.tail _ hp)

theorem lay_E3_1 : True := by
  k_with_none
  k_with "getMethod type:Exception" => (k_here; k_dflt (refine' method_type ?FQ9 ?XQ9 ?mQ9 (by decide +kernel) ?eQ9 ?hQ9 ?_; (case FQ9 => k_asm); (case XQ9 => k_asm); (case mQ9 => exact typeOf_Exception); (case eQ9 => k_is); (case hQ9 => k_handed)))
  k_with "call builtin:Exception.__init__" => (k_here; k_dflt (refine' fault_binit ?FQ9 ?XQ9 ?NQ9 ?hneQ9 ?_; (case FQ9 => k_asm); (case XQ9 => k_asm); (case NQ9 => k_asm); (case hneQ9 => assumption)); intro t' h' F' N' l1 l2; (try k_sweep))
  k_with "setAttr ref" => (k_here; k_dflt (refine' fault_set1 ?FQ9 ?XQ9 ?NQ9 ?hneQ9 ?hsQ9 ?htQ9 ?_; (case FQ9 => k_asm); (case XQ9 => k_asm); (case NQ9 => k_asm); (case hneQ9 => exact ne_cons (by assumption) (by assumption)); (case hsQ9 => k_is); (case htQ9 => k_is)); intro d' h' t' F' N' l3 l4; (try k_sweep))
  k_with "setAttr ref" => (k_here; k_dflt (refine' fault_set2 ?FQ9 ?XQ9 ?NQ9 ?hdeQ9 ?hneQ9 ?hsQ9 ?htQ9 ?hlQ9 ?hzQ9 ?_; (case FQ9 => k_asm); (case XQ9 => k_asm); (case NQ9 => k_asm); (case hdeQ9 => exact Ne.symm (by assumption)); (case hneQ9 => exact ne_lts (by assumption)); (case hsQ9 => k_is); (case htQ9 => k_is); (case hlQ9 => rfl); (case hzQ9 => exact Nat.le_of_ble_eq_true rfl)); intro h' t' F' N'; (try k_sweep))
  trivial

theorem c_init2 {w : World} {mean : ExcName → Option Value} {mg mb : Str → Option Value} (e t : Addr) (x : Str) (k : Int) (tx tk : Tok) (rest : List (Addr × Obj)) (hne : ∀ p ∈ rest, p.1 ≠ e) :
    Says w mean mg mb 29 3 24 ((e, excOf none #[.ref t, .none, .none, .none, .bool false, .none] #[]) :: rest) [.ref e, .str x tx, .int k tk]
      (fun r n' => r = .none ∧ ∃ d t' u1 u2, n' = (e, excOf (some d) #[.ref t', .none, .none, .none, .bool false, .none] #[]) :: (d, dictOf [⟨PyData.keyHash w.params (Str.ofString "what"), .str (Str.ofString "what") u1, .str x tx⟩, ⟨PyData.keyHash w.params (Str.ofString "at"), .str (Str.ofString "at") u2, .int k tk⟩] 2) :: (t', tupOf [.str x tx]) :: rest ∧ d ≠ e ∧ (∀ p ∈ rest, p.1 < d)) := by
  unfold Says
  k_fill
  intro dp un gd cn cs a ccd cl outer A₀ base h₀ L m s Q E B F X N T hk hd hu hret
  refine wpAny_call ?_
  k_dflt (refine' code_def ?k1 ?k2 ?k3 ?k4 ?k5 ?kA ?kF ?kK ?k6 ?k7 ?k8 ?k9 ?kB ?_ ?c2 ?c3 ?c4 ?c5; (case kA => exact rfl); (case kF => exact rfl); (case kK => assumption); (case k1 => k_asm); (case k2 => k_asm); (case k3 => k_asm); (case k4 => k_asm); (case k5 => k_asm); (case k6 => k_is); (case k7 => k_is); (case k8 => ktr_room); (case k9 => first | exact BindsTo.of_eq rfl | exact binds_K (by k_in) rfl (by k_is) rfl rfl rfl); (case c5 => decide); (case kB => exact locs rfl); (case c2 => exact rfl); (case c3 => exact rfl); (case c4 => exact rfl); k_whole; intro g' L' h' FG' F' N' B' X' T'; (try dsimp only); (try k_lift B'); (try k_fold))
  k_steps
  all_goals (refine' hret _ _ _ _ ?R ?F ?N; (case F => k_asm); (case N => k_asm); (case R => exact ⟨rfl, _, _, _, _, rfl, by assumption, lts_tail (by assumption)⟩))

theorem c_init1 {w : World} {mean : ExcName → Option Value} {mg mb : Str → Option Value} (e t : Addr) (x : Str) (tx : Tok) (rest : List (Addr × Obj)) (hne : ∀ p ∈ rest, p.1 ≠ e) :
    Says w mean mg mb 29 3 24 ((e, excOf none #[.ref t, .none, .none, .none, .bool false, .none] #[]) :: rest) [.ref e, .str x tx]
      (fun r n' => r = .none ∧ ∃ d t' u1 u2 tk, n' = (e, excOf (some d) #[.ref t', .none, .none, .none, .bool false, .none] #[]) :: (d, dictOf [⟨PyData.keyHash w.params (Str.ofString "what"), .str (Str.ofString "what") u1, .str x tx⟩, ⟨PyData.keyHash w.params (Str.ofString "at"), .str (Str.ofString "at") u2, .int (-1) tk⟩] 2) :: (t', tupOf [.str x tx]) :: rest ∧ d ≠ e ∧ (∀ p ∈ rest, p.1 < d)) := by
  unfold Says
  k_fill
  intro dp un gd cn cs a ccd cl outer A₀ base h₀ L m s Q E B F X N T hk hd hu hret
  refine wpAny_call ?_
  k_dflt (refine' code_def ?k1 ?k2 ?k3 ?k4 ?k5 ?kA ?kF ?kK ?k6 ?k7 ?k8 ?k9 ?kB ?_ ?c2 ?c3 ?c4 ?c5; (case kA => exact rfl); (case kF => exact rfl); (case kK => assumption); (case k1 => k_asm); (case k2 => k_asm); (case k3 => k_asm); (case k4 => k_asm); (case k5 => k_asm); (case k6 => k_is); (case k7 => k_is); (case k8 => ktr_room); (case k9 => first | exact BindsTo.of_eq rfl | exact binds_K (by k_in) rfl (by k_is) rfl rfl rfl); (case c5 => decide); (case kB => exact locs rfl); (case c2 => exact rfl); (case c3 => exact rfl); (case c4 => exact rfl); k_whole; intro g' L' h' FG' F' N' B' X' T'; (try dsimp only); (try k_lift B'); (try k_fold))
  k_steps
  all_goals (refine' hret _ _ _ _ ?R ?F ?N; (case F => k_asm); (case N => k_asm); (case R => exact ⟨rfl, _, _, _, _, _, rfl, by assumption, lts_tail (by assumption)⟩))
end Mine
end
section
open PySem PySem.W PySem.Calls PyProof.Rows
namespace Mine
theorem fresh_E4 : True := by
  w_top off
  k_with_none
  trivial
set_option maxRecDepth 100000
set_option maxHeartbeats 4000000

theorem under_make {dp un : Nat} {gd : Option (List Code)} {cn : Str} {cs : Scope} {L a : Addr} {ccd : Value} {cl : List (Str × Addr)} {outer : List Env} {rest : List Value} :
    (ktrTop dp un gd cn cs L a ccd cl outer).under (.builtin "type.__call__" ⟨.ref 52 :: rest, []⟩) = ktrTop (dp + 1) (un + 1) gd cn cs L a ccd cl outer := by
  cases gd <;> rfl

abbrev excFs (t' : Addr) : Array Value := #[.ref t', .none, .none, .none, .bool false, .none]
/-- the dict that a fault bears -/
abbrev whatAt (P : Params) (u1 u2 : Tok) (x : Str) (tx : Tok) (k : Int) (tk : Tok) : Obj :=
  dictOf [⟨PyData.keyHash P (Str.ofString "what"), .str (Str.ofString "what") u1, .str x tx⟩, ⟨PyData.keyHash P (Str.ofString "at"), .str (Str.ofString "at") u2, .int k tk⟩] 2

section
variable {w : World} {mean : ExcName → Option Value} {mg mb : Str → Option Value}
  {dp un : Nat} {gd : Option (List Code)} {cn : Str} {cs : Scope} {a : Addr} {ccd : Value} {cl : List (Str × Addr)} {outer : List Env} {A₀ : Around} {base h₀ : Heap} {L : Addr} {m : Str → Option Value} {s : Shared} {Q E : Value → Shared → Prop} {news : List (Addr × Obj)}

theorem made_led {h' : Heap} {e : Addr} {rest : List Value} (F : Fr h₀ L s.heap m) (N : News h₀ L s.heap news) (hm : Heap.MadeExcOf s.heap h' e (.ref 52) rest) :
    ∃ t, Fr h₀ L h' m ∧ News h₀ L h' ((e, excOf none (excFs t) #[]) :: news) ∧ (∀ p ∈ news, p.1 ≠ e) := by
  obtain ⟨t, he, _, _⟩ := hm.there
  obtain ⟨oL, _, _, hL, _⟩ := F.ns
  have ne : ∀ b o, s.heap.get? b = some o → b ≠ e := fun b o hb q => by rw [q, hm.new] at hb; cases hb
  refine ⟨t, F.keeps hm.keeps, fun p hp => ?_, fun p hp => ne _ _ (N p hp).1⟩
  rcases List.mem_cons.mp hp with rfl | hp
  · refine ⟨he, Ne.symm (ne _ _ hL), ?_⟩
    cases q : h₀.get? e with
    | none => rfl
    | some o => exact absurd rfl (ne _ _ (F.keep _ _ q))
  · exact ⟨hm.keeps _ _ (N p hp).1, (N p hp).2⟩

theorem mk_fault2 {x : Str} {k : Int} {tx tk : Tok} (B : Below A₀ base outer h₀) (F : Fr h₀ L s.heap m) (X : (hd.heap_39 w.params).In h₀) (N : News h₀ L s.heap news) (T : Top view LS mean mg mb h₀) (hk : cs.kind = .function)
    (hi : findIn (hd.heap_39 w.params) (.ref 52) "__init__" = some (some (.ref 29))) (hd : dp + 5 < recursionLimit) (hu : un + 26 < cLine)
    (ret : ∀ e d t' u1 u2 h' tk', Fr h₀ L h' m → News h₀ L h' ((e, excOf (some d) (excFs t') #[]) :: (d, whatAt w.params u1 u2 x tx k tk) :: (t', tupOf [.str x tx]) :: news) → (∀ p ∈ news, p.1 < d) → d ≠ e → (∀ p ∈ news, p.1 ≠ e) → Q (.ref e) { s with heap := h', toks := tk' }) :
    wpAny (model PySem.Challenge.rw_no0354_01.row.prog w) (ktrTop dp un gd cn cs L a ccd cl outer) (call (.ref 52) [.str x tx, .int k tk]) Q E s := by
  obtain ⟨hp, g, dr, t, os⟩ := s
  refine fault_call (X.keeps F.keep) hi (fun h' e hm => ?_) (by rw [sizeLine_eq]; exact Nat.le_of_ble_eq_true rfl)
  rw [under_make]
  obtain ⟨t0, F1, N1, ne1⟩ := made_led (s := ⟨hp, g, dr, t, os⟩) F N hm
  refine Says.use (s := ⟨h', g, dr, t, os⟩) B F1 X N1 T hk (c_init2 e t0 x k tx tk news ne1) (by omega) (by omega) ?_
  rintro r news' h2 tk2 ⟨rfl, d, t', u1, u2, rfl, hde, hlt⟩ F2 N2
  exact ⟨rfl, ret e d t' u1 u2 h2 tk2 F2 N2 hlt hde ne1⟩

theorem mk_fault1 {x : Str} {tx : Tok} (B : Below A₀ base outer h₀) (F : Fr h₀ L s.heap m) (X : (hd.heap_39 w.params).In h₀) (N : News h₀ L s.heap news) (T : Top view LS mean mg mb h₀) (hk : cs.kind = .function)
    (hi : findIn (hd.heap_39 w.params) (.ref 52) "__init__" = some (some (.ref 29))) (hd : dp + 5 < recursionLimit) (hu : un + 26 < cLine)
    (ret : ∀ e d t' u1 u2 tk h' tk', Fr h₀ L h' m → News h₀ L h' ((e, excOf (some d) (excFs t') #[]) :: (d, whatAt w.params u1 u2 x tx (-1) tk) :: (t', tupOf [.str x tx]) :: news) → (∀ p ∈ news, p.1 < d) → d ≠ e → (∀ p ∈ news, p.1 ≠ e) → Q (.ref e) { s with heap := h', toks := tk' }) :
    wpAny (model PySem.Challenge.rw_no0354_01.row.prog w) (ktrTop dp un gd cn cs L a ccd cl outer) (call (.ref 52) [.str x tx]) Q E s := by
  obtain ⟨hp, g, dr, t, os⟩ := s
  refine fault_call (X.keeps F.keep) hi (fun h' e hm => ?_) (by rw [sizeLine_eq]; exact Nat.le_of_ble_eq_true rfl)
  rw [under_make]
  obtain ⟨t0, F1, N1, ne1⟩ := made_led (s := ⟨hp, g, dr, t, os⟩) F N hm
  refine Says.use (s := ⟨h', g, dr, t, os⟩) B F1 X N1 T hk (c_init1 e t0 x tx news ne1) (by omega) (by omega) ?_
  rintro r news' h2 tk2 ⟨rfl, d, t', u1, u2, tk, rfl, hde, hlt⟩ F2 N2
  exact ⟨rfl, ret e d t' u1 u2 tk h2 tk2 F2 N2 hlt hde ne1⟩
end
end Mine
end
section
open PySem PySem.W PySem.Calls PyProof.Rows
namespace Mine
theorem fresh_E5 : True := by
  w_top off
  k_with_none
  trivial
set_option maxRecDepth 100000
set_option maxHeartbeats 4000000

/-- a fault that is about to be raised -/
def FaultAt (P : Params) (E : Value → Shared → Prop) (v : Value) (s₁ : Shared) : Prop :=
  ∃ a dd t, v = .ref a ∧ (hd.heap_39 P).In s₁.heap ∧ s₁.heap.get? a = some (excOf dd (excFs t) #[]) ∧ E (.ref a) s₁

theorem Raise_fault {M : Model} {A : Around} {E : Value → Shared → Prop} {s : Shared} {env : Env} {e : PySem.Expr} {pos : Pos} {Q : Flow → Shared → Prop} {P : Params} (hh : A.handled = none)
    (h : wpAny M A (eval e env) (FaultAt P E) E s) : wpAny M A (exec (.Raise (some e) none pos) env) Q E s := by
  have hcB : (Value.ref 52 :: bm52).contains (.type "BaseException") = true := by rw [List.contains_cons]; simp
  show wpAny M A (do standAt pos; raiseStmt env (some (do let v ← eval e env; standAt pos; pure v)) none) Q E s
  refine wpAny_bind (wpAny_standAt ?_)
  unfold raiseStmt
  dsimp only
  refine wpAny_bind (wpAny_bind (wpAny_mono h (fun v s₁ h₁ => wpAny_bind (wpAny_standAt (wpAny_pure ?_))) fun _ _ x => x))
  obtain ⟨a, dd, t, rfl, X, he, hE⟩ := h₁
  obtain ⟨nm, q, NN, bs, hdct, sn, sub, ab, col, dd', k0, k1, k2, k3, k5, hC⟩ := fault_cls X
  obtain ⟨hp, g, d, tk, os⟩ := s₁
  repeat (first | with_reducible refine wpAny_loadPart_at he ?_ | with_reducible refine wpAny_loadPart_at hC ?_ | (with_reducible refine wpAny_isSubtype_exc hC ?_; rw [hcB]) | wp_step)
  exact wpAny_raiseNew_none hh hE

theorem faultAt_of {P : Params} {E : Value → Shared → Prop} {s₁ : Shared} {h₀ : Heap} {L : Addr} {m : Str → Option Value} {rest : List (Addr × Obj)} {e t : Addr} {dd : Option Addr}
    (F : Fr h₀ L s₁.heap m) (X : (hd.heap_39 P).In h₀) (N : News h₀ L s₁.heap ((e, excOf dd (excFs t) #[]) :: rest)) (h : E (.ref e) s₁) : FaultAt P E (.ref e) s₁ :=
  ⟨e, _, _, rfl, X.keeps F.keep, (N (e, _) (.head _)).1, h⟩
end Mine
end
section
open PySem PySem.W PySem.Calls PyProof.Rows
namespace Mine
theorem fresh_E6 : True := by
  w_top off
  k_with_none
  trivial
set_option maxRecDepth 100000
set_option maxHeartbeats 4000000

/-- a fault in flight (or at rest at fl): its class and the dict it bears are known -/
structure Fly (base : Heap) (l : List Env) (e d : Addr) (fl : Value) (h : Heap) : Prop where
  stays : base.StaysIn h
  fresh : base.get? e = none
  frames : h.FunFrames base l
  tr : ∃ oe vs T oT ts, h.get? e = some oe ∧ oe.cls = .ref 52 ∧ oe.dict = some d ∧ oe.data = .fields vs ∧ vs[1]? = some (.ref T) ∧ base.get? T = none ∧ T ≠ e ∧ h.get? T = some oT ∧ oT.data = .fields ts ∧ ts[3]? = some fl

section
variable {M : Model} {A : Around} {E : Value → Shared → Prop} {s : Shared} {base : Heap} {env : Env} {l outer : List Env} {L e d : Addr} {Q : Unit → Shared → Prop}

theorem dict_mapFields (o : Obj) (f : Array Value → Array Value) : (Obj.mapFields f o).dict = o.dict := by
  obtain ⟨c, dd, da, sl⟩ := o
  cases da <;> rfl

theorem fly_entry {oe : Obj} {vs : Array Value} {head : Value} {hadNext : Bool}
    (hfr : A.frames = some (env :: outer)) (hl : s.heap.FunFrames base (env :: outer)) (hf : env.frame = some L) (he : s.heap.get? e = some oe) (hc : oe.cls = .ref 52) (hdd : oe.dict = some d)
    (hkb : base.StaysIn s.heap) (hen : base.get? e = none) (hd : oe.data = .fields vs) (hsz : 1 < vs.size)
    (h : ∀ h', Fly base (env :: outer) e d (rawInt L) h' → s.heap.UpToSlots h' → Q () { s with heap := h' }) :
    wpAny M A (do let a ← frameOf env; let pl ← entryPlaceOf L hadNext; let b ← EntryCells.newEntry head a .none (rawInt L) .none pl; setField (.ref e) 1 b) Q E s := by
  have notFrame : e ∉ (env :: outer).filterMap (·.frame) := fun hm => by
    obtain ⟨_, o, ho, hnf⟩ := hl.mem hm
    rw [he] at ho
    cases ho
    exact hnf vs hd
  refine wpAny_bind (wpAny_frameOf_fun hfr hl hf fun h₁ hs₁ => ?_)
  refine wpAny_bind (wpAny_entryPlaceOf fun pl hpl => ?_)
  unfold EntryCells.newEntry newFields
  refine wpAny_bind (wpAny_newObj_type ?_ (hpl.sizeOk5 _ _ _ _ _))
  have e₁ : h₁.get? e = some oe := (hs₁.2.1 e notFrame).trans he
  have k₁ : base.StaysIn h₁ := fun b o hb => (hs₁.2.1 b fun hm => by rw [(hl.mem hm).1] at hb; cases hb).trans (hkb b o hb)
  have e₂ := Heap.get?_push_of_some (h := h₁) { cls := .type "traceback", dict := none, data := .fields ([head, .ref L, .none, rawInt L, .none] ++ (if pl.isEmpty then List.replicate 6 Value.none else pl)).toArray } e₁
  refine wpAny_setField e₂ hd hsz (h _ ?_ ?_)
  · have ne : h₁.objs.size ≠ e := Nat.ne_of_gt (Heap.lt_size e₁)
    have hd₃ := Obj.data_mapFields hd (·.setIfInBounds 1 (Value.ref h₁.objs.size))
    have e₃ := Heap.get?_update_self (Obj.mapFields (·.setIfInBounds 1 (Value.ref h₁.objs.size))) e₂ (Obj.isFreed_of_fields hd₃)
    have t₃ := (Heap.get?_update_other (h₁.push { cls := .type "traceback", dict := none, data := .fields ([head, .ref L, .none, rawInt L, .none] ++ (if pl.isEmpty then List.replicate 6 Value.none else pl)).toArray })
      (Obj.mapFields (·.setIfInBounds 1 (Value.ref h₁.objs.size))) (Ne.symm ne)).trans (Heap.get?_push_size h₁ rfl)
    have keep : ∀ b o, b ≠ e → h₁.get? b = some o →
        ((h₁.push { cls := .type "traceback", dict := none, data := .fields ([head, .ref L, .none, rawInt L, .none] ++ (if pl.isEmpty then List.replicate 6 Value.none else pl)).toArray }).update e (Obj.mapFields (·.setIfInBounds 1 (Value.ref h₁.objs.size)))).get? b = some o :=
      fun b o hb q => (Heap.get?_update_other _ _ (Ne.symm hb)).trans (Heap.get?_push_of_some _ q)
    refine ⟨fun b o hb => keep b o (fun q => by rw [q, hen] at hb; cases hb) (k₁ b o hb), hen, hl.of_keeps fun b o hb hnf => ?_, ?_⟩
    · obtain ⟨sl, hs⟩ := hs₁.2.2 b o hb
      exact ⟨_, keep b _ (fun q => by rw [q, he] at hb; cases hb; exact hnf vs hd) hs, rfl⟩
    · exact ⟨_, _, h₁.objs.size, _, _, e₃, (Obj.cls_mapFields _ _).trans hc, (dict_mapFields _ _).trans hdd, hd₃, by simp [hsz], k₁.fresh, ne, t₃, rfl, by first | (simp; done) | (rcases hpl with rfl | ⟨_, _, _, _, _, _, _, rfl⟩ <;> simp)⟩
  · intro b o hb hnf
    obtain ⟨sl, hs⟩ := hs₁.2.2 b o hb
    exact ⟨sl, (Heap.get?_update_other _ _ (Ne.symm fun q => by rw [q, he] at hb; cases hb; exact hnf vs hd)).trans (Heap.get?_push_of_some _ hs)⟩

theorem fly_flat {fl : Value} (hh : Fly base l e d fl s.heap) (h : ∀ h', Fly base l e d .none h' → s.heap.UpToSlots h' → Q () { s with heap := h' }) : wpAny M A (setFlight (.ref e) none) Q E s := by
  obtain ⟨hkb, hen, hl, oe, vs, T, oT, ts, he, hc, hdd, hd, h1, hnT, hTe, hT, hdT, h3⟩ := hh
  have hsz3 : 3 < ts.size := (Array.getElem?_eq_some_iff.mp h3).1
  have other : ∀ b, b ≠ T → (s.heap.update T (Obj.mapFields (·.setIfInBounds 3 ((none : Option Addr).elim Value.none fun f => rawInt f)))).get? b = s.heap.get? b := fun b hb => Heap.get?_update_other _ _ (Ne.symm hb)
  have nofield : ∀ b o, s.heap.get? b = some o → (∀ vs, o.data ≠ .fields vs) → b ≠ T := fun b o hb hnf q => by
    rw [q, hT] at hb
    cases hb
    exact hnf ts hdT
  unfold setFlight
  refine wpAny_bind (wpAny_field he hd h1 ?_)
  rw [if_pos (show (Value.ref T != Value.none) = true from by simp)]
  refine wpAny_setField hT hdT hsz3 (h _ ⟨fun b o hb => (other b fun q => by rw [q, hnT] at hb; cases hb).trans (hkb b o hb), hen, hl.of_keeps fun b o hb hnf => ⟨o, (other b (nofield b o hb hnf)).trans hb, rfl⟩, ?_⟩ fun b o hb hnf => ⟨o.slots, (other b (nofield b o hb hnf)).trans hb⟩)
  exact ⟨oe, vs, T, _, _, (other e (Ne.symm hTe)).trans he, hc, hdd, hd, h1, hnT, hTe, Heap.get?_update_self _ hT (Obj.isFreed_of_fields (Obj.data_mapFields hdT _)), Obj.data_mapFields hdT _, by simp [hsz3]⟩

theorem fly_note0 {oe : Obj} {vs : Array Value} (hfr : A.frames = some (env :: outer)) (hl : s.heap.FunFrames base (env :: outer)) (hf : env.frame = some L) (he : s.heap.get? e = some oe) (hc : oe.cls = .ref 52) (hdd : oe.dict = some d)
    (hkb : base.StaysIn s.heap) (hen : base.get? e = none) (hd : oe.data = .fields vs) (h1 : vs[1]? = some .none)
    (h : ∀ h', Fly base (env :: outer) e d (rawInt L) h' → s.heap.UpToSlots h' → Q () { s with heap := h' }) : wpAny M A (noteFrame (.ref e) env) Q E s := by
  unfold noteFrame
  simp only [hf]
  refine wpAny_bind (wpAny_field he hd h1 ?_)
  rw [if_neg (by decide)]
  exact fly_entry hfr hl hf he hc hdd hkb hen hd (Array.getElem?_eq_some_iff.mp h1).1 h

theorem fly_note (hfr : A.frames = some (env :: outer)) (hf : env.frame = some L) (hh : Fly base (env :: outer) e d .none s.heap)
    (h : ∀ h', Fly base (env :: outer) e d (rawInt L) h' → s.heap.UpToSlots h' → Q () { s with heap := h' }) : wpAny M A (noteFrame (.ref e) env) Q E s := by
  obtain ⟨hkb, hen, hl, oe, vs, T, oT, ts, he, hc, hdd, hd, h1, hnT, hTe, hT, hdT, h3⟩ := hh
  unfold noteFrame
  simp only [hf]
  refine wpAny_bind (wpAny_field he hd h1 ?_)
  rw [if_pos (show (Value.ref T != Value.none) = true from by simp)]
  refine wpAny_bind (wpAny_field hT hdT h3 ?_)
  rw [if_neg (show ¬ ((Value.none == rawInt L) = true) from by simp [rawInt])]
  refine wpAny_bind (wpAny_setField hT hdT (Array.getElem?_eq_some_iff.mp h3).1 ?_)
  have other : ∀ b, b ≠ T → (s.heap.update T (Obj.mapFields (·.setIfInBounds 3 Value.none))).get? b = s.heap.get? b := fun b hb => Heap.get?_update_other _ _ (Ne.symm hb)
  have nofield : ∀ b o, s.heap.get? b = some o → (∀ vs, o.data ≠ .fields vs) → b ≠ T := fun b o hb hnf q => by
    rw [q, hT] at hb
    cases hb
    exact hnf ts hdT
  refine fly_entry hfr (hl.of_keeps fun b o hb hnf => ⟨o, (other b (nofield b o hb hnf)).trans hb, rfl⟩) hf ((other e (Ne.symm hTe)).trans he) hc hdd
    (fun b o hb => (other b fun q => by rw [q, hnT] at hb; cases hb).trans (hkb b o hb)) hen hd (Array.getElem?_eq_some_iff.mp h1).1 fun h' x1 x2 => h h' x1 fun b o hb hnf => x2 b o ((other b (nofield b o hb hnf)).trans hb) hnf

theorem fly_leave (hfr : A.frames = some (env :: outer)) (hf : env.frame = some L) (hh : Fly base (env :: outer) e d .none s.heap)
    (h : ∀ h', Fly base outer e d .none h' → s.heap.UpToSlots h' → Q () { s with heap := h' }) : wpAny M A (leaving env (.ref e)) Q E s := by
  unfold leaving
  refine wpAny_bind (fly_note hfr hf hh fun h₁ x1 k1 => fly_flat x1 fun h₂ x2 k2 => ?_)
  exact h _ ⟨x2.stays, x2.fresh, x2.frames.2.2, x2.tr⟩ (k1.trans k2)

theorem fly_leave0 {oe : Obj} {vs : Array Value} (hfr : A.frames = some (env :: outer)) (hl : s.heap.FunFrames base (env :: outer)) (hf : env.frame = some L) (he : s.heap.get? e = some oe) (hc : oe.cls = .ref 52) (hdd : oe.dict = some d)
    (hkb : base.StaysIn s.heap) (hen : base.get? e = none) (hd : oe.data = .fields vs) (h1 : vs[1]? = some .none)
    (h : ∀ h', Fly base outer e d .none h' → s.heap.UpToSlots h' → Q () { s with heap := h' }) : wpAny M A (leaving env (.ref e)) Q E s := by
  unfold leaving
  refine wpAny_bind (fly_note0 hfr hl hf he hc hdd hkb hen hd h1 fun h₁ x1 k1 => fly_flat x1 fun h₂ x2 k2 => ?_)
  exact h _ ⟨x2.stays, x2.fresh, x2.frames.2.2, x2.tr⟩ (k1.trans k2)
end
end Mine
end
section
open PySem PySem.W PySem.Calls PyProof.Rows
namespace Mine
theorem fresh_E7 : True := by
  w_top off
  k_with_none
  trivial
set_option maxRecDepth 100000
set_option maxHeartbeats 4000000

section
variable {prog : Program} {w : World} {A : Around} {E : Value → Shared → Prop} {h : Heap} {g : Array GenState} {dr : Drawn} {t : Nat} {os : OsState} {e d : Addr} {oe : Obj} {es : List DictEntry} {n : Nat} {name : Str} {v : Value}

theorem fault_check_ga {M : Model} {nameV : Value} {Q : Unit → Shared → Prop} (X : (hd.heap_39 w.params).In h) (he : h.get? e = some oe) (hc : oe.cls = .ref 52) (hq : Q () ⟨h, g, dr, t, os⟩) :
    wpAny M A (checkBuiltinCall "BaseException.__getattribute__" ⟨[.ref e, nameV], []⟩) Q E ⟨h, g, dr, t, os⟩ := by
  obtain ⟨nm, q, NN, bs, hdct, sn, sub, ab, col, dd', k0, k1, k2, k3, k5, hC⟩ := fault_cls X
  have hk : builtinKind "BaseException.__getattribute__" = some .slot := by decide +kernel
  have hsplit : splitId "BaseException.__getattribute__" = some ("BaseException", "__getattribute__") := by decide +kernel
  have hcB : (Value.ref 52 :: bm52).contains (.type "BaseException") = true := by rw [List.contains_cons]; simp
  have ha := F.args_bexc_ga (.ref e) nameV
  simp only [checkBuiltinCall, hk, hsplit]
  refine wpAny_bind ?_
  unfold isInstance
  repeat (first | (with_reducible refine wpAny_loadPart_at he ?_; rw [hc]) | (with_reducible refine wpAny_isSubtype_exc hC ?_; rw [hcB]) | wp_step)
  exact hq

theorem fault_attr {expr : Bool} {Q : Value → Shared → Prop} (X : (hd.heap_39 w.params).In h) (he : h.get? e = some oe) (hc : oe.cls = .ref 52) (hno : notCls oe = true) (hdd : oe.dict = some d) (hd' : h.get? d = some (dictOf es n))
    (hga : findIn (hd.heap_39 w.params) (.ref 52) "__getattribute__" = some (some (.builtin "BaseException.__getattribute__"))) (hgx : findIn (hd.heap_39 w.params) (.ref 52) "__getattr__" = some none)
    (hf : findObj (hd.heap_39 w.params) 52 (some (dictOf es n)) name = some (.value v)) (hv : handedIn v = true) (hq : Q v ⟨h, g, dr, t + 1, os⟩) :
    wpAny (model prog w) A (getAttr (.ref e) name expr) Q E ⟨h, g, dr, t, os⟩ := by
  have I : InstAt h e oe 52 (some (dictOf es n)) := ⟨he, hc, hno, by rw [hdd]; exact hd'⟩
  have L0 := I.type (M := model prog w)
  have L1 := looks_findIn (M := model prog w) X hga
  have L2 := looks_findIn (M := model prog w) X hgx
  have L3 := looks_find (M := model prog w) X I hf
  have hx0 : (expr && onTheHeap (Value.builtin "BaseException.__getattribute__")) = false := by cases expr <;> rfl
  have FX := F.attr_Exception
  unfold getAttr getAttrBy
  refine wpAny_bind (wpAny_mkText (wpAny_holding (wpAny_bind (L0.at (wpAny_bind (L1.at ?_))))))
  dsimp only
  rw [if_neg (by decide +kernel)]
  unfold getAttrByItsOwn hookBefore
  rw [if_pos (by rfl)]
  refine wpAny_bind (L2.at ?_)
  refine wpAny_bind (wpAny_attempt (wpAny_holding ?_))
  unfold callGetattribute
  rw [if_neg (by rw [hx0]; decide)]
  unfold boundAndCalled
  rw [FX.ga.bind (.ref e)]
  refine wpAny_bind (wpAny_pure ?_)
  dsimp only [List.cons_append, List.nil_append]
  refine wpAny_call (codeAny_call_builtin FX.ga.plain F.entry_bexc_ga (fault_check_ga X he hc ?_))
  unfold Builtin.«object.__getattribute__»
  refine wpAny_bind (wpAny_pure ?_)
  refine wpAny_bind (wpAny_pure (wpAny_bind (L0.at (wpAny_bind (L3.at ?_)))))
  refine wpAny_pure ?_
  show wpAny _ _ (handedOut v) _ _ _
  rw [handedOut_of hv]
  exact wpAny_pure hq
end
end Mine
end
section
open PySem PySem.W PySem.Calls PyProof.Rows
namespace Mine
theorem fresh_E8 : True := by
  w_top off
  k_with_none
  trivial
set_option maxRecDepth 100000
set_option maxHeartbeats 4000000

/-- a fault in flight above base, and the ledger that it leaves as it was -/
def FlyK (base : Heap) (l : List Env) (e d : Addr) (news : List (Addr × Obj)) (h : Heap) : Prop :=
  ∃ B, base.StaysIn B ∧ (∀ q ∈ news, B.get? q.1 = some q.2 ∧ base.get? q.1 = none) ∧ Fly B l e d .none h

section
variable {M : Model} {A : Around} {E : Value → Shared → Prop} {s' : Shared} {base g g₂ : Heap} {outer : List Env} {L a e d t : Addr} {m : Str → Option Value} {name : Str} {scope : Scope} {cd : Value} {Q : Unit → Shared → Prop} {news : List (Addr × Obj)}

theorem leave_fault (K : Below A base outer g) (F : Fr g L s'.heap m) (N : News g L s'.heap ((e, excOf (some d) (excFs t) #[]) :: news)) (hne : ∀ p ∈ news, p.1 ≠ e)
    (hQ : ∀ h', FlyK base outer e d news h' → g.UpToSlots h' → Q () { s' with heap := h' }) (hk : scope.kind = .function := by rfl) :
    wpAny M (A.deeper (envOf name scope L a cd)) (leaving (envOf name scope L a cd) (.ref e)) Q E s' := by
  have K' := K.push (name := name) (a := a) (cd := cd) F hk
  have he := N (e, _) (.head _)
  have hin : ∀ env ∈ (envOf name scope L a cd :: outer), ∀ b, env.frame = some b → b ∈ e :: (envOf name scope L a cd :: outer).filterMap (·.frame) := fun env hm b hb => .tail _ (List.mem_filterMap.mpr ⟨env, hm, hb⟩)
  have st : base.StaysIn (hideAll s'.heap (e :: (envOf name scope L a cd :: outer).filterMap (·.frame))) := fun b o q => hideAll_get _ (K'.stays b o q) fun hm => by
    rcases List.mem_cons.mp hm with rfl | hm
    · rw [fresh_of_stays K.stays he.2.2] at q; cases q
    · rw [(K'.frames.mem hm).1] at q; cases q
  have hl : ∀ q ∈ news, (hideAll s'.heap (e :: (envOf name scope L a cd :: outer).filterMap (·.frame))).get? q.1 = some q.2 ∧ base.get? q.1 = none := fun q hq => by
    have Nq := N q (.tail _ hq)
    refine ⟨hideAll_get _ Nq.1 fun hm => ?_, fresh_of_stays K.stays Nq.2.2⟩
    rcases List.mem_cons.mp hm with z | hm
    · exact hne q hq z
    · rcases kts_mem hm with z | z
      · exact Nq.2.1 z
      · obtain ⟨o, ho, _⟩ := (K.frames.mem z).2
        rw [Nq.2.2] at ho; cases ho
  refine fly_leave0 (oe := excOf (some d) (excFs t) #[]) K'.stack (funFrames_hide K'.frames hin) rfl he.1 rfl rfl (fun b o q => of_hideAll _ q) (hideAll_none _ (.head _)) rfl rfl fun h' x1 x2 => ?_
  exact hQ h' ⟨_, st, hl, x1⟩ ((Heap.UpToSlots.of_keeps F.keep).trans x2)

theorem leave_fault_on (K : Below A base outer g) (F : Fr g L g₂ m) (R : FlyK base (envOf name scope L a cd :: outer) e d news s'.heap) (hsm : g₂.UpToSlots s'.heap)
    (hQ : ∀ h', FlyK base outer e d news h' → g.UpToSlots h' → Q () { s' with heap := h' }) :
    wpAny M (A.deeper (envOf name scope L a cd)) (leaving (envOf name scope L a cd) (.ref e)) Q E s' := by
  obtain ⟨B, hB, hl, hfl⟩ := R
  exact fly_leave (Around.frames_deeper K.stack) rfl hfl fun h' x1 x2 => hQ h' ⟨B, hB, hl, x1⟩ ((Heap.UpToSlots.of_keeps F.keep).trans (hsm.trans x2))
end

section
variable {prog : Program} {w : World} {A₀ : Around} {E : Value → Shared → Prop} {s' : Shared} {h₀ h : Heap} {outer : List Env} {L a e d : Addr} {m : Str → Option Value} {name : Str} {scope : Scope} {cd : Value}
  {n : Str} {b₀ : Stmt} {suite : List Stmt} {pos np : Pos} {rest : List ExceptHandler} {Q : Flow → Shared → Prop} {news : List (Addr × Obj)}
  {p : Program} {loose : List Str} {mean : ExcName → Option Value} {mg mb : Str → Option Value} {x : Str}

theorem caught_fault (K : Below A₀ h₀ outer h₀) (F : Fr h₀ L h m) (hsm : h.UpToSlots s'.heap) (R : FlyK h₀ (envOf name scope L a cd :: outer) e d news s'.heap)
    (X : (hd.heap_39 w.params).In h₀) (T : TopRead p loose mg mb h₀) (ex : nsIn (hd.heap_39 w.params) mainGlobals x = some (some (.ref 52)))
    (k : ∀ h' oe tk, oe.cls = .ref 52 → oe.dict = some d → notCls oe = true → Fr h₀ L h' (fun y => if y = n then some (.ref e) else m y) → News h₀ L h' ((e, oe) :: news) →
      wpAny (model prog w) ((A₀.deeper (envOf name scope L a cd)).mark (some (.ref e))) (execs (b₀ :: suite) (envOf name scope L a cd))
        (fun f s₄ => wpAny (model prog w) (A₀.deeper (envOf name scope L a cd)) (do bindName (envOf name scope L a cd) n .none; unbindBehindTheSuite (envOf name scope L a cd) n pos) (fun _ s₅ => Q f s₅) E s₄)
        (AsSuiteRaised (model prog w) ((A₀.deeper (envOf name scope L a cd)).mark (some (.ref e))) (envOf name scope L a cd) n pos (notedBy (model prog w) ((A₀.deeper (envOf name scope L a cd)).mark (some (.ref e))) (envOf name scope L a cd) (cameBackBy (model prog w) (A₀.deeper (envOf name scope L a cd)) (envOf name scope L a cd) E)))
        { s' with heap := h', toks := tk })
    (hk : scope.kind = .function := by rfl) (hlo : (envOf name scope L a cd).kindOf n = some .local := by rfl) (hx : (envOf name scope L a cd).kindOf x = some .globalImplicit := by rfl) (hd : (x == ("__debug__" : Str)) = false := by decide) :
    wpAny (model prog w) (A₀.deeper (envOf name scope L a cd)) (noteFrame (.ref e) (envOf name scope L a cd))
      (fun _ s₂ => wpAny (model prog w) (A₀.deeper (envOf name scope L a cd)) (setFlight (.ref e) none) (fun _ s₃ =>
        wpAny (model prog w) (A₀.deeper (envOf name scope L a cd)) (handleBy (.ref e) (envOf name scope L a cd) (.ExceptHandler (some (.Name x np)) (some n) (b₀ :: suite) pos :: rest)) Q E s₃) E s₂) E s' := by
  obtain ⟨B, hB, hl, hfl⟩ := R
  have hL : B.get? L = none := by
    obtain ⟨_, ⟨L', _, hf, hn', _⟩, _⟩ := hfl.frames
    obtain rfl : L = L' := Option.some.inj hf
    exact hn'
  refine fly_note (Around.frames_deeper K.stack) rfl hfl fun h₄ x4 k4 => ?_
  refine fly_flat x4 fun h₅ x5 k5 => ?_
  have hsm₅ := k4.trans k5
  have st5 : h₀.StaysIn h₅ := fun b o q => x5.stays b o (hB b o q)
  have F₅ := F.of_stays st5 (hsm.trans hsm₅)
  obtain ⟨oe5, vs5, T5, oT5, ts5, he5, hc5, hd5, hda5, r5⟩ := x5.tr
  obtain ⟨nm, q, NN, bs, hdct, sn, sub, ab, col, dd', k0, k1, k2, k3, k5', hC⟩ := fault_cls (X.keeps st5)
  refine wpAny_handleBy_cons (codeAny_handlers_test (name_K F₅ X T ex ?_ hk hx hd)) (by intro q; cases q)
  refine wpAny_excMatches_sub_self hC he5 hc5 (by decide) (codeAny_handlers_suite_as ?_)
  refine fly_flat x5 fun h₆ x6 k6 => ?_
  have st6 : h₀.StaysIn h₆ := fun b o q => x6.stays b o (hB b o q)
  have F₆ := F.of_stays st6 ((hsm.trans hsm₅).trans k6)
  obtain ⟨oe6, vs6, T6, oT6, ts6, he6, hc6, hd6, hda6, r6⟩ := x6.tr
  have N₆ : News h₀ L h₆ ((e, oe6) :: news) := fun q hq => by
    rcases List.mem_cons.mp hq with rfl | hq
    · refine ⟨he6, fun z => ?_, ?_⟩
      · have := x6.fresh
        obtain ⟨oL, _, _, hL6, hLd, _⟩ := F₆.ns
        rw [← z, he6] at hL6
        cases hL6
        rw [hda6] at hLd
        cases hLd
      · cases q : h₀.get? e with
        | none => rfl
        | some o => have := hB _ _ q; rw [x6.fresh] at this; cases this
    · exact ⟨x6.stays _ _ (hl q hq).1, (fun z => by have := (hl q hq).1; rw [z, hL] at this; cases this), (hl q hq).2⟩
  refine stN F₆ N₆ (fun h₇ F₇ N₇ => ?_) hk hlo
  exact k h₇ oe6 _ hc6 hd6 (by obtain ⟨_, _, da, _⟩ := oe6; cases hda6; rfl) F₇ N₇
end
end Mine
end
section
open PySem PySem.W PySem.Calls PySem.Spec PyProof.Rows PyProof.V
namespace Mine
theorem fresh_C11 : True := by
  w_top off
  k_with_none
  trivial
set_option maxRecDepth 100000
set_option maxHeartbeats 4000000

/-- a contract of a def that may raise a fault: Exc tells its place -/
def SaysR (w : World) (mean : ExcName → Option Value) (mg mb : Str → Option Value) (f : Addr) (dn du : Nat) (news : List (Addr × Obj)) (vs : List Value) (Ret : Value → List (Addr × Obj) → Prop) (Exc : Int → Prop) : Prop :=
  ∀ (dp un : Nat) (gd : Option (List Code)) (cn : Str) (cs : Scope) (a : Addr) (ccd : Value) (cl : List (Str × Addr)) (outer : List Env) (A₀ : Around) (base h₀ : Heap) (L : Addr) (m : Str → Option Value) (s : Shared) (Q E : Value → Shared → Prop),
    Below A₀ base outer h₀ → Fr h₀ L s.heap m → (hd.heap_39 w.params).In h₀ → News h₀ L s.heap news → Top view LS mean mg mb h₀ → cs.kind = .function → dp + dn < recursionLimit → un + du < cLine →
    (∀ r news' h' tk', Ret r news' → Fr h₀ L h' m → News h₀ L h' news' → Q r { s with heap := h', toks := tk' }) →
    (∀ e d k u1 u2 x tx tkk g₂ h' tk', Exc k → Fr h₀ L g₂ m → g₂.UpToSlots h' → FlyK base (envX cn cs L a ccd cl :: outer) e d ((d, whatAt w.params u1 u2 x tx k tkk) :: news) h' → E (.ref e) { s with heap := h', toks := tk' }) →
    wpAny (model PySem.Challenge.rw_no0354_01.row.prog w) (ktrTop dp un gd cn cs L a ccd cl outer) (call (.ref f) vs) Q E s

section
variable {M : Model} {A : Around} {E : Value → Shared → Prop} {s' : Shared} {base g g₂ : Heap} {outer : List Env} {L a e d t : Addr} {m : Str → Option Value} {name : Str} {scope : Scope} {cd : Value} {news : List (Addr × Obj)} {wd tt : Obj}
theorem leave_fault2 {Q : Unit → Shared → Prop} (K : Below A base outer g) (F : Fr g L s'.heap m) (N : News g L s'.heap ((e, excOf (some d) (excFs t) #[]) :: (d, wd) :: (t, tt) :: news)) (hde : d ≠ e) (hne : ∀ p ∈ news, p.1 ≠ e)
    (hQ : ∀ h', FlyK base outer e d ((d, wd) :: news) h' → g.UpToSlots h' → Q () { s' with heap := h' }) (hk : scope.kind = .function := by rfl) :
    wpAny M (A.deeper (envOf name scope L a cd)) (leaving (envOf name scope L a cd) (.ref e)) Q E s' := by
  have N1 : News g L s'.heap ((e, excOf (some d) (excFs t) #[]) :: (d, wd) :: news) := by
    refine KStt.news_of N fun p hp => ?_
    cases hp with
    | head => exact .head _
    | tail _ hp =>
      cases hp with
      | head => exact .tail _ (.head _)
      | tail _ hp => exact .tail _ (.tail _ (.tail _ hp))
  refine leave_fault K F (news := (d, wd) :: news) N1 (fun p hp => ?_) hQ hk
  cases hp with
  | head => exact hde
  | tail _ hp => exact hne p hp
theorem FlyK.drop {l : List Env} {nw nw' : List (Addr × Obj)} {h : Heap} (R : FlyK base l e d nw h) (hs : ∀ p ∈ nw', p ∈ nw) : FlyK base l e d nw' h := by
  obtain ⟨B, h1, h2, h3⟩ := R
  exact ⟨B, h1, fun q hq => h2 q (hs q hq), h3⟩
theorem Raise_faultX {env : Env} {x : PySem.Expr} {pos : Pos} {Q : Flow → Shared → Prop} {P : Params} {h₀ : Heap} {s : Shared} (hh : A.handled = none) (_X : (hd.heap_39 P).In h₀)
    (h : wpAny M A (eval x env) (FaultAt P E) E s) : wpAny M A (exec (.Raise (some x) none pos) env) Q E s := Raise_fault hh h
end

theorem mem_join (sep : Str) : ∀ (ps : List Str) (p : Str) (c : Nat), p ∈ ps → c ∈ p.cps.toList → c ∈ (Str.join sep ps).cps.toList
  | [x], p, c, hp, hc => by
    rw [List.mem_singleton.mp hp] at hc
    exact hc
  | x :: y :: r, p, c, hp, hc => by
    have e : Str.join sep (x :: y :: r) = x ++ sep ++ Str.join sep (y :: r) := rfl
    rw [e, PySem.Str.cps_append, Array.toList_append, PySem.Str.cps_append, Array.toList_append]
    rcases List.mem_cons.mp hp with rfl | hp
    · simp [hc]
    · have := mem_join sep (y :: r) p c hp hc
      simp [this]
theorem part_ok {x sep y : Str} (hx : okT x) (hy : y ∈ Txt.split x sep) : okT y := by
  have hj := StrLaws.join_split x sep
  refine ⟨?_, fun c hc => hx.2 c ?_⟩
  · have := join_mem_le sep _ y hy
    rw [hj] at this
    exact Nat.le_trans this hx.1
  · have := mem_join sep _ y c hy hc
    rwa [hj] at this
theorem part_okL {x sep y : Str} {l : List (Str × Tok)} {i : Nat} (hl : List.map (fun p => p.1) l = Txt.split x sep) (hx : okT x) (hy : (List.map (fun p => p.1) l)[i]? = some y) : okT y :=
  part_ok hx (hl ▸ List.mem_of_getElem? hy)
theorem figs_same {l : List Str} {i : Nat} {y z : Str} (h1 : l[i]? = some y) (h2 : l[i]? = some z) (hf : figs z = true) : figs y = true := by
  rw [h1] at h2
  rw [Option.some.inj h2]
  exact hf

theorem news_keep2 {h₀ h : Heap} {L : Addr} {p q : Addr × Obj} {news : List (Addr × Obj)} (N : News h₀ L h (p :: q :: news)) : News h₀ L h (p :: news) := by
  refine KStt.news_of N fun x hx => ?_
  cases hx with
  | head => exact .head _
  | tail _ hx => exact .tail _ (.tail _ hx)
theorem lt_of2 {q D : Addr} {l : List (Addr × Obj)} (h : q < D ∧ AllLt D l) : ∀ p ∈ l, p.1 < D := lt_of_all l h.2
def dayOf : List Str → Option (Int × Int × Int)
  | [p, q, r] => if figs p = true ∧ figs r = true ∧ p.length ≤ 2 ∧ r.length = 4 ∧ dayOk (numS r) (monthNo q) (numS p) = true then some (numS r, monthNo q, numS p) else none
  | _ => none
theorem three {ps : List Str} : ps.length ≠ 3 ∨ ∃ p q r, ps = [p, q, r] := by
  rcases ps with _ | ⟨p, _ | ⟨q, _ | ⟨r, _ | ⟨x, t⟩⟩⟩⟩ <;> simp
theorem dayOf_no {ps : List Str} (h : ps.length ≠ 3) : dayOf ps = none := by
  rcases ps with _ | ⟨p, _ | ⟨q, _ | ⟨r, _ | ⟨x, t⟩⟩⟩⟩ <;> first | rfl | exact absurd rfl h
theorem d_none1 {α : Type} {l : List α} {f : α → Str} (h : (l.length : Int) ≠ 3) : dayOf (List.map f l) = none := dayOf_no (by rw [List.length_map]; omega)
theorem d_none2 {ps : List Str} {y : Str} (hf : figs y = false) (h : ps[Int.toNat 0]? = some y) : dayOf ps = none := by
  rcases three (ps := ps) with h3 | ⟨p, q, r, rfl⟩
  · exact dayOf_no h3
  · obtain rfl : p = y := by simpa using h
    simp [dayOf, hf]
theorem d_none3 {ps : List Str} {y : Str} (hf : figs y = false) (h : ps[Int.toNat 2]? = some y) : dayOf ps = none := by
  rcases three (ps := ps) with h3 | ⟨p, q, r, rfl⟩
  · exact dayOf_no h3
  · obtain rfl : r = y := by simpa using h
    simp [dayOf, hf]
theorem d_none4 {ps : List Str} {y : Str} (hf : 2 < (y.length : Int)) (h : ps[Int.toNat 0]? = some y) : dayOf ps = none := by
  rcases three (ps := ps) with h3 | ⟨p, q, r, rfl⟩
  · exact dayOf_no h3
  · obtain rfl : p = y := by simpa using h
    rw [dayOf, if_neg]
    omega
theorem d_none5 {ps : List Str} {y : Str} (hf : (y.length : Int) ≠ 4) (h : ps[Int.toNat 2]? = some y) : dayOf ps = none := by
  rcases three (ps := ps) with h3 | ⟨p, q, r, rfl⟩
  · exact dayOf_no h3
  · obtain rfl : r = y := by simpa using h
    rw [dayOf, if_neg]
    omega
theorem d_none6 {ps : List Str} {y0 y1 y2 : Str} (hf : dayOk (numS y2) (monthNo y1) (numS y0) = false) (h2 : ps[Int.toNat 2]? = some y2) (h1 : ps[Int.toNat 1]? = some y1) (h0 : ps[Int.toNat 0]? = some y0) : dayOf ps = none := by
  rcases three (ps := ps) with h3 | ⟨p, q, r, rfl⟩
  · exact dayOf_no h3
  · obtain rfl : r = y2 := by simpa using h2
    obtain rfl : q = y1 := by simpa using h1
    obtain rfl : p = y0 := by simpa using h0
    simp [dayOf, hf]
theorem d_some {α : Type} {l : List α} {f : α → Str} {y0 y1 y2 : Str} (h3 : (l.length : Int) = 3) (hf : dayOk (numS y2) (monthNo y1) (numS y0) = true) (h2 : (List.map f l)[Int.toNat 2]? = some y2) (h1 : (List.map f l)[Int.toNat 1]? = some y1) (h0 : (List.map f l)[Int.toNat 0]? = some y0)
    (f0 : figs y0 = true) (f2 : figs y2 = true) (l0 : ¬ 2 < (y0.length : Int)) (l2 : (y2.length : Int) = 4) : dayOf (List.map f l) = some (numS y2, monthNo y1, numS y0) := by
  rcases three (ps := List.map f l) with h | ⟨p, q, r, h⟩
  · rw [List.length_map] at h
    omega
  · rw [h] at h0 h1 h2
    rw [h]
    obtain rfl : r = y2 := by simpa using h2
    obtain rfl : q = y1 := by simpa using h1
    obtain rfl : p = y0 := by simpa using h0
    rw [dayOf, if_pos ⟨f0, f2, by omega, by omega, hf⟩]
theorem len_same1 {ps : List Str} {i : Nat} {y z : Str} (hf : ¬ 2 < (z.length : Int)) (h1 : ps[i]? = some z) (h2 : ps[i]? = some y) : ¬ 2 < (y.length : Int) := by
  rw [h1] at h2
  rwa [← Option.some.inj h2]
theorem len_same2 {ps : List Str} {i : Nat} {y z : Str} (hf : (z.length : Int) = 4) (h1 : ps[i]? = some z) (h2 : ps[i]? = some y) : (y.length : Int) = 4 := by
  rw [h1] at h2
  rwa [← Option.some.inj h2]
theorem lay_C11_1 : True := by
  k_with_none
  k_with "exec Raise some none" => (k_here; k_dflt (refine' Raise_faultX ?aQ9 ?XQ9 ?_; (case aQ9 => exact rfl); (case XQ9 => k_asm)))
  k_with "FaultAt" => (k_here; k_dflt (refine' faultAt_of ?FQ9 ?XQ9 ?NQ9 ?_; (case FQ9 => k_asm); (case XQ9 => k_asm); (case NQ9 => k_asm)))
  k_with "leaving ref" => (k_here; k_dflt (refine' leave_fault2 ?KQ9 ?FQ9 ?NQ9 ?deQ9 ?neQ9 ?_; (case KQ9 => k_asm); (case FQ9 => k_asm); (case NQ9 => k_asm); (case deQ9 => assumption); (case neQ9 => assumption)); (intro h9 R9 U9))
  k_with "call ref" => (k_here; (with_reducible show wpAny _ _ (call (Value.ref 52) [Value.str _ _]) _ _ _); k_dflt (refine' mk_fault1 ?BQ9 ?FQ9 ?XQ9 ?NQ9 ?TQ9 ?hkQ9 ?hiQ9 ?hdQ9 ?huQ9 ?_; (case BQ9 => k_asm); (case FQ9 => k_asm); (case XQ9 => k_asm); (case NQ9 => k_asm); (case TQ9 => k_asm); (case hkQ9 => first | exact rfl | assumption); (case hiQ9 => k_is); (case hdQ9 => ktr_room); (case huQ9 => ktr_units)); intro e' d' t' u1' u2' tk' h' tk2' F' N' l1 l2 l3; (try k_sweep))
  k_with "call ref" => (k_here; (with_reducible show wpAny _ _ (call (Value.ref 52) [Value.str _ _, Value.int _ _]) _ _ _); k_dflt (refine' mk_fault2 ?BQ9 ?FQ9 ?XQ9 ?NQ9 ?TQ9 ?hkQ9 ?hiQ9 ?hdQ9 ?huQ9 ?_; (case BQ9 => k_asm); (case FQ9 => k_asm); (case XQ9 => k_asm); (case NQ9 => k_asm); (case TQ9 => k_asm); (case hkQ9 => first | exact rfl | assumption); (case hiQ9 => k_is); (case hdQ9 => ktr_room); (case huQ9 => ktr_units)); intro e' d' t' u1' u2' h' tk2' F' N' l1 l2 l3; (try k_sweep))
  k_with "call builtin:len" => (k_here; (with_reducible show wpAny _ _ (call (Value.builtin "len") [Value.str _ _]) _ _ _); k_dflt (refine' len_str ?fQ9 ?_; (case fQ9 => (have okq := part_okL (by assumption) (by assumption) (by assumption)); (have okq1 := okq.1); omega)))
  trivial
theorem lay_C11_2 : True := by
  k_with "call type:int" => (k_here; (with_reducible show wpAny _ _ (call (Value.type "int") [Value.str _ _]) _ _ _); k_dflt (refine' KIN.call_text (fig_read ?fQ9 ?lQ9) ?l2Q9 ?_; (case fQ9 => (first | assumption | (with_reducible rename (figs _ = true) => hf1; first | exact figs_same (by assumption) (by assumption) hf1 | (clear hf1; with_reducible rename (figs _ = true) => hf2; exact figs_same (by assumption) (by assumption) hf2)))); (case lQ9 => (have okq := part_okL (by assumption) (by assumption) (by assumption)); exact Nat.le_trans okq.1 (by decide)); (case l2Q9 => (have okq := part_okL (by assumption) (by assumption) (by assumption)); exact Nat.le_trans okq.1 (by decide))))
  k_with "eval Call" => (k_here; (with_reducible show wpAny _ _ (eval (Expr.Call (Expr.Name (Str.ofString "is_figures") _) _ [] _) _) _ _ _); (fail_if_success (goal_has PyProof.Rows.SeqLeaf)); k_dflt (refine Call_ ?_))
  k_with "eval Call" => (k_here; (with_reducible show wpAny _ _ (eval (Expr.Call (Expr.Name (Str.ofString "month_number") _) _ [] _) _) _ _ _); (fail_if_success (goal_has PyProof.Rows.SeqLeaf)); k_dflt (refine Call_ ?_))
  k_with "eval Call" => (k_here; (with_reducible show wpAny _ _ (eval (Expr.Call (Expr.Name (Str.ofString "is_day") _) _ [] _) _) _ _ _); (fail_if_success (goal_has PyProof.Rows.SeqLeaf)); k_dflt (refine Call_ ?_))
  k_with "call ref" => (k_here; (with_reducible show wpAny _ _ (call (Value.ref 159) _) _ _ _); k_dflt (refine' Says.useB ?uBQ9 ?uFQ9 ?uXQ9 ?uNQ9 ?uTQ9 ?ukQ9 (c_is_figures _ _ _ ?p1Q9) ?udQ9 ?uuQ9 ?_; (case uBQ9 => k_asm); (case uFQ9 => k_asm); (case uXQ9 => k_asm); (case uNQ9 => k_asm); (case uTQ9 => k_asm); (case ukQ9 => first | exact rfl | assumption); (case p1Q9 => first | assumption | exact part_okL (by assumption) (by assumption) (by assumption)); (case udQ9 => ktr_room); (case uuQ9 => ktr_units)); (intro h9 tk9 F9 N9); (try dsimp only); (try k_sweep); (try k_fold))
  k_with "call ref" => (k_here; (with_reducible show wpAny _ _ (call (Value.ref 135) _) _ _ _); k_dflt (refine' Says.useI ?uBQ9 ?uFQ9 ?uXQ9 ?uNQ9 ?uTQ9 ?ukQ9 (c_month_number _ _ _ ?p1Q9) ?udQ9 ?uuQ9 ?_; (case uBQ9 => k_asm); (case uFQ9 => k_asm); (case uXQ9 => k_asm); (case uNQ9 => k_asm); (case uTQ9 => k_asm); (case ukQ9 => first | exact rfl | assumption); (case p1Q9 => first | assumption | exact part_okL (by assumption) (by assumption) (by assumption)); (case udQ9 => ktr_room); (case uuQ9 => ktr_units)); (intro t9 h9 tk9 F9 N9); (try dsimp only); (try k_sweep); (try k_fold))
  k_with "call ref" => (k_here; (with_reducible show wpAny _ _ (call (Value.ref 116) _) _ _ _); k_dflt (refine' Says.useB ?uBQ9 ?uFQ9 ?uXQ9 ?uNQ9 ?uTQ9 ?ukQ9 (c_is_day _ _ _ _ _ _ _) ?udQ9 ?uuQ9 ?_; (case uBQ9 => k_asm); (case uFQ9 => k_asm); (case uXQ9 => k_asm); (case uNQ9 => k_asm); (case uTQ9 => k_asm); (case ukQ9 => first | exact rfl | assumption);  (case udQ9 => ktr_room); (case uuQ9 => ktr_units)); (intro h9 tk9 F9 N9); (try dsimp only); (try k_sweep); (try k_fold))
  trivial

theorem c_day_in {w : World} {mean : ExcName → Option Value} {mg mb : Str → Option Value} (news : List (Addr × Obj)) (x : Str) (t u v : Tok) (a0 : Int) (hx : okT x) (h26 : x.length = 26) (ha : 0 ≤ a0) (ha1 : a0 ≤ 1) :
    SaysR w mean mg mb 180 10 140 news [.str x t, .int a0 u, .int 11 v] (fun r n' => ∃ a y m d t1 t2 t3, r = .ref a ∧ n' = (a, tupO [.int y t1, .int m t2, .int d t3]) :: news ∧ (∀ p ∈ news, p.1 < a) ∧ dayOf (Txt.split (Txt.slice x (some a0) (some 11)) (Str.ofString "-")) = some (y, m, d)) (fun k => k = a0 ∧ dayOf (Txt.split (Txt.slice x (some a0) (some 11)) (Str.ofString "-")) = none) := by
  have hsl := okT_ss (j := 11) hx ha (by omega) (by omega)
  unfold SaysR
  k_fill
  intro dp un gd cn cs a ccd cl outer A₀ base h₀ L m s Q E B F X N T hk hd hu hret hexc
  refine wpAny_call ?_
  k_dflt cell_enter
  k_steps
  all_goals (with_reducible rename (List.map _ _ = Txt.split _ _) => hl)
  all_goals try (refine hexc _ _ a0 _ _ _ _ _ _ _ _ ⟨rfl, ?_⟩ (by assumption) (by assumption) (FlyK.drop (by assumption) (by kcj_all)); rw [← hl]; first | exact d_none1 (by assumption) | exact d_none2 (by assumption) (by assumption) | exact d_none3 (by assumption) (by assumption) | exact d_none4 (by assumption) (by assumption) | exact d_none5 (by assumption) (by assumption) | exact d_none6 (by assumption) (by assumption) (by assumption) (by assumption))
  rename_i _ _ _ _ _ _
  refine' hret _ ((_, tupO [.int _ _, .int _ _, .int _ _]) :: news) _ _ ?R ?F ?N
  case N => exact news_keep2 (by assumption)
  case F => k_asm
  case R => exact ⟨_, _, _, _, _, _, _, rfl, rfl, lt_of2 (by assumption), by rw [← hl]; exact d_some (by assumption) (by assumption) (by assumption) (by assumption) (by assumption) (by (first | assumption | (with_reducible rename (figs _ = true) => hf1; first | exact figs_same (by assumption) (by assumption) hf1 | (clear hf1; with_reducible rename (figs _ = true) => hf2; exact figs_same (by assumption) (by assumption) hf2)))) (by (first | assumption | (with_reducible rename (figs _ = true) => hf1; first | exact figs_same (by assumption) (by assumption) hf1 | (clear hf1; with_reducible rename (figs _ = true) => hf2; exact figs_same (by assumption) (by assumption) hf2)))) (len_same1 (by assumption) (by assumption) (by assumption)) (len_same2 (by assumption) (by assumption) (by assumption))⟩
end Mine
end
section
open PySem PySem.W PySem.Calls PySem.Spec PyProof.Rows PyProof.V
namespace Mine
theorem fresh_L2 : True := by
  w_top off
  k_with_none
  trivial
set_option maxRecDepth 100000
set_option maxHeartbeats 4000000
section
variable {prog : Program} {w : World} {A : Around} {E : Value → Shared → Prop} {s : Shared} {h₀ : Heap} {L : Addr} {m : Str → Option Value} {env : Env}
/-- the turns of a comprehension with one test -/
theorem rest_test {α : Type} {ct elt : Expr} {x : Str} {scope : Scope} {cl : List (Str × Addr)} {S : List (Addr × Obj) → Prop} {P : Nat → Value → Prop} {Fin : List Value → List (Addr × Obj) → Prop} {news : List (Addr × Obj)} {n : Nat}
    (In : α → Value → Prop) (xs : List α) (p : α → Bool) (hn : n = xs.length) (hP : ∀ i v, P i v → ∃ a, xs[i]? = some a ∧ In a v)
    (turn : ∀ a v I oI C oC D m₂ ys h tk (E' : Value → Shared → Prop), a ∈ xs → In a v → LCg.NsObj oC m₂ → m₂ x = some v → Fr h₀ L h m → News h₀ L h ((I, oI) :: (C, oC) :: (D, LCg.lst ys) :: news) → LCg.Off3 I C D news → ((@Ne Nat I C) ∧ (@Ne Nat I D) ∧ (@Ne Nat C D)) →
      wpAny (model prog w) A (isTrue ct (compEnvC scope cl C env) (eval ct (compEnvC scope cl C env))) (fun ok s' => if ok = true then
        (wpAny (model prog w) A (eval elt (compEnvC scope cl C env)) (LCg.CompEnd h₀ L m { s with heap := h, toks := tk } I oI C oC D (LCg.lst ys) S (fun y news' => p a = true ∧ news' = news ∧ y = v)) E' s')
        else LCg.CompEnd h₀ L m { s with heap := h, toks := tk } I oI C oC D (LCg.lst ys) S (fun _ news' => p a = false ∧ news' = news) Value.none s') E' { s with heap := h, toks := tk })
    (fin : ∀ ys, Are In ys (xs.filter p) → Fin ys news) : LCt.CompRestT prog w A h₀ L m env ct elt x scope cl s S P Fin n 0 [] news := by
  have key : ∀ (j i : Nat) (ys : List Value), i + j = xs.length → Are In ys ((xs.take i).filter p) → LCt.CompRestT prog w A h₀ L m env ct elt x scope cl s S P Fin j i ys news := by
    intro j
    induction j with
    | zero =>
      intro i ys hi hy
      obtain rfl : i = xs.length := by omega
      rw [List.take_length] at hy
      exact LCt.CompRestT.zero (fin ys hy)
    | succ j ih =>
      intro i ys hi hy
      refine LCt.CompRestT.succ ?_
      intro v I oI C oC D m₂ h tk E' hv hC hx F N off ne
      obtain ⟨a, ha, hin⟩ := hP i v hv
      refine wpAny_mono (turn a v I oI C oC D m₂ ys h tk E' (List.mem_of_getElem? ha) hin hC hx F N off ne) (fun ok s₂ hq => ?_) fun _ _ e => e
      have et : xs.take (i + 1) = xs.take i ++ [a] := by rw [List.take_add_one, ha]; rfl
      cases ok with
      | true =>
        simp only [if_true] at hq ⊢
        refine wpAny_mono hq (fun r s₃ hr => ?_) fun _ _ e => e
        obtain ⟨h', tk', nw, e, F', N', off', hS, hpa, rfl, rfl⟩ := hr
        refine ⟨h', tk', _, e, F', N', off', hS, ?_⟩
        refine ih (i + 1) _ (by omega) ?_
        rw [et, List.filter_append, List.filter_cons, if_pos hpa, List.filter_nil]
        exact hy.snoc hin
      | false =>
        simp only [Bool.false_eq_true, if_false] at hq ⊢
        obtain ⟨h', tk', nw, e, F', N', off', hS, hpa, rfl⟩ := hq
        refine ⟨h', tk', _, e, F', N', off', hS, ?_⟩
        refine ih (i + 1) _ (by omega) ?_
        rw [et, List.filter_append, List.filter_cons, if_neg (by simp [hpa]), List.filter_nil, List.append_nil]
        exact hy
  rw [hn]
  exact key _ 0 [] (by omega) (by simp only [List.take_zero, List.filter_nil]; exact .nil)
end
theorem strs_are : ∀ {vs : List Value} {bs : List Str}, StrsAre vs bs → Are IsS vs bs
  | _, _, .nil => .nil
  | _, _, .cons _ t r => .cons ⟨t, rfl⟩ (strs_are r)
theorem are_carried : ∀ {vs : List Value} {bs : List Str}, Are IsS vs bs → CarriedAll vs (bs.map PyData.str)
  | _, _, .nil => .nil
  | _, _, .cons ⟨t, e⟩ r => by subst e; exact .cons (.str _ _) (are_carried r)
section
variable {prog : Program} {w : World} {A : Around} {E : Value → Shared → Prop} {s : Shared} {h₀ : Heap} {L : Addr} {m : Str → Option Value} {env : Env}
theorem strs_at {vs : List Value} {ps : List Str} (hst : StrsAre vs ps) : ∀ (i : Nat) (v : Value), vs.toArray[i]? = some v → ∃ a, ps[i]? = some a ∧ IsS a v := fun i v h => are_at (strs_are hst) (by simpa using h)
theorem strs_size {vs : List Value} {ps : List Str} (hst : StrsAre vs ps) : vs.toArray.size = ps.length := by rw [List.size_toArray, are_len (strs_are hst)]
theorem test_strs {vs : List Value} {ps : List Str} {ct elt : Expr} {x : Str} {scope : Scope} {cl : List (Str × Addr)} {S : List (Addr × Obj) → Prop} {Fin : List Value → List (Addr × Obj) → Prop} {news : List (Addr × Obj)} (hst : StrsAre vs ps) (p : Str → Bool)
    (turn : ∀ a t I oI C oC D m₂ ys h tk (E' : Value → Shared → Prop), a ∈ ps → LCg.NsObj oC m₂ → m₂ x = some (.str a t) → Fr h₀ L h m → News h₀ L h ((I, oI) :: (C, oC) :: (D, LCg.lst ys) :: news) → LCg.Off3 I C D news → ((@Ne Nat I C) ∧ (@Ne Nat I D) ∧ (@Ne Nat C D)) →
      wpAny (model prog w) A (isTrue ct (compEnvC scope cl C env) (eval ct (compEnvC scope cl C env))) (fun ok s' => if ok = true then
        (wpAny (model prog w) A (eval elt (compEnvC scope cl C env)) (LCg.CompEnd h₀ L m { s with heap := h, toks := tk } I oI C oC D (LCg.lst ys) S (fun y news' => p a = true ∧ news' = news ∧ y = .str a t)) E' s')
        else LCg.CompEnd h₀ L m { s with heap := h, toks := tk } I oI C oC D (LCg.lst ys) S (fun _ news' => p a = false ∧ news' = news) Value.none s') E' { s with heap := h, toks := tk })
    (fin : ∀ ys, Are IsS ys (ps.filter p) → Fin ys news) : LCt.CompRestT prog w A h₀ L m env ct elt x scope cl s S (fun i v => vs.toArray[i]? = some v) Fin vs.toArray.size 0 [] news :=
  rest_test IsS ps p (strs_size hst) (strs_at hst) (fun a v I oI C oC D m₂ ys h tk E' ha hv => by obtain ⟨t, rfl⟩ := hv; exact turn a t I oI C oC D m₂ ys h tk E' ha) fin
theorem gen_strs {β : Type} {vs : List Value} {ps : List Str} {elt : Expr} {x : Str} {scope : Scope} {cl : List (Str × Addr)} {S : List (Addr × Obj) → Prop} {Fin : List Value → List (Addr × Obj) → Prop} {news : List (Addr × Obj)} (hst : StrsAre vs ps) (Out : β → Value → Prop) (g : Str → β)
    (turn : ∀ a t I oI C oC D m₂ ys h tk (E' : Value → Shared → Prop), a ∈ ps → LCg.NsObj oC m₂ → m₂ x = some (.str a t) → Fr h₀ L h m → News h₀ L h ((I, oI) :: (C, oC) :: (D, LCg.lst ys) :: news) → LCg.Off3 I C D news → ((@Ne Nat I C) ∧ (@Ne Nat I D) ∧ (@Ne Nat C D)) →
      wpAny (model prog w) A (eval elt (compEnvC scope cl C env)) (LCg.CompEnd h₀ L m { s with heap := h, toks := tk } I oI C oC D (LCg.lst ys) S (fun y news' => news' = news ∧ Out (g a) y)) E' { s with heap := h, toks := tk })
    (fin : ∀ ys, Are Out ys (ps.map g) → Fin ys news) : LCg.CompRest prog w A h₀ L m env elt x scope cl s S (fun i v => vs.toArray[i]? = some v) Fin vs.toArray.size 0 [] news :=
  rest_gen IsS Out ps g (strs_size hst) (strs_at hst) (fun a v I oI C oC D m₂ ys h tk E' ha hv => by obtain ⟨t, rfl⟩ := hv; exact turn a t I oI C oC D m₂ ys h tk E' ha) fin
end
/-- what the reading of a time's parts gives -/
def badPart (p : Str) : Bool := !(decide (p.length = 2) && figs p)
def timeOf : List Str → Option (Int × Int × Int)
  | [p, q, r] => if [p, q, r].filter badPart = [] ∧ timeOk (numS p) (numS q) (numS r) = true then some (numS p, numS q, numS r) else none
  | _ => none
def begunOf (x : Str) : Int := if Txt.item x 0 == Str.ofString " " then 1 else 0
def readI (x : Str) : Except Int (Int × Int × Int × Int × Int × Int × Int) :=
  if (x.length : Int) ≠ 26 then .error (-1) else
  if (Txt.item x 2 != Str.ofString "-") = true ∨ (Txt.item x 11 != Str.ofString " ") = true then .error 0 else
  match dayOf (Txt.split (Txt.slice x (some (begunOf x)) (some 11)) (Str.ofString "-")) with
  | none => .error (begunOf x)
  | some (y, m, d) =>
    match timeOf (Txt.split (Txt.slice x (some 12) (some 20)) (Str.ofString ":")) with
    | none => .error 12
    | some (h, i, s) =>
      match zoneIn (Txt.slice x (some 21) none) with
      | none => .error 20
      | some z => if (Txt.item x 20 != Str.ofString " ") = true then .error 20 else .ok (y, m, d, h, i, s, z)
theorem sub_refl {l : List (Addr × Obj)} : ∀ q ∈ l, q ∈ l := fun _ h => h
theorem sub_cons {p : Addr × Obj} {l m : List (Addr × Obj)} (h : ∀ q ∈ m, q ∈ l) : ∀ q ∈ m, q ∈ p :: l := fun q hq => .tail _ (h q hq)
theorem sub_keep {p : Addr × Obj} {l m : List (Addr × Obj)} (h : ∀ q ∈ m, q ∈ l) : ∀ q ∈ p :: m, q ∈ p :: l := fun q hq => by
  cases hq with
  | head => exact .head _
  | tail _ hq => exact .tail _ (h q hq)
/-- the state's count of tokens forgotten -/
theorem gen_toks {α : Type} {M : Model} {A : Around} {t : Sem α} {Q : α → Shared → Prop} {E : Value → Shared → Prop} {h : Heap} {g : Array GenState} {d : Drawn} {X : Nat} {o : OsState} (H : ∀ tk : Nat, wpAny M A t Q E ⟨h, g, d, tk, o⟩) : wpAny M A t Q E ⟨h, g, d, X, o⟩ := H X
end Mine
end
section
open PySem PySem.W PySem.Calls PySem.Spec PyProof.Rows PyProof.V
namespace Mine
theorem fresh_C12 : True := by
  w_top off
  k_with_none
  trivial
set_option maxRecDepth 100000
set_option maxHeartbeats 4000000

section
variable {w : World} {mean : ExcName → Option Value} {mg mb : Str → Option Value}
theorem use_day {dp un : Nat} {gd : Option (List Code)} {cn : Str} {cs : Scope} {a : Addr} {ccd : Value} {cl : List (Str × Addr)} {outer : List Env} {A₀ : Around} {base h₀ : Heap} {L : Addr} {m : Str → Option Value} {s : Shared} {Q E : Value → Shared → Prop} {news : List (Addr × Obj)} (B : Below A₀ base outer h₀) (F : Fr h₀ L s.heap m) (X : (hd.heap_39 w.params).In h₀) (N : News h₀ L s.heap news) (T : Top view LS mean mg mb h₀) (hk : cs.kind = .function) {x : Str} {a0 : Int} {vs : List Value} {dn du : Nat}
  (C : SaysR w mean mg mb 180 dn du news vs (fun r n' => ∃ a y m d t1 t2 t3, r = .ref a ∧ n' = (a, tupO [.int y t1, .int m t2, .int d t3]) :: news ∧ (∀ p ∈ news, p.1 < a) ∧ dayOf (Txt.split (Txt.slice x (some a0) (some 11)) (Str.ofString "-")) = some (y, m, d)) (fun k => k = a0 ∧ dayOf (Txt.split (Txt.slice x (some a0) (some 11)) (Str.ofString "-")) = none))
  (hd : dp + dn < recursionLimit) (hu : un + du < cLine)
  (ret : ∀ a y m' d t1 t2 t3 h' tk', dayOf (Txt.split (Txt.slice x (some a0) (some 11)) (Str.ofString "-")) = some (y, m', d) → (∀ p ∈ news, p.1 < a) → Fr h₀ L h' m → News h₀ L h' ((a, tupO [.int y t1, .int m' t2, .int d t3]) :: news) → Q (.ref a) { s with heap := h', toks := tk' })
  (exc : dayOf (Txt.split (Txt.slice x (some a0) (some 11)) (Str.ofString "-")) = none → ∀ e d u1 u2 z tx tkk g₂ h' tk', Fr h₀ L g₂ m → g₂.UpToSlots h' → FlyK base (envX cn cs L a ccd cl :: outer) e d ((d, whatAt w.params u1 u2 z tx a0 tkk) :: news) h' → E (.ref e) { s with heap := h', toks := tk' }) :
  wpAny (model PySem.Challenge.rw_no0354_01.row.prog w) (ktrTop dp un gd cn cs L a ccd cl outer) (call (.ref 180) vs) Q E s := by
  refine C _ _ _ _ _ _ _ _ _ _ _ _ _ _ _ _ _ B F X N T hk hd hu (fun r n' h' tk' hR F' N' => ?_) (fun e d k u1 u2 z tx tkk g₂ h' tk' hx F' U' R' => ?_)
  · obtain ⟨a, y, m', d, t1, t2, t3, rfl, rfl, hl, hd⟩ := hR
    exact ret a y m' d t1 t2 t3 h' tk' hd hl F' N'
  · obtain ⟨rfl, hn⟩ := hx
    exact exc hn e d u1 u2 z tx tkk g₂ h' tk' F' U' R'

theorem use_O {dp un : Nat} {gd : Option (List Code)} {cn : Str} {cs : Scope} {a : Addr} {ccd : Value} {cl : List (Str × Addr)} {outer : List Env} {A₀ : Around} {base h₀ : Heap} {L : Addr} {m : Str → Option Value} {s : Shared} {Q E : Value → Shared → Prop} {news : List (Addr × Obj)} (B : Below A₀ base outer h₀) (F : Fr h₀ L s.heap m) (X : (hd.heap_39 w.params).In h₀) (N : News h₀ L s.heap news) (T : Top view LS mean mg mb h₀) (hk : cs.kind = .function) {o : Option Int} {f : Addr} {vs : List Value} {dn du : Nat}
  (C : Says w mean mg mb f dn du news vs (fun r n' => n' = news ∧ IsO o r))
  (hd : dp + dn < recursionLimit) (hu : un + du < cLine)
  (ret0 : ∀ (_ : Int) (_ : Tok), o = none → ∀ h' tk', Fr h₀ L h' m → News h₀ L h' news → Q .none { s with heap := h', toks := tk' })
  (ret1 : ∀ v t, o = some v → ∀ h' tk', Fr h₀ L h' m → News h₀ L h' news → Q (.int v t) { s with heap := h', toks := tk' }) :
  wpAny (model PySem.Challenge.rw_no0354_01.row.prog w) (ktrTop dp un gd cn cs L a ccd cl outer) (call (.ref f) vs) Q E s := by
  refine Says.use B F X N T hk C hd hu (fun r n' h' tk' hR F' N' => ?_)
  obtain ⟨rfl, ⟨ho, rfl⟩ | ⟨v, t, ho, rfl⟩⟩ := hR
  · exact ret0 0 0 ho h' tk' F' N'
  · exact ret1 v t ho h' tk' F' N'
end
theorem begun1 {x : Str} (h : (Txt.item x 0 == Str.ofString " ") = true) : begunOf x = 1 := by unfold begunOf; rw [if_pos h]
theorem begun0 {x : Str} (h : (Txt.item x 0 == Str.ofString " ") = false) : begunOf x = 0 := by unfold begunOf; rw [if_neg (by rw [h]; decide)]
theorem r_len {x : Str} (h : (x.length : Int) ≠ 26) : readI x = .error (-1) := by unfold readI; rw [if_pos h]
theorem r_sep2 {x : Str} (h : (x.length : Int) = 26) (h2 : (Txt.item x 2 != Str.ofString "-") = true) : readI x = .error 0 := by
  unfold readI; rw [if_neg (by simp [h]), if_pos (.inl h2)]
theorem r_sep11 {x : Str} (h : (x.length : Int) = 26) (h2 : (Txt.item x 11 != Str.ofString " ") = true) : readI x = .error 0 := by
  unfold readI; rw [if_neg (by simp [h]), if_pos (.inr h2)]
section
variable {x : Str} {b : Int} (h : (x.length : Int) = 26) (h2 : (Txt.item x 2 != Str.ofString "-") = false) (h11 : (Txt.item x 11 != Str.ofString " ") = false) (hb : begunOf x = b)
include h h2 h11 hb
theorem r_day (hd : dayOf (Txt.split (Txt.slice x (some b) (some 11)) (Str.ofString "-")) = none) : readI x = .error b := by
  unfold readI; rw [if_neg (by simp [h]), if_neg (by rw [h2, h11]; decide), hb, hd]
section
variable {y m d : Int} (hd : dayOf (Txt.split (Txt.slice x (some b) (some 11)) (Str.ofString "-")) = some (y, m, d))
include hd
theorem r_time (ht : timeOf (Txt.split (Txt.slice x (some 12) (some 20)) (Str.ofString ":")) = none) : readI x = .error 12 := by
  unfold readI; rw [if_neg (by simp [h]), if_neg (by rw [h2, h11]; decide), hb, hd]; simp only [ht]
section
variable {hh i s : Int} (ht : timeOf (Txt.split (Txt.slice x (some 12) (some 20)) (Str.ofString ":")) = some (hh, i, s))
include ht
theorem r_zone (hz : zoneIn (Txt.slice x (some 21) none) = none) : readI x = .error 20 := by
  unfold readI; rw [if_neg (by simp [h]), if_neg (by rw [h2, h11]; decide), hb, hd]; simp only [ht, hz]
theorem r_blank {z : Int} (hz : zoneIn (Txt.slice x (some 21) none) = some z) (h20 : (Txt.item x 20 != Str.ofString " ") = true) : readI x = .error 20 := by
  unfold readI; rw [if_neg (by simp [h]), if_neg (by rw [h2, h11]; decide), hb, hd]; simp only [ht, hz]; rw [if_pos h20]
theorem r_ok {z : Int} (hz : zoneIn (Txt.slice x (some 21) none) = some z) (h20 : (Txt.item x 20 != Str.ofString " ") = false) : readI x = .ok (y, m, d, hh, i, s, z) := by
  unfold readI; rw [if_neg (by simp [h]), if_neg (by rw [h2, h11]; decide), hb, hd]; simp only [ht, hz]; rw [if_neg (by rw [h20]; decide)]
end
end
end
theorem t_no {α : Type} {l : List α} {f : α → Str} (h : (l.length : Int) ≠ 3) : timeOf (List.map f l) = none := by
  have h : (List.map f l).length ≠ 3 := by rw [List.length_map]; omega
  generalize List.map f l = ps at *
  rcases ps with _ | ⟨p, _ | ⟨q, _ | ⟨r, _ | ⟨x, t⟩⟩⟩⟩ <;> first | rfl | exact absurd rfl h
theorem t_bad {ps : List Str} (h : ((ps.filter badPart).isEmpty) = false) : timeOf ps = none := by
  rcases ps with _ | ⟨p, _ | ⟨q, _ | ⟨r, _ | ⟨x, t⟩⟩⟩⟩
  case cons.cons.cons.nil =>
    rw [timeOf, if_neg]
    rintro ⟨h1, _⟩
    rw [h1] at h
    cases h
  all_goals rfl
theorem t_not {p q r : Str} (h : timeOk (numS p) (numS q) (numS r) = false) : timeOf [p, q, r] = none := by
  rw [timeOf, if_neg]
  rintro ⟨_, h1⟩
  rw [h] at h1
  cases h1
theorem t_ok {p q r : Str} (h : ([p, q, r].filter badPart).isEmpty = true) (ht : timeOk (numS p) (numS q) (numS r) = true) : timeOf [p, q, r] = some (numS p, numS q, numS r) := by
  rw [timeOf, if_pos ⟨List.isEmpty_iff.mp h, ht⟩]
theorem bad_figs {ps : List Str} {p : Str} (h : (ps.filter badPart).isEmpty = true) (hp : p ∈ ps) : figs p = true ∧ p.length = 2 := by
  have h1 := List.isEmpty_iff.mp h
  have h2 := List.filter_eq_nil_iff.mp h1 p hp
  unfold badPart at h2
  simpa [and_comm] using h2
theorem str_ok {z : Str} (h : okT z) : PyData.strOk z = true := by
  simp only [PyData.strOk, Array.all_eq_true', Bool.and_eq_true, decide_eq_true_eq]
  intro c hc
  exact h.2 c (by simpa using hc)
theorem filt_ok {ps : List Str} {x sep : Str} (hl : ps = Txt.split x sep) (hx : okT x) (q : Str → Bool) : ∀ z ∈ ps.filter q, PyData.strOk z = true := fun z hz => str_ok (part_ok hx (hl ▸ (List.mem_filter.mp hz).1))
theorem bad1 {p : Str} (h : (p.length : Int) ≠ 2) : badPart p = true := by
  unfold badPart
  rw [show decide (p.length = 2) = false from decide_eq_false (by omega)]
  rfl
theorem bad2 {p : Str} (h : figs p = false) : badPart p = true := by
  unfold badPart
  rw [h, Bool.and_false]
  rfl
theorem good2 {p : Str} (h : (p.length : Int) = 2) (hf : figs p = true) : badPart p = false := by
  unfold badPart
  rw [hf, show decide (p.length = 2) = true from decide_eq_true (by omega)]
  rfl
/-- the two ways of begun meet -/
def BegunMark (_x : Str) : Prop := True
def BegunEnd (x : Str) (h₀ : Heap) (L : Addr) (m : Str → Option Value) (news : List (Addr × Obj)) (s : Shared) (r : Value) (s' : Shared) : Prop :=
  ∃ t h tk, r = .int (begunOf x) t ∧ s' = { s with heap := h, toks := tk } ∧ Fr h₀ L h m ∧ News h₀ L h news
section
variable {M : Model} {A : Around} {E : Value → Shared → Prop} {s : Shared} {x : Str} {h₀ h : Heap} {L : Addr} {m : Str → Option Value} {news : List (Addr × Obj)} {t tk : Nat}
theorem begun_1 (hi : (Txt.item x 0 == Str.ofString " ") = true) (F : Fr h₀ L h m) (N : News h₀ L h news) : BegunEnd x h₀ L m news s (.int 1 t) { s with heap := h, toks := tk } := ⟨t, h, tk, by rw [begun1 hi], rfl, F, N⟩
theorem begun_0 (hi : (Txt.item x 0 == Str.ofString " ") = false) (F : Fr h₀ L h m) (N : News h₀ L h news) : BegunEnd x h₀ L m news s (.int 0 t) { s with heap := h, toks := tk } := ⟨t, h, tk, by rw [begun0 hi], rfl, F, N⟩
theorem begun_join {tm : Sem Value} {Q : Value → Shared → Prop} (_hm : BegunMark x) (_F : Fr h₀ L s.heap m) (_N : News h₀ L s.heap news)
    (J : ∀ t h tk, Fr h₀ L h m → News h₀ L h news → Q (.int (begunOf x) t) { s with heap := h, toks := tk }) (hb : wpAny M A tm (BegunEnd x h₀ L m news s) E s) : wpAny M A tm Q E s :=
  wpAny_mono hb (fun r s' hr => by obtain ⟨t, h, tk, rfl, rfl, F, N⟩ := hr; exact J t h tk F N) fun _ _ e => e
theorem begun_ge : 0 ≤ begunOf x := by unfold begunOf; split <;> decide
theorem begun_le : begunOf x ≤ 1 := by unfold begunOf; split <;> decide
theorem begun_11 : begunOf x ≤ 11 := by unfold begunOf; split <;> decide
theorem news_mom {P : Params} {q dq : Addr} {y mo d hh i sc z : Int} {u v : Nat → Tok} {rest : List (Addr × Obj)} (N : News h₀ L h ((q, instObj 91 dq) :: (dq, momD P y mo d hh i sc z u v) :: rest)) (hs : ∀ p ∈ news, p ∈ rest) :
    News h₀ L h ((q, instObj 91 dq) :: (dq, momD P y mo d hh i sc z u v) :: news) := by
  refine KStt.news_of N fun p hp => ?_
  cases hp with
  | head => exact .head _
  | tail _ hp =>
    cases hp with
    | head => exact .tail _ (.head _)
    | tail _ hp => exact .tail _ (.tail _ (hs p hp))
end
theorem lt_sub {d : Addr} {rest news : List (Addr × Obj)} (h : ∀ p ∈ rest, p.1 < d) (hs : ∀ p ∈ news, p ∈ rest) : ∀ p ∈ news, p.1 < d := fun p hp => h p (hs p hp)
theorem three' {α : Type} {l : List α} (f : α → Str) (h : (l.length : Int) = 3) : ∃ p q r, List.map f l = [p, q, r] := by
  rcases three (ps := List.map f l) with h1 | h1
  · rw [List.length_map] at h1
    omega
  · exact h1
theorem are3 {β : Type} {Out : β → Value → Prop} {ys : List Value} {a b c : β} (h : Are Out ys [a, b, c]) : ∃ u v x, ys = [u, v, x] ∧ Out a u ∧ Out b v ∧ Out c x := by
  obtain _ | ⟨h1, _ | ⟨h2, _ | ⟨h3, h4⟩⟩⟩ := h
  cases h4
  exact ⟨_, _, _, rfl, h1, h2, h3⟩
end Mine
end
section
open PySem PySem.W PySem.Calls PySem.Spec PyProof.Rows PyProof.V
namespace Mine
theorem fresh_C13 : True := by
  w_top off
  k_with_none
  trivial
set_option maxRecDepth 100000
set_option maxHeartbeats 4000000
theorem lay_C13_1 : True := by
  k_with_none
  k_with "exec Raise some none" => (k_here; k_dflt (refine' Raise_faultX ?aQ9 ?XQ9 ?_; (case aQ9 => exact rfl); (case XQ9 => k_asm)))
  k_with "FaultAt" => (k_here; k_dflt (refine' faultAt_of ?FQ9 ?XQ9 ?NQ9 ?_; (case FQ9 => k_asm); (case XQ9 => k_asm); (case NQ9 => k_asm)))
  k_with "leaving ref" => (k_here; k_dflt (refine' leave_fault2 ?KQ9 ?FQ9 ?NQ9 ?deQ9 ?neQ9 ?_; (case KQ9 => k_asm); (case FQ9 => k_asm); (case NQ9 => k_asm); (case deQ9 => assumption); (case neQ9 => assumption)); (intro h9 R9 U9))
  k_with "call ref" => (k_here; (with_reducible show wpAny _ _ (call (Value.ref 52) [Value.str _ _]) _ _ _); k_dflt (refine' mk_fault1 ?BQ9 ?FQ9 ?XQ9 ?NQ9 ?TQ9 ?hkQ9 ?hiQ9 ?hdQ9 ?huQ9 ?_; (case BQ9 => k_asm); (case FQ9 => k_asm); (case XQ9 => k_asm); (case NQ9 => k_asm); (case TQ9 => k_asm); (case hkQ9 => first | exact rfl | assumption); (case hiQ9 => k_is); (case hdQ9 => ktr_room); (case huQ9 => ktr_units)); intro e' d' t' u1' u2' tk' h' tk2' F' N' l1 l2 l3; (try k_sweep))
  k_with "call ref" => (k_here; (with_reducible show wpAny _ _ (call (Value.ref 52) [Value.str _ _, Value.int _ _]) _ _ _); k_dflt (refine' mk_fault2 ?BQ9 ?FQ9 ?XQ9 ?NQ9 ?TQ9 ?hkQ9 ?hiQ9 ?hdQ9 ?huQ9 ?_; (case BQ9 => k_asm); (case FQ9 => k_asm); (case XQ9 => k_asm); (case NQ9 => k_asm); (case TQ9 => k_asm); (case hkQ9 => first | exact rfl | assumption); (case hiQ9 => k_is); (case hdQ9 => ktr_room); (case huQ9 => ktr_units)); intro e' d' t' u1' u2' h' tk2' F' N' l1 l2 l3; (try k_sweep))
  k_with "leaving ref" => (k_here; k_dflt (refine' leave_fault_on ?KQ9 ?FQ9 ?RQ9 ?UQ9 ?_; (case RQ9 => assumption); (case KQ9 => k_asm); (case FQ9 => assumption); (case UQ9 => assumption)); (intro h9 R9 U9))
  k_with "call ref" => (k_here; (with_reducible show wpAny _ _ (call (Value.ref 180) _) _ _ _); k_dflt (refine' use_day ?uBQ9 ?uFQ9 ?uXQ9 ?uNQ9 ?uTQ9 ?ukQ9 (c_day_in _ _ _ _ _ _ ?p1Q9 ?p2Q9 ?p3Q9 ?p4Q9) ?udQ9 ?uuQ9 ?_ ?_; (case uBQ9 => k_asm); (case uFQ9 => k_asm); (case uXQ9 => k_asm); (case uNQ9 => k_asm); (case uTQ9 => k_asm); (case ukQ9 => first | exact rfl | assumption); (case p1Q9 => assumption); (case p2Q9 => assumption); (case p3Q9 => decide); (case p4Q9 => decide); (case udQ9 => ktr_room); (case uuQ9 => ktr_units)); rotate_left; (intro hno9 e9 d9 u91 u92 z9 tx9 tkk9 g9 h9 tk9 F9 U9 R9); rotate_right; (intro a9 y9 m9 d9 t91 t92 t93 h9 tk9 hday9 hlt9 F9 N9); (try k_lt hlt9); (try dsimp only); (try k_sweep); (try k_fold))
  k_with "eval ListComp" => (k_here; (with_reducible show wpAny _ _ (eval (Expr.ListComp (Expr.Name _ _) _ _ _) _) _ _ _); k_dflt (refine LCt.ListComp_T (F₀ := by k_asm) (by with_unfolding_all rfl) (by decide) (by rfl) (by decide) (by rfl) ?_))
  k_with "eval ListComp" => (k_here; (with_reducible show wpAny _ _ (eval (Expr.ListComp (Expr.Call _ _ _ _) _ _ _) _) _ _ _); k_dflt (refine LCg.ListComp_U (F₀ := by k_asm) (by with_unfolding_all rfl) (by decide) (by rfl) (by decide) (by rfl) ?_))
  k_with "call ref" => (k_here; (with_reducible show wpAny _ _ (call (Value.ref 166) _) _ _ _); k_dflt (refine' use_O ?uBQ9 ?uFQ9 ?uXQ9 ?uNQ9 ?uTQ9 ?ukQ9 (c_zone_in _ _ _ ?p1Q9) ?udQ9 ?uuQ9 ?_ ?_; (case uBQ9 => k_asm); (case uFQ9 => k_asm); (case uXQ9 => k_asm); (case uNQ9 => k_asm); (case uTQ9 => k_asm); (case ukQ9 => first | exact rfl | assumption); (case p1Q9 => exact okT_sn (by assumption) (by decide) (by omega)); (case udQ9 => ktr_room); (case uuQ9 => ktr_units)) <;> (intro v9 t9; intro ho9 h9 tk9 F9 N9; (try dsimp only); (try k_sweep); (try k_fold)))
  k_with "compareOp NotEq ref ref" => (k_here; k_dflt (refine' ne_strs_nil ?aQ9 ?bQ9 ?iQ9 ?zQ9 ?uQ9 ?_; (case aQ9 => is_list); (case bQ9 => is_list); (case iQ9 => assumption); (case zQ9 => assumption); (case uQ9 => ke_room)))
  k_with "eval Call" => (k_here; (with_reducible show wpAny _ _ (eval (Expr.Call (Expr.Name (Str.ofString "is_figures") _) _ [] _) _) _ _ _); (fail_if_success (goal_has PyProof.Rows.SeqLeaf)); k_dflt (refine Call_ ?_))
  k_with "eval Call" => (k_here; (with_reducible show wpAny _ _ (eval (Expr.Call (Expr.Name (Str.ofString "day_in") _) _ [] _) _) _ _ _); (fail_if_success (goal_has PyProof.Rows.SeqLeaf)); k_dflt (refine Call_ ?_))
  k_with "eval Call" => (k_here; (with_reducible show wpAny _ _ (eval (Expr.Call (Expr.Name (Str.ofString "is_time") _) _ [] _) _) _ _ _); (fail_if_success (goal_has PyProof.Rows.SeqLeaf)); k_dflt (refine Call_ ?_))
  k_with "eval Call" => (k_here; (with_reducible show wpAny _ _ (eval (Expr.Call (Expr.Name (Str.ofString "zone_in") _) _ [] _) _) _ _ _); (fail_if_success (goal_has PyProof.Rows.SeqLeaf)); k_dflt (refine Call_ ?_))
  k_with "call ref" => (k_here; (with_reducible show wpAny _ _ (call (Value.ref 159) _) _ _ _); k_dflt (refine' Says.useB ?uBQ9 ?uFQ9 ?uXQ9 ?uNQ9 ?uTQ9 ?ukQ9 (c_is_figures _ _ _ ?p1Q9) ?udQ9 ?uuQ9 ?_; (case uBQ9 => k_asm); (case uFQ9 => k_asm); (case uXQ9 => k_asm); (case uNQ9 => k_asm); (case uTQ9 => k_asm); (case ukQ9 => first | exact rfl | assumption); (case p1Q9 => first | assumption | exact part_okL (by assumption) (by assumption) (by assumption)); (case udQ9 => ktr_room); (case uuQ9 => ktr_units)); (intro h9 tk9 F9 N9); (try dsimp only); (try k_sweep); (try k_fold))
  k_with "call ref" => (k_here; (with_reducible show wpAny _ _ (call (Value.ref 123) _) _ _ _); k_dflt (refine' Says.useB ?uBQ9 ?uFQ9 ?uXQ9 ?uNQ9 ?uTQ9 ?ukQ9 (c_is_time _ _ _ _ _ _ _) ?udQ9 ?uuQ9 ?_; (case uBQ9 => k_asm); (case uFQ9 => k_asm); (case uXQ9 => k_asm); (case uNQ9 => k_asm); (case uTQ9 => k_asm); (case ukQ9 => first | exact rfl | assumption);  (case udQ9 => ktr_room); (case uuQ9 => ktr_units)); (intro h9 tk9 F9 N9); (try dsimp only); (try k_sweep); (try k_fold))
  trivial

theorem c_read_short {w : World} {mean : ExcName → Option Value} {mg mb : Str → Option Value} (news : List (Addr × Obj)) (x : Str) (t : Tok) (hx : okT x) (h26 : x.length ≠ 26) :
    SaysR w mean mg mb 185 14 170 news [.str x t] (fun r n' => ∃ q dq y m d h i s z u t, r = .ref q ∧ n' = (q, instObj 91 dq) :: (dq, momD w.params y m d h i s z u t) :: news ∧ (∀ p ∈ news, p.1 < dq) ∧ dq < q ∧ readI x = .ok (y, m, d, h, i, s, z)) (fun k => readI x = .error k) := by
  have hx1 : x.length ≤ 100 := hx.1
  have h27 : (x.length : Int) ≠ 26 := by omega
  unfold SaysR
  k_fill
  intro dp un gd cn cs a ccd cl outer A₀ base h₀ L m s Q E B F X N T hk hd hu hret hexc
  refine wpAny_call ?_
  k_dflt cell_enter
  k_steps
  all_goals first | (exfalso; omega) | (refine hexc _ _ _ _ _ _ _ _ _ _ _ ?_ (by assumption) (by assumption) (FlyK.drop (by assumption) (by kcj_all)); exact r_len (by assumption))
end Mine
end
section
open PySem PySem.W PySem.Calls PySem.Spec PyProof.Rows PyProof.V
namespace Mine
theorem fresh_C14 : True := by
  w_top off
  k_with_none
  trivial
set_option maxRecDepth 100000
set_option maxHeartbeats 4000000
theorem lay_C14_1 : True := by
  k_with_none
  k_with "exec Raise some none" => (k_here; k_dflt (refine' Raise_faultX ?aQ9 ?XQ9 ?_; (case aQ9 => exact rfl); (case XQ9 => k_asm)))
  k_with "FaultAt" => (k_here; k_dflt (refine' faultAt_of ?FQ9 ?XQ9 ?NQ9 ?_; (case FQ9 => k_asm); (case XQ9 => k_asm); (case NQ9 => k_asm)))
  k_with "leaving ref" => (k_here; k_dflt (refine' leave_fault2 ?KQ9 ?FQ9 ?NQ9 ?deQ9 ?neQ9 ?_; (case KQ9 => k_asm); (case FQ9 => k_asm); (case NQ9 => k_asm); (case deQ9 => assumption); (case neQ9 => assumption)); (intro h9 R9 U9))
  k_with "call ref" => (k_here; (with_reducible show wpAny _ _ (call (Value.ref 52) [Value.str _ _]) _ _ _); k_dflt (refine' mk_fault1 ?BQ9 ?FQ9 ?XQ9 ?NQ9 ?TQ9 ?hkQ9 ?hiQ9 ?hdQ9 ?huQ9 ?_; (case BQ9 => k_asm); (case FQ9 => k_asm); (case XQ9 => k_asm); (case NQ9 => k_asm); (case TQ9 => k_asm); (case hkQ9 => first | exact rfl | assumption); (case hiQ9 => k_is); (case hdQ9 => ktr_room); (case huQ9 => ktr_units)); intro e' d' t' u1' u2' tk' h' tk2' F' N' l1 l2 l3; (try k_sweep))
  k_with "call ref" => (k_here; (with_reducible show wpAny _ _ (call (Value.ref 52) [Value.str _ _, Value.int _ _]) _ _ _); k_dflt (refine' mk_fault2 ?BQ9 ?FQ9 ?XQ9 ?NQ9 ?TQ9 ?hkQ9 ?hiQ9 ?hdQ9 ?huQ9 ?_; (case BQ9 => k_asm); (case FQ9 => k_asm); (case XQ9 => k_asm); (case NQ9 => k_asm); (case TQ9 => k_asm); (case hkQ9 => first | exact rfl | assumption); (case hiQ9 => k_is); (case hdQ9 => ktr_room); (case huQ9 => ktr_units)); intro e' d' t' u1' u2' h' tk2' F' N' l1 l2 l3; (try k_sweep))
  k_with "execs nil" => (k_here; (with_reducible refine gen_toks ?_); intro tk; (with_reducible refine wpAny_execs_nil ?_); try dsimp only)
  k_with "execs cons" => (k_here; (with_reducible refine gen_toks ?_); intro tk; (with_reducible refine wpAny_execs_cons ?_); try dsimp only)
  k_with "leaving ref" => (k_here; k_dflt (refine' leave_fault_on ?KQ9 ?FQ9 ?RQ9 ?UQ9 ?_; (case RQ9 => assumption); (case KQ9 => k_asm); (case FQ9 => assumption); (case UQ9 => assumption)); (intro h9 R9 U9))
  k_with "call ref" => (k_here; (with_reducible show wpAny _ _ (call (Value.ref 180) _) _ _ _); k_dflt (refine' use_day ?uBQ9 ?uFQ9 ?uXQ9 ?uNQ9 ?uTQ9 ?ukQ9 (c_day_in _ _ _ _ _ _ ?p1Q9 ?p2Q9 ?p3Q9 ?p4Q9) ?udQ9 ?uuQ9 ?_ ?_; (case uBQ9 => k_asm); (case uFQ9 => k_asm); (case uXQ9 => k_asm); (case uNQ9 => k_asm); (case uTQ9 => k_asm); (case ukQ9 => first | exact rfl | assumption); (case p1Q9 => assumption); (case p2Q9 => assumption); (case p3Q9 => exact begun_ge); (case p4Q9 => exact begun_le); (case udQ9 => ktr_room); (case uuQ9 => ktr_units)); rotate_left; (intro hno9 e9 d9 u91 u92 z9 tx9 tkk9 g9 h9 tk9 F9 U9 R9); rotate_right; (intro a9 y9 m9 d9 t91 t92 t93 h9 tk9 hday9 hlt9 F9 N9); (try k_lt hlt9); (try dsimp only); (try k_sweep); (try k_fold))
  k_with "eval ListComp" => (k_here; (with_reducible show wpAny _ _ (eval (Expr.ListComp (Expr.Name _ _) _ _ _) _) _ _ _); k_dflt (refine LCt.ListComp_T (F₀ := by k_asm) (by with_unfolding_all rfl) (by decide) (by rfl) (by decide) (by rfl) ?_))
  k_with "eval ListComp" => (k_here; (with_reducible show wpAny _ _ (eval (Expr.ListComp (Expr.Call _ _ _ _) _ _ _) _) _ _ _); k_dflt (refine LCg.ListComp_U (F₀ := by k_asm) (by with_unfolding_all rfl) (by decide) (by rfl) (by decide) (by rfl) ?_))
  k_with "call ref" => (k_here; (with_reducible show wpAny _ _ (call (Value.ref 166) _) _ _ _); k_dflt (refine' use_O ?uBQ9 ?uFQ9 ?uXQ9 ?uNQ9 ?uTQ9 ?ukQ9 (c_zone_in _ _ _ ?p1Q9) ?udQ9 ?uuQ9 ?_ ?_; (case uBQ9 => k_asm); (case uFQ9 => k_asm); (case uXQ9 => k_asm); (case uNQ9 => k_asm); (case uTQ9 => k_asm); (case ukQ9 => first | exact rfl | assumption); (case p1Q9 => exact okT_sn (by assumption) (by decide) (by omega)); (case udQ9 => ktr_room); (case uuQ9 => ktr_units)) <;> (intro v9 t9; intro ho9 h9 tk9 F9 N9; (try dsimp only); (try k_sweep); (try k_fold)))
  k_with "compareOp NotEq ref ref" => (k_here; k_dflt (refine' ne_strs_nil ?aQ9 ?bQ9 ?iQ9 ?zQ9 ?uQ9 ?_; (case aQ9 => is_list); (case bQ9 => is_list); (case iQ9 => assumption); (case zQ9 => assumption); (case uQ9 => ke_room)))
  k_with "CompSrcT" => ((with_reducible rename (StrsAre _ _) => hst9); k_dflt (refine LCt.CompSrcT.ledger (by rfl) (by k_asm) (by k_asm) (by k_mem) (by rw [strs_size hst9, sizeLine_eq, List.length_map]; omega) ?_); intro g2)
  k_with "CompSrc" => ((with_reducible rename (StrsAre _ _) => hst9); k_dflt (refine LCg.CompSrc.ledger (by rfl) (by k_asm) (by k_asm) (by k_mem) (by rw [strs_size hst9, sizeLine_eq, List.length_map]; omega) ?_); intro g3)
  k_with "eval Call" => (k_here; (with_reducible show wpAny _ _ (eval (Expr.Call (Expr.Name (Str.ofString "is_figures") _) _ [] _) _) _ _ _); (fail_if_success (goal_has PyProof.Rows.SeqLeaf)); k_dflt (refine Call_ ?_))
  k_with "eval Call" => (k_here; (with_reducible show wpAny _ _ (eval (Expr.Call (Expr.Name (Str.ofString "day_in") _) _ [] _) _) _ _ _); (fail_if_success (goal_has PyProof.Rows.SeqLeaf)); k_dflt (refine Call_ ?_))
  k_with "eval Call" => (k_here; (with_reducible show wpAny _ _ (eval (Expr.Call (Expr.Name (Str.ofString "is_time") _) _ [] _) _) _ _ _); (fail_if_success (goal_has PyProof.Rows.SeqLeaf)); k_dflt (refine Call_ ?_))
  k_with "eval Call" => (k_here; (with_reducible show wpAny _ _ (eval (Expr.Call (Expr.Name (Str.ofString "zone_in") _) _ [] _) _) _ _ _); (fail_if_success (goal_has PyProof.Rows.SeqLeaf)); k_dflt (refine Call_ ?_))
  k_with "eval IfExp" => (k_here; (fail_if_success (with_reducible show wpAny _ _ _ (BegunEnd _ _ _ _ _ _) _ _)); k_dflt (refine' begun_join ?mQ9 ?FQ9 ?NQ9 ?_ ?_; (case mQ9 => assumption); (case FQ9 => k_asm); (case NQ9 => k_asm)); (intro t9 h9 tk9 F9 N9); (try dsimp only); (try k_sweep); (try k_fold))
  k_with "BegunEnd" => (k_here; k_dflt (first | refine' begun_1 ?aQ9 ?FQ9 ?NQ9; (case aQ9 => assumption); (case FQ9 => k_asm); (case NQ9 => k_asm) | refine' begun_0 ?aQ9 ?FQ9 ?NQ9; (case aQ9 => assumption); (case FQ9 => k_asm); (case NQ9 => k_asm)))
  k_with "call type:int" => (k_here; (with_reducible show wpAny _ _ (call (Value.type "int") [Value.str _ _]) _ _ _); refine KIN.call_text (fig_read (by assumption) (by omega)) (by omega) ?_)
  k_with "call ref" => (k_here; (with_reducible show wpAny _ _ (call (Value.ref 91) _) _ _ _); k_dflt (refine' mk_moment ?uBQ9 ?uFQ9 ?uXQ9 ?uNQ9 ?uTQ9 ?ukQ9 ?udQ9 ?uuQ9 ?_; (case uBQ9 => k_asm); (case uFQ9 => k_asm); (case uXQ9 => k_asm); (case uNQ9 => k_asm); (case uTQ9 => k_asm); (case ukQ9 => first | exact rfl | assumption); (case udQ9 => ktr_room); (case uuQ9 => ktr_units)); (intro x9 dx9 u9 t9 h9 tk9 F9 N9 l8 l9); (try dsimp only); (try k_sweep); (try k_fold))
  k_with "call ref" => (k_here; (with_reducible show wpAny _ _ (call (Value.ref 159) _) _ _ _); k_dflt (refine' Says.useB ?uBQ9 ?uFQ9 ?uXQ9 ?uNQ9 ?uTQ9 ?ukQ9 (c_is_figures _ _ _ ?p1Q9) ?udQ9 ?uuQ9 ?_; (case uBQ9 => k_asm); (case uFQ9 => k_asm); (case uXQ9 => k_asm); (case uNQ9 => k_asm); (case uTQ9 => k_asm); (case ukQ9 => first | exact rfl | assumption); (case p1Q9 => first | assumption | exact part_okL (by assumption) (by assumption) (by assumption)); (case udQ9 => ktr_room); (case uuQ9 => ktr_units)); (intro h9 tk9 F9 N9); (try dsimp only); (try k_sweep); (try k_fold))
  k_with "call ref" => (k_here; (with_reducible show wpAny _ _ (call (Value.ref 123) _) _ _ _); k_dflt (refine' Says.useB ?uBQ9 ?uFQ9 ?uXQ9 ?uNQ9 ?uTQ9 ?ukQ9 (c_is_time _ _ _ _ _ _ _) ?udQ9 ?uuQ9 ?_; (case uBQ9 => k_asm); (case uFQ9 => k_asm); (case uXQ9 => k_asm); (case uNQ9 => k_asm); (case uTQ9 => k_asm); (case ukQ9 => first | exact rfl | assumption);  (case udQ9 => ktr_room); (case uuQ9 => ktr_units)); (intro h9 tk9 F9 N9); (try dsimp only); (try k_sweep); (try k_fold))
  trivial

theorem c_read_full {w : World} {mean : ExcName → Option Value} {mg mb : Str → Option Value} (news : List (Addr × Obj)) (x : Str) (t : Tok) (hx : okT x) (h26 : x.length = 26) :
    SaysR w mean mg mb 185 14 170 news [.str x t] (fun r n' => ∃ q dq y m d h i s z u t, r = .ref q ∧ n' = (q, instObj 91 dq) :: (dq, momD w.params y m d h i s z u t) :: news ∧ (∀ p ∈ news, p.1 < dq) ∧ dq < q ∧ readI x = .ok (y, m, d, h, i, s, z)) (fun k => readI x = .error k) := by
  have hsl := okT_ss (i := 12) (j := 20) hx (by omega) (by omega) (by omega)
  have hx1 : x.length ≤ 100 := hx.1
  have hbm : BegunMark x := trivial
  unfold SaysR
  k_fill
  intro dp un gd cn cs a ccd cl outer A₀ base h₀ L m s Q E B F X N T hk hd hu hret hexc
  refine wpAny_call ?_
  k_dflt cell_enter
  k_steps
  all_goals try (refine hexc _ _ _ _ _ _ _ _ _ _ _ ?_ (by assumption) (by assumption) (FlyK.drop (by assumption) (by (repeat (first | with_reducible exact sub_refl | with_reducible refine sub_keep ?_ | with_reducible refine sub_cons ?_)))); first | exact r_len (by assumption) | exact r_sep2 (by assumption) (by assumption) | exact r_sep11 (by assumption) (by assumption) | exact r_day (by assumption) (by assumption) (by assumption) rfl (by assumption) | (with_reducible rename (List.map _ _ = Txt.split _ _) => hl; refine r_time (by assumption) (by assumption) (by assumption) rfl (by assumption) ?_; rw [← hl]; exact t_no (by assumption)))
  all_goals
    with_reducible rename (StrsAre _ _) => hst
    with_reducible rename (List.map _ _ = Txt.split _ _) => hl
    refine test_strs hst badPart ?_ ?_
    · intro a t I oI C oC D m₂ ys h' tk E' ha hC hmx F9 N9 off ne
      have oka : okT a := part_ok hsl (hl ▸ ha)
      have oka1 : a.length ≤ 100 := oka.1
      k_steps
      all_goals (refine LCg.CompEnd.intro (by assumption) (by assumption) _ (fun p hp => hp) off (.inr ⟨_, by k_mem, rfl, _, rfl⟩) ?_)
      all_goals first | exact ⟨bad1 (by assumption), rfl, rfl⟩ | exact ⟨bad2 (by assumption), rfl, rfl⟩ | exact ⟨good2 (by assumption) (by assumption), rfl⟩
    · intro ys hys
      unfold LCg.FinE
      intro D h' tk F9 N9 o1
      have hca := are_carried hys
      have hzo := filt_ok hl hsl badPart
      k_steps
      all_goals try (refine hexc _ _ _ _ _ _ _ _ _ _ _ ?_ (by assumption) (by assumption) (FlyK.drop (by assumption) (by (repeat (first | with_reducible exact sub_refl | with_reducible refine sub_keep ?_ | with_reducible refine sub_cons ?_)))); refine r_time (by assumption) (by assumption) (by assumption) rfl (by assumption) ?_; rw [← hl]; exact t_bad (by assumption))
      with_reducible rename (List.isEmpty _ = true) => hem
      with_reducible rename (StrsAre _ _) => hst
      refine gen_strs hst IsI numS ?_ ?_
      · intro a t I oI C oC D m₂ ys h' tk E' ha hC hmx F9 N9 off ne
        have hfa := (bad_figs hem ha).1
        have oka : okT a := part_ok hsl (hl ▸ ha)
        have oka1 : a.length ≤ 100 := oka.1
        k_steps
        refine LCg.CompEnd.intro (by assumption) (by assumption) _ (fun p hp => hp) off (.inr ⟨_, by k_mem, rfl, _, rfl⟩) ⟨rfl, _, rfl⟩
      · intro ys2 hys2
        unfold LCg.FinE
        intro D2 h2 tk2 F9 N9 o2
        obtain ⟨p, q, r, h3⟩ := three' (fun (p : Str × Tok) => p.1) (by assumption)
        rw [h3] at hys2 hem hl
        obtain ⟨_, _, _, rfl, ⟨t1, rfl⟩, ⟨t2, rfl⟩, ⟨t3, rfl⟩⟩ := are3 hys2
        k_steps
        all_goals try (refine hexc _ _ _ _ _ _ _ _ _ _ _ ?_ (by assumption) (by assumption) (FlyK.drop (by assumption) (by (repeat (first | with_reducible exact sub_refl | with_reducible refine sub_keep ?_ | with_reducible refine sub_cons ?_)))); first | exact r_zone (by assumption) (by assumption) (by assumption) rfl (by assumption) (by rw [← hl]; exact t_ok hem (by assumption)) (by assumption) | exact r_blank (by assumption) (by assumption) (by assumption) rfl (by assumption) (by rw [← hl]; exact t_ok hem (by assumption)) (by assumption) (by assumption) | (refine r_time (by assumption) (by assumption) (by assumption) rfl (by assumption) ?_; rw [← hl]; exact t_not (by assumption)))
        with_reducible rename (@LT.lt Addr _ _ _) => hlt8
        refine hret _ ((_, instObj 91 _) :: (_, momD w.params _ _ _ _ _ _ _ _ _) :: news) _ _ ?R (by assumption) (news_mom (by assumption) (by (repeat (first | with_reducible exact sub_refl | with_reducible refine sub_keep ?_ | with_reducible refine sub_cons ?_))))
        exact ⟨_, _, _, _, _, _, _, _, _, _, _, rfl, rfl, lt_sub (by assumption) (by (repeat (first | with_reducible exact sub_refl | with_reducible refine sub_keep ?_ | with_reducible refine sub_cons ?_))), hlt8, r_ok (by assumption) (by assumption) (by assumption) rfl (by assumption) (by rw [← hl]; exact t_ok hem (by assumption)) (by assumption) (by assumption)⟩
end Mine
end
section
open PySem PySem.W PySem.Calls PySem.Spec PyProof.Rows PyProof.V
namespace Mine
theorem fresh_P5 : True := by
  w_top off
  k_with_none
  trivial
set_option maxRecDepth 100000
set_option maxHeartbeats 4000000

theorem free_inj {c : Nat} : ∀ {a b u v : List Nat}, c ∉ a → c ∉ b → a ++ c :: u = b ++ c :: v → a = b ∧ u = v
  | [], [], u, v, _, _, h => ⟨rfl, by simpa using h⟩
  | [], y :: b, u, v, _, hb, h => by
    simp at h
    exact absurd (by rw [h.1]; exact .head _) hb
  | x :: a, [], u, v, ha, _, h => by
    simp at h
    exact absurd (by rw [h.1]; exact .head _) ha
  | x :: a, y :: b, u, v, ha, hb, h => by
    simp only [List.cons_append, List.cons.injEq] at h
    obtain ⟨h1, h2⟩ := free_inj (fun q => ha (.tail _ q)) (fun q => hb (.tail _ q)) h.2
    exact ⟨by rw [h.1, h1], h2⟩
theorem free_not {c : Nat} {a b u : List Nat} (hb : c ∉ b) : a ++ c :: u ≠ b := fun h => hb (by rw [← h]; simp)
theorem join2_codes (c : Nat) (x y : Str) (r : List Str) : (Str.join (T [c]) (x :: y :: r)).cps.toList = x.cps.toList ++ c :: (Str.join (T [c]) (y :: r)).cps.toList := by
  have e : Str.join (T [c]) (x :: y :: r) = x ++ T [c] ++ Str.join (T [c]) (y :: r) := rfl
  rw [e, PySem.Str.cps_append, Array.toList_append, PySem.Str.cps_append, Array.toList_append, T_cps]
  simp
theorem str_inj {x y : Str} (h : x.cps.toList = y.cps.toList) : x = y := PySem.Str.ext' (Array.toList_inj.mp h)
theorem join_inj (c : Nat) : ∀ (ps qs : List Str), ps ≠ [] → qs ≠ [] → (∀ p ∈ ps, c ∉ p.cps.toList) → (∀ p ∈ qs, c ∉ p.cps.toList) → (Str.join (T [c]) ps).cps.toList = (Str.join (T [c]) qs).cps.toList → ps = qs
  | [], _, h, _, _, _, _ => absurd rfl h
  | _, [], _, h, _, _, _ => absurd rfl h
  | [x], [y], _, _, _, _, h => by rw [str_inj (x := x) (y := y) h]
  | [x], y :: z :: r, _, _, hp, _, h => by
    rw [join2_codes] at h
    exact absurd h.symm (free_not (hp x (.head _)))
  | x :: z :: r, [y], _, _, _, hq, h => by
    rw [join2_codes] at h
    exact absurd h (free_not (hq y (.head _)))
  | x :: z :: r, y :: w :: q, _, _, hp, hq, h => by
    rw [join2_codes, join2_codes] at h
    obtain ⟨h1, h2⟩ := free_inj (hp x (.head _)) (hq y (.head _)) h
    rw [str_inj h1, join_inj c (z :: r) (w :: q) (by simp) (by simp) (fun p m => hp p (.tail _ m)) (fun p m => hq p (.tail _ m)) h2]
theorem split_eq {x : Str} {c : Nat} {qs : List Str} (hq : qs ≠ []) (fq : ∀ p ∈ qs, c ∉ p.cps.toList) (h : x.cps.toList = (Str.join (T [c]) qs).cps.toList) : Txt.split x (T [c]) = qs := by
  refine join_inj c _ _ ?_ hq (StrLaws.split_free x c) fq ?_
  · intro e
    have := split_pos x (T [c])
    rw [e] at this
    exact absurd this (by decide)
  · rw [StrLaws.join_split x (T [c]), h]
theorem split3 {x p q r : Str} {c : Nat} (h : Txt.split x (T [c]) = [p, q, r]) : x.cps.toList = p.cps.toList ++ c :: (q.cps.toList ++ c :: r.cps.toList) ∧ c ∉ p.cps.toList ∧ c ∉ q.cps.toList ∧ c ∉ r.cps.toList := by
  have h1 := StrLaws.join_split x (T [c])
  have h2 := StrLaws.split_free x c
  rw [show (⟨#[c]⟩ : Str) = T [c] from rfl, h] at h2
  rw [h] at h1
  refine ⟨?_, h2 p (.head _), h2 q (.tail _ (.head _)), h2 r (.tail _ (.tail _ (.head _)))⟩
  rw [← h1, join2_codes, join2_codes]
  rfl
theorem split_three {x : Str} {c : Nat} {p q r : List Nat} (h : x.cps.toList = p ++ c :: (q ++ c :: r)) (hp : c ∉ p) (hq : c ∉ q) (hr : c ∉ r) : Txt.split x (T [c]) = [T p, T q, T r] := by
  refine split_eq (by simp) ?_ ?_
  · intro s hs
    simp only [List.mem_cons, List.not_mem_nil, or_false] at hs
    rcases hs with rfl | rfl | rfl <;> rw [T_cps] <;> assumption
  · rw [h, join2_codes, join2_codes, T_cps, T_cps, show (Str.join (T [c]) [T r]) = T r from rfl, T_cps]
end Mine
end
section
open PySem PySem.W PySem.Calls PySem.Spec PyProof.Rows PyProof.V
namespace Mine
theorem fresh_P6 : True := by
  w_top off
  k_with_none
  trivial
set_option maxRecDepth 100000
set_option maxHeartbeats 4000000

theorem figs_ne {p : Str} (h : figs p = true) : p.cps.toList ≠ [] := by
  intro e
  rw [eq_T p, e, figs_T] at h
  cases h
theorem len_codes (x : Str) : x.length = x.cps.toList.length := (len_list x).symm
theorem day_split {a b p q r : List Nat} (ha : 1 ≤ a.length) (ha2 : a.length ≤ 2) (hb : b.length = 8) (h : a ++ 45 :: b = p ++ 45 :: (q ++ 45 :: r)) (hp : 45 ∉ p) (hq : 45 ∉ q) (hpn : p ≠ []) (hr : r.length = 4) : a = p ∧ b = q ++ 45 :: r := by
  by_cases hm : 45 ∈ a
  · exfalso
    match a, ha, ha2 with
    | [y], _, _ =>
      obtain rfl : 45 = y := by simpa using hm
      match p, hpn with
      | z :: p, _ =>
        simp at h
        exact hp (by rw [← h.1]; exact .head _)
    | [y, z], _, _ =>
      match p, hpn with
      | w :: p, _ =>
        simp only [List.cons_append, List.nil_append, List.cons.injEq] at h
        obtain ⟨rfl, h⟩ := h
        have hz : 45 = z := by
          rcases List.mem_cons.mp hm with e | e
          · exact absurd (by rw [← e]; exact .head _) hp
          · simpa using e
        subst hz
        match p with
        | [] =>
          simp only [List.nil_append, List.cons.injEq, true_and] at h
          match q with
          | [] =>
            simp only [List.nil_append, List.cons.injEq, true_and] at h
            rw [h] at hb
            omega
          | v :: q =>
            simp only [List.cons_append, List.cons.injEq] at h
            exact hq (by rw [← h.1]; exact .head _)
        | v :: p =>
          simp only [List.cons_append, List.cons.injEq] at h
          exact hp (by rw [← h.1]; exact .tail _ (.head _))
  · exact free_inj hm hp h
def dayC (a q r : List Nat) : Option (Int × Int × Int) := if figs (T a) = true ∧ figs (T r) = true ∧ dayOk (numS (T r)) (monthNo (T q)) (numS (T a)) = true then some (numS (T r), monthNo (T q), numS (T a)) else none
theorem fig_free {l : List Nat} (h : figs (T l) = true) {c : Nat} (hc : isFig c = false) : c ∉ l := by
  intro hm
  rw [figs_T, Bool.and_eq_true, List.all_eq_true] at h
  rw [h.2 c hm] at hc
  cases hc
theorem day_law {a : List Nat} {b0 b1 b2 b3 b4 b5 b6 b7 : Nat} (ha : 1 ≤ a.length) (ha2 : a.length ≤ 2) :
    dayOf (Txt.split (T (a ++ 45 :: [b0, b1, b2, b3, b4, b5, b6, b7])) (T [45])) = if b3 = 45 ∧ 45 ∉ [b0, b1, b2] then dayC a [b0, b1, b2] [b4, b5, b6, b7] else none := by
  by_cases hc : (b3 = 45 ∧ 45 ∉ [b0, b1, b2]) ∧ figs (T a) = true ∧ figs (T [b4, b5, b6, b7]) = true
  · obtain ⟨⟨rfl, h1⟩, h2, h3⟩ := hc
    have e : Txt.split (T (a ++ 45 :: [b0, b1, b2, 45, b4, b5, b6, b7])) (T [45]) = [T a, T [b0, b1, b2], T [b4, b5, b6, b7]] := split_three (T_cps _) (fig_free h2 (by decide)) h1 (fig_free h3 (by decide))
    rw [if_pos ⟨rfl, h1⟩, e]
    unfold dayOf dayC
    simp only [h2, h3, true_and, len_T]
    simp [ha2]
  · have hn : (if b3 = 45 ∧ 45 ∉ [b0, b1, b2] then dayC a [b0, b1, b2] [b4, b5, b6, b7] else none) = none := by
      split
      · rename_i h1
        unfold dayC
        rw [if_neg (fun h2 => hc ⟨h1, h2.1, h2.2.1⟩)]
      · rfl
    rw [hn]
    rcases three (ps := Txt.split (T (a ++ 45 :: [b0, b1, b2, b3, b4, b5, b6, b7])) (T [45])) with h | ⟨p, q, r, h⟩
    · exact dayOf_no h
    · rw [h]
      rw [dayOf, if_neg]
      rintro ⟨f1, f2, l1, l2, _⟩
      obtain ⟨e, m1, m2, m3⟩ := split3 h
      rw [T_cps] at e
      obtain ⟨e1, e2⟩ := day_split ha ha2 rfl e m1 m2 (figs_ne f1) (by rw [len_list]; exact l2)
      have lr : r.cps.toList.length = 4 := by rw [len_list]; exact l2
      have lq : q.cps.toList.length = 3 := by
        have := congrArg List.length e2
        simp only [List.length_cons, List.length_nil, List.length_append] at this
        simp at *
        omega
      refine hc ?_
      rw [eq_T r] at f2
      rw [eq_T p] at f1
      rw [← e1] at f1
      generalize q.cps.toList = q at *
      generalize r.cps.toList = r at *
      match q, lq, r, lr with
      | [q0, q1, q2], _, [r0, r1, r2, r3], _ =>
        simp only [List.cons_append, List.nil_append, List.cons.injEq, and_true] at e2
        obtain ⟨rfl, rfl, rfl, rfl, rfl, rfl, rfl, rfl⟩ := e2
        exact ⟨⟨rfl, m2⟩, f1, f2⟩
def timeC (p q r : List Nat) : Option (Int × Int × Int) := if figs (T p) = true ∧ figs (T q) = true ∧ figs (T r) = true ∧ timeOk (numS (T p)) (numS (T q)) (numS (T r)) = true then some (numS (T p), numS (T q), numS (T r)) else none
theorem good_T {a b : Nat} (h : figs (T [a, b]) = true) : badPart (T [a, b]) = false := by
  unfold badPart
  rw [h, len_T]
  rfl
theorem time_law {t0 t1 t2 t3 t4 t5 t6 t7 : Nat} :
    timeOf (Txt.split (T [t0, t1, t2, t3, t4, t5, t6, t7]) (T [58])) = if t2 = 58 ∧ t5 = 58 then timeC [t0, t1] [t3, t4] [t6, t7] else none := by
  by_cases hc : (t2 = 58 ∧ t5 = 58) ∧ figs (T [t0, t1]) = true ∧ figs (T [t3, t4]) = true ∧ figs (T [t6, t7]) = true
  · obtain ⟨⟨rfl, rfl⟩, h1, h2, h3⟩ := hc
    have e : Txt.split (T [t0, t1, 58, t3, t4, 58, t6, t7]) (T [58]) = [T [t0, t1], T [t3, t4], T [t6, t7]] := split_three (T_cps [t0, t1, 58, t3, t4, 58, t6, t7]) (fig_free h1 (by decide)) (fig_free h2 (by decide)) (fig_free h3 (by decide))
    rw [if_pos ⟨rfl, rfl⟩, e]
    unfold timeOf timeC
    simp [h1, h2, h3, good_T]
  · have hn : (if t2 = 58 ∧ t5 = 58 then timeC [t0, t1] [t3, t4] [t6, t7] else none) = none := by
      split
      · rename_i h1
        unfold timeC
        rw [if_neg (fun h2 => hc ⟨h1, h2.1, h2.2.1, h2.2.2.1⟩)]
      · rfl
    rw [hn]
    rcases three (ps := Txt.split (T [t0, t1, t2, t3, t4, t5, t6, t7]) (T [58])) with h | ⟨p, q, r, h⟩
    · generalize Txt.split (T [t0, t1, t2, t3, t4, t5, t6, t7]) (T [58]) = ps at *
      rcases ps with _ | ⟨p, _ | ⟨q, _ | ⟨r, _ | ⟨x, t⟩⟩⟩⟩ <;> first | rfl | exact absurd rfl h
    · rw [h]
      rw [timeOf, if_neg]
      rintro ⟨hf, _⟩
      obtain ⟨e, m1, m2, m3⟩ := split3 h
      rw [T_cps] at e
      have g : ∀ s ∈ [p, q, r], figs s = true ∧ s.cps.toList.length = 2 := fun s hs => by
        have h2 := List.filter_eq_nil_iff.mp hf s hs
        unfold badPart at h2
        rw [len_list]
        simpa [and_comm] using h2
      obtain ⟨gp, lp⟩ := g p (.head _)
      obtain ⟨gq, lq⟩ := g q (.tail _ (.head _))
      obtain ⟨gr, lr⟩ := g r (.tail _ (.tail _ (.head _)))
      refine hc ?_
      rw [eq_T p] at gp
      rw [eq_T q] at gq
      rw [eq_T r] at gr
      generalize p.cps.toList = p at *
      generalize q.cps.toList = q at *
      generalize r.cps.toList = r at *
      match p, lp, q, lq, r, lr with
      | [p0, p1], _, [q0, q1], _, [r0, r1], _ =>
        simp only [List.cons_append, List.nil_append, List.cons.injEq, and_true] at e
        obtain ⟨rfl, rfl, rfl, rfl, rfl, rfl, rfl, rfl⟩ := e
        exact ⟨⟨rfl, rfl⟩, gp, gq, gr⟩
end Mine
end
section
open PySem PySem.W PySem.Calls PySem.Spec PyProof.Rows PyProof.V
namespace Mine
theorem fresh_P7 : True := by
  w_top off
  k_with_none
  trivial
set_option maxRecDepth 100000
set_option maxHeartbeats 4000000

/-- the signs of the law's texts: those of ASCII and one other -/
def okA (x : Str) : Prop := ∀ c ∈ x.cps.toList, c < 128 ∨ c = 1632
theorem lower_okA {x : Str} (h : okA x) : Txt.lower x = lowT x := by
  unfold Txt.lower lowT
  rw [placed_single x _ lowc fun i c hc => ?_]
  · refine PySem.Str.ext' (Array.toList_inj.mp ?_)
    simp
  · have hc' : x.cps[i]? = some c := by simpa using hc
    have hlt := h c (List.mem_of_getElem? hc)
    unfold Unicode.lowerAt
    rw [hc']
    have hne : (c == 0x3A3) = false := by rw [beq_eq_false_iff_ne]; omega
    simp only [hne, Bool.false_and, Bool.false_eq_true, if_false]
    rcases hlt with hlt | rfl
    · exact lowerOf_ascii c hlt
    · decide +kernel
theorem okA_ss {x : Str} {i j : Int} (h : okA x) (h0 : 0 ≤ i) (h1 : i ≤ j) (h2 : j ≤ x.length) : okA (Txt.slice x (some i) (some j)) := by
  rw [slice_ss h0 h1 h2]
  intro c hc
  rw [T_cps] at hc
  exact h c (List.mem_of_mem_drop (List.mem_of_mem_take hc))
theorem len_ss {x : Str} {i j : Int} {k : Nat} (h0 : 0 ≤ i) (h1 : i ≤ j) (h2 : j ≤ x.length) (h3 : j - i ≤ k) : (Txt.slice x (some i) (some j)).length ≤ k := by
  rw [slice_ss h0 h1 h2, len_T, List.length_take, List.length_drop, len_list]
  omega
theorem fold_le : ∀ (l : List Int) (n : Int), 0 ≤ n → (∀ c ∈ l, 48 ≤ c ∧ c ≤ 57) → 0 ≤ l.foldl (fun (n c : Int) => 10 * n + (c - 48)) n ∧ l.foldl (fun (n c : Int) => 10 * n + (c - 48)) n + 1 ≤ (n + 1) * 10 ^ l.length
  | [], n, h0, _ => by
    simp only [List.foldl_nil, List.length_nil, Int.pow_zero, Int.mul_one]
    omega
  | c :: r, n, h0, hc => by
    have h1 := hc c (.head _)
    obtain ⟨i1, i2⟩ := fold_le r (10 * n + (c - 48)) (by omega) fun d hd => hc d (.tail _ hd)
    rw [List.foldl_cons]
    refine ⟨i1, Int.le_trans i2 ?_⟩
    rw [List.length_cons, Int.pow_succ, Int.mul_comm (10 ^ r.length) 10, ← Int.mul_assoc]
    refine Int.mul_le_mul_of_nonneg_right (by omega) (Int.pow_nonneg (by decide))
theorem numS_le {x : Str} {k : Nat} (h : figs x = true) (hl : x.length ≤ k) : 0 ≤ numS x ∧ numS x < 10 ^ k := by
  obtain ⟨h0, h1⟩ := fold_le (PySem.W.KStt.codes x) 0 (by decide) (figs_codes.mp h).2
  have hlen : (PySem.W.KStt.codes x).length = x.length := by
    unfold PySem.W.KStt.codes
    rw [List.length_map, len_list]
  refine ⟨h0, ?_⟩
  have h2 : (10 : Int) ^ x.length ≤ 10 ^ k := by exact_mod_cast Nat.pow_le_pow_right (n := 10) (by decide) hl
  rw [hlen] at h1
  unfold numS numI
  omega
theorem lawNum_le {x : Str} {k : Nat} (hl : x.length ≤ k) : lawNum x < 10 ^ k := by
  unfold lawNum
  split
  · rename_i h
    exact (numS_le h hl).2
  · have : (0 : Int) < 10 ^ k := Int.pow_pos (by decide)
    omega
theorem news_top {h₀ h : Heap} {L : Addr} {p : Addr × Obj} {rest news : List (Addr × Obj)} (N : News h₀ L h (p :: rest)) (hs : ∀ q ∈ news, q ∈ rest) : News h₀ L h (p :: news) := by
  refine KStt.news_of N fun x hx => ?_
  cases hx with
  | head => exact .head _
  | tail _ hx => exact .tail _ (hs x hx)
theorem news_two {h₀ h : Heap} {L : Addr} {p q : Addr × Obj} {rest news : List (Addr × Obj)} (N : News h₀ L h (p :: q :: rest)) (hs : ∀ x ∈ news, x ∈ rest) : News h₀ L h (p :: q :: news) := KStt.news_of N (sub_keep (sub_keep hs))
theorem lt_first {a b : Addr} {P : Prop} (h : a < b ∧ P) : a < b := h.1
theorem lt_a0 {D : Addr} {l : List (Addr × Obj)} (h : AllLt D l) : ∀ p ∈ l, p.1 < D := lt_of_all l h
theorem lt_a1 {D a : Addr} {l : List (Addr × Obj)} (h : a < D ∧ AllLt D l) : ∀ p ∈ l, p.1 < D := lt_of_all l h.2
theorem lt_a2 {D a b : Addr} {l : List (Addr × Obj)} (h : a < D ∧ b < D ∧ AllLt D l) : ∀ p ∈ l, p.1 < D := lt_of_all l h.2.2
theorem lt_a3 {D a b c : Addr} {l : List (Addr × Obj)} (h : a < D ∧ b < D ∧ c < D ∧ AllLt D l) : ∀ p ∈ l, p.1 < D := lt_of_all l h.2.2.2
theorem lt_a4 {D a b c d : Addr} {l : List (Addr × Obj)} (h : a < D ∧ b < D ∧ c < D ∧ d < D ∧ AllLt D l) : ∀ p ∈ l, p.1 < D := lt_of_all l h.2.2.2.2
theorem lt_a5 {D a b c d e : Addr} {l : List (Addr × Obj)} (h : a < D ∧ b < D ∧ c < D ∧ d < D ∧ e < D ∧ AllLt D l) : ∀ p ∈ l, p.1 < D := lt_of_all l h.2.2.2.2.2
theorem lt_a6 {D a b c d e f : Addr} {l : List (Addr × Obj)} (h : a < D ∧ b < D ∧ c < D ∧ d < D ∧ e < D ∧ f < D ∧ AllLt D l) : ∀ p ∈ l, p.1 < D := lt_of_all l h.2.2.2.2.2.2
theorem lt_a7 {D a b c d e f g : Addr} {l : List (Addr × Obj)} (h : a < D ∧ b < D ∧ c < D ∧ d < D ∧ e < D ∧ f < D ∧ g < D ∧ AllLt D l) : ∀ p ∈ l, p.1 < D := lt_of_all l h.2.2.2.2.2.2.2
theorem lt_a8 {D a b c d e f g i : Addr} {l : List (Addr × Obj)} (h : a < D ∧ b < D ∧ c < D ∧ d < D ∧ e < D ∧ f < D ∧ g < D ∧ i < D ∧ AllLt D l) : ∀ p ∈ l, p.1 < D := lt_of_all l h.2.2.2.2.2.2.2.2
theorem months_okA : ∀ a ∈ monthsS, okA a := by
  unfold okA
  decide +kernel
theorem tup205 {P : Params} {h : Heap} (X : (hd.heap_39 P).In h) : ∃ vs, h.IsTuple 205 vs.toArray ∧ Are IsS vs monthsS := by
  have e : (hd.heap_39 P).lookup 205 = some _ := rfl
  refine ⟨_, ⟨_, X _ _ e, rfl, _, rfl⟩, ?_⟩
  unfold monthsS
  repeat (first | exact .nil | refine .cons ⟨_, rfl⟩ ?_)
theorem lower_A {prog : Program} {w : World} {A : Around} {E : Value → Shared → Prop} {s : Shared} {x : PySem.Str} {t : Tok} {Q : Value → Shared → Prop} (hx : okA x) (hL : x.length ≤ 100) (h : ∀ t' k, Q (.str (lowT x) t') { s with toks := k }) : wpAny (model prog w) A (call (.builtin "str.lower") [.str x t]) Q E s :=
  SCL.lower (by omega) fun _ => by
    rw [lower_okA hx]
    exact h _ _
end Mine
end
section
open PySem PySem.W PySem.Calls PySem.Spec PyProof.Rows PyProof.V
namespace Mine
theorem fresh_P8 : True := by
  w_top off
  k_with_none
  trivial
set_option maxRecDepth 100000
set_option maxHeartbeats 4000000

theorem codes26 {x : Str} (h : (x.length : Int) = 26) : ∃ k0 k1 k2 k3 k4 k5 k6 k7 k8 k9 k10 k11 k12 k13 k14 k15 k16 k17 k18 k19 k20 k21 k22 k23 k24 k25, x = T [k0, k1, k2, k3, k4, k5, k6, k7, k8, k9, k10, k11, k12, k13, k14, k15, k16, k17, k18, k19, k20, k21, k22, k23, k24, k25] := by
  have hl := len_list x
  rw [show x.length = 26 by omega] at hl
  rw [eq_T x]
  generalize x.cps.toList = l at *
  match l, hl with
  | [k0, k1, k2, k3, k4, k5, k6, k7, k8, k9, k10, k11, k12, k13, k14, k15, k16, k17, k18, k19, k20, k21, k22, k23, k24, k25], _ => exact ⟨k0, k1, k2, k3, k4, k5, k6, k7, k8, k9, k10, k11, k12, k13, k14, k15, k16, k17, k18, k19, k20, k21, k22, k23, k24, k25, rfl⟩
theorem T_inj {l m : List Nat} : T l = T m ↔ l = m := by
  constructor
  · intro h
    have := congrArg (fun x : Str => x.cps.toList) h
    simpa using this
  · intro h
    rw [h]
theorem T_bne {l m : List Nat} : (T l != T m) = true ↔ l ≠ m := by rw [bne_iff_ne, ne_eq, T_inj]
theorem T_beq {l m : List Nat} : (T l == T m) = true ↔ l = m := by rw [beq_iff_eq, T_inj]
theorem T_bne' {l m : List Nat} : (T l != T m) = false ↔ l = m := by
  rw [← Bool.not_eq_true, T_bne]
  exact Decidable.not_not
section
variable {x : Str} (h : (x.length : Int) = 26)
include h
theorem day_key (h2 : (Txt.item x 2 != Str.ofString "-") = false) : ∃ (a q r : List Nat) (c : Nat), Txt.slice x (some (begunOf x)) (some 2) = T a ∧ Txt.slice x (some 3) (some 6) = T q ∧ Txt.slice x (some 7) (some 11) = T r ∧ Txt.item x 6 = T [c] ∧
    dayOf (Txt.split (Txt.slice x (some (begunOf x)) (some 11)) (Str.ofString "-")) = if c = 45 ∧ 45 ∉ q then dayC a q r else none := by
  obtain ⟨k0, k1, k2, k3, k4, k5, k6, k7, k8, k9, k10, k11, k12, k13, k14, k15, k16, k17, k18, k19, k20, k21, k22, k23, k24, k25, rfl⟩ := codes26 h
  have e2 : Txt.item (T [k0, k1, k2, k3, k4, k5, k6, k7, k8, k9, k10, k11, k12, k13, k14, k15, k16, k17, k18, k19, k20, k21, k22, k23, k24, k25]) 2 = T [k2] := rfl
  rw [e2, dash_T, T_bne'] at h2
  obtain rfl : k2 = 45 := by simpa using h2
  have ev : (T [k0, k1, 45, k3, k4, k5, k6, k7, k8, k9, k10, k11, k12, k13, k14, k15, k16, k17, k18, k19, k20, k21, k22, k23, k24, k25]).cps.toList = [k0, k1, 45, k3, k4, k5, k6, k7, k8, k9, k10, k11, k12, k13, k14, k15, k16, k17, k18, k19, k20, k21, k22, k23, k24, k25] := T_cps _
  have hb := begun_ge (x := T [k0, k1, 45, k3, k4, k5, k6, k7, k8, k9, k10, k11, k12, k13, k14, k15, k16, k17, k18, k19, k20, k21, k22, k23, k24, k25])
  have hb1 := begun_le (x := T [k0, k1, 45, k3, k4, k5, k6, k7, k8, k9, k10, k11, k12, k13, k14, k15, k16, k17, k18, k19, k20, k21, k22, k23, k24, k25])
  have hb3 : begunOf (T [k0, k1, 45, k3, k4, k5, k6, k7, k8, k9, k10, k11, k12, k13, k14, k15, k16, k17, k18, k19, k20, k21, k22, k23, k24, k25]) = 0 ∨ begunOf (T [k0, k1, 45, k3, k4, k5, k6, k7, k8, k9, k10, k11, k12, k13, k14, k15, k16, k17, k18, k19, k20, k21, k22, k23, k24, k25]) = 1 := by omega
  rw [dash_T]
  rcases hb3 with e | e
  · refine ⟨[k0, k1], [k3, k4, k5], [k7, k8, k9, k10], k6, ?_, ?_, ?_, rfl, ?_⟩
    · rw [e, slice_ss (by decide) (by decide) (by omega), ev]; rfl
    · rw [slice_ss (by decide) (by decide) (by omega), ev]; rfl
    · rw [slice_ss (by decide) (by decide) (by omega), ev]; rfl
    · rw [e, slice_ss (by decide) (by decide) (by omega), ev]
      exact day_law (a := [k0, k1]) (Nat.le_of_ble_eq_true rfl) (Nat.le_of_ble_eq_true rfl)
  · refine ⟨[k1], [k3, k4, k5], [k7, k8, k9, k10], k6, ?_, ?_, ?_, rfl, ?_⟩
    · rw [e, slice_ss (by decide) (by decide) (by omega), ev]; rfl
    · rw [slice_ss (by decide) (by decide) (by omega), ev]; rfl
    · rw [slice_ss (by decide) (by decide) (by omega), ev]; rfl
    · rw [e, slice_ss (by decide) (by decide) (by omega), ev]
      exact day_law (a := [k1]) (Nat.le_of_ble_eq_true rfl) (Nat.le_of_ble_eq_true rfl)
theorem time_key : ∃ (p q r : List Nat) (c d : Nat), Txt.slice x (some 12) (some 14) = T p ∧ Txt.slice x (some 15) (some 17) = T q ∧ Txt.slice x (some 18) (some 20) = T r ∧ Txt.item x 14 = T [c] ∧ Txt.item x 17 = T [d] ∧
    timeOf (Txt.split (Txt.slice x (some 12) (some 20)) (Str.ofString ":")) = if c = 58 ∧ d = 58 then timeC p q r else none := by
  obtain ⟨k0, k1, k2, k3, k4, k5, k6, k7, k8, k9, k10, k11, k12, k13, k14, k15, k16, k17, k18, k19, k20, k21, k22, k23, k24, k25, rfl⟩ := codes26 h
  have ev : (T [k0, k1, k2, k3, k4, k5, k6, k7, k8, k9, k10, k11, k12, k13, k14, k15, k16, k17, k18, k19, k20, k21, k22, k23, k24, k25]).cps.toList = [k0, k1, k2, k3, k4, k5, k6, k7, k8, k9, k10, k11, k12, k13, k14, k15, k16, k17, k18, k19, k20, k21, k22, k23, k24, k25] := T_cps _
  refine ⟨[k12, k13], [k15, k16], [k18, k19], k14, k17, ?_, ?_, ?_, rfl, rfl, ?_⟩
  · rw [slice_ss (by decide) (by decide) (by omega), ev]; rfl
  · rw [slice_ss (by decide) (by decide) (by omega), ev]; rfl
  · rw [slice_ss (by decide) (by decide) (by omega), ev]; rfl
  · rw [colon_T, slice_ss (by decide) (by decide) (by omega), ev]
    exact time_law
theorem zone_key : ∃ (p q : List Nat), Txt.slice x (some 22) (some 24) = T p ∧ Txt.slice x (some 24) (some 26) = T q ∧
    zoneIn (Txt.slice x (some 21) none) = if (Builtin.Str.occurrences (Str.ofString "+-") (Txt.item x 21) 0 (Str.ofString "+-").length 1).isEmpty = true then none else if figs (T p) = true ∧ figs (T q) = true then (if numS (T q) > 59 then none else if Txt.item x 21 == Str.ofString "-" then some (-(numS (T p) * 60 + numS (T q))) else some (numS (T p) * 60 + numS (T q))) else none := by
  obtain ⟨k0, k1, k2, k3, k4, k5, k6, k7, k8, k9, k10, k11, k12, k13, k14, k15, k16, k17, k18, k19, k20, k21, k22, k23, k24, k25, rfl⟩ := codes26 h
  have ev : (T [k0, k1, k2, k3, k4, k5, k6, k7, k8, k9, k10, k11, k12, k13, k14, k15, k16, k17, k18, k19, k20, k21, k22, k23, k24, k25]).cps.toList = [k0, k1, k2, k3, k4, k5, k6, k7, k8, k9, k10, k11, k12, k13, k14, k15, k16, k17, k18, k19, k20, k21, k22, k23, k24, k25] := T_cps _
  refine ⟨[k22, k23], [k24, k25], ?_, ?_, ?_⟩
  · rw [slice_ss (by decide) (by decide) (by omega), ev]; rfl
  · rw [slice_ss (by decide) (by decide) (by omega), ev]; rfl
  · rw [slice_sn (by decide) (by omega), ev]
    show zoneIn (T [k21, k22, k23, k24, k25]) = _
    have hl : (T [k21, k22, k23, k24, k25]).length = 5 := rfl
    have ev5 : (T [k21, k22, k23, k24, k25]).cps.toList = [k21, k22, k23, k24, k25] := T_cps _
    have e1 : Txt.slice (T [k21, k22, k23, k24, k25]) (some 1) none = T [k22, k23, k24, k25] := by rw [slice_sn (by decide) (by omega), ev5]; rfl
    have e2 : Txt.slice (T [k21, k22, k23, k24, k25]) (some 3) none = T [k24, k25] := by rw [slice_sn (by decide) (by omega), ev5]; rfl
    have e3 : Txt.slice (T [k21, k22, k23, k24, k25]) (some 1) (some 3) = T [k22, k23] := by rw [slice_ss (by decide) (by decide) (by omega), ev5]; rfl
    have e4 : Txt.item (T [k21, k22, k23, k24, k25]) 0 = Txt.item (T [k0, k1, k2, k3, k4, k5, k6, k7, k8, k9, k10, k11, k12, k13, k14, k15, k16, k17, k18, k19, k20, k21, k22, k23, k24, k25]) 21 := rfl
    have ef : (figs (T [k22, k23, k24, k25]) = true) ↔ (figs (T [k22, k23]) = true ∧ figs (T [k24, k25]) = true) := by
      simp [figs_T, and_assoc]
    unfold zoneIn
    rw [e1, e2, e3, e4, if_pos (by rw [hl]; rfl)]
    by_cases hf : figs (T [k22, k23, k24, k25]) = true
    · rw [if_pos hf, if_pos (ef.mp hf)]
    · rw [if_neg hf, if_neg (fun h => hf (ef.mpr h))]
end
end Mine
end
section
open PySem PySem.W PySem.Calls PySem.Spec PyProof.Rows PyProof.V
namespace Mine
theorem fresh_P9 : True := by
  w_top off
  k_with_none
  trivial
set_option maxRecDepth 100000
set_option maxHeartbeats 4000000

theorem num_neg {x : Str} (h : lawNum x < 0) : figs x = false := by
  by_cases hf : figs x = true
  · unfold lawNum at h
    rw [if_pos hf] at h
    have := (numS_le hf (Nat.le_refl _)).1
    unfold numS at this
    omega
  · simpa using hf
theorem num_pos {x : Str} (h : ¬ lawNum x < 0) : figs x = true ∧ lawNum x = numS x := by
  by_cases hf : figs x = true
  · refine ⟨hf, ?_⟩
    unfold lawNum
    rw [if_pos hf]
    rfl
  · unfold lawNum at h
    rw [if_neg hf] at h
    exact absurd (by decide) h
theorem num_figs {x : Str} (h : figs x = true) : lawNum x = numS x := by
  unfold lawNum
  rw [if_pos h]
  rfl
theorem any_eq {l : List Str} {y : Str} : (l.any fun z => z == y) = true ↔ y ∈ l := by
  rw [List.any_eq_true]
  constructor
  · rintro ⟨z, hz, e⟩
    rw [← beq_iff_eq.mp e]
    exact hz
  · intro h
    exact ⟨y, h, by simp⟩
theorem month_any {x : Str} (h : ((monthsS.map lowT).any fun z => z == lowT x) = true) : monthNo x = ((monthsS.map lowT).idxOf (lowT x) : Nat) + 1 := by
  unfold monthNo
  rw [if_pos (any_eq.mp h)]
theorem month_none {x : Str} (h : ((monthsS.map lowT).any fun z => z == lowT x) = false) : monthNo x = 0 := by
  unfold monthNo
  rw [if_neg]
  intro hm
  rw [any_eq.mpr hm] at h
  cases h
/-- what the law names the day's sign -/
abbrev dashIn (x : Str) : Bool := (Builtin.Str.occurrences (Txt.slice x (some (begunOf x)) (some 2) ++ Txt.slice x (some 3) (some 6) ++ Txt.slice x (some 7) (some 11)) (Str.ofString "-") 0 (Txt.slice x (some (begunOf x)) (some 2) ++ Txt.slice x (some 3) (some 6) ++ Txt.slice x (some 7) (some 11)).length 1).isEmpty
theorem dash_mem {y : Str} : (Builtin.Str.occurrences y (Str.ofString "-") 0 y.length 1).isEmpty = true ↔ 45 ∉ y.cps.toList := by
  have := StrLaws.found_one y 45
  rw [dash_T]
  show (Builtin.Str.occurrences y ⟨#[45]⟩ 0 y.length 1).isEmpty = true ↔ _
  constructor
  · intro h hm
    rw [h, decide_eq_true hm] at this
    cases this
  · intro h
    rw [decide_eq_false h] at this
    simpa using this
theorem dayC_none {a q r : List Nat} {c : Nat} (hd : dayC a q r = none) : (if c = 45 ∧ 45 ∉ q then dayC a q r else none) = none := by
  split
  · exact hd
  · rfl
section
variable {x : Str} (h : (x.length : Int) = 26) (h2 : (Txt.item x 2 != Str.ofString "-") = false) (h11 : (Txt.item x 11 != Str.ofString " ") = false)
include h h2 h11
theorem l_none (hn : ∀ (a q r : List Nat) (c : Nat), Txt.slice x (some (begunOf x)) (some 2) = T a → Txt.slice x (some 3) (some 6) = T q → Txt.slice x (some 7) (some 11) = T r → Txt.item x 6 = T [c] → (if c = 45 ∧ 45 ∉ q then dayC a q r else none) = none) : readI x = .error (begunOf x) := by
  obtain ⟨a, q, r, c, e1, e2, e3, e4, e5⟩ := day_key h h2
  exact r_day h h2 h11 rfl (e5.trans (hn a q r c e1 e2 e3 e4))
theorem l_6 (h6 : (Txt.item x 6 != Str.ofString "-") = true) : readI x = .error (begunOf x) := l_none h h2 h11 fun a q r c e1 e2 e3 e4 => by
  rw [e4, dash_T, T_bne] at h6
  rw [if_neg]
  rintro ⟨rfl, _⟩
  exact h6 rfl
theorem l_d (hd : lawNum (Txt.slice x (some (begunOf x)) (some 2)) < 0) : readI x = .error (begunOf x) := l_none h h2 h11 fun a q r c e1 e2 e3 e4 => by
  rw [e1] at hd
  refine dayC_none ?_
  unfold dayC
  rw [if_neg (fun z => by rw [num_neg hd] at z; cases z.1)]
theorem l_y (hd : lawNum (Txt.slice x (some 7) (some 11)) < 0) : readI x = .error (begunOf x) := l_none h h2 h11 fun a q r c e1 e2 e3 e4 => by
  rw [e3] at hd
  refine dayC_none ?_
  unfold dayC
  rw [if_neg (fun z => by rw [num_neg hd] at z; cases z.2.1)]
theorem l_nm (hd : ((monthsS.map lowT).any fun z => z == lowT (Txt.slice x (some 3) (some 6))) = false) : readI x = .error (begunOf x) := l_none h h2 h11 fun a q r c e1 e2 e3 e4 => by
  rw [e2] at hd
  refine dayC_none ?_
  unfold dayC
  rw [if_neg]
  rintro ⟨_, _, z⟩
  rw [month_none hd] at z
  have := of_decide_eq_true z
  omega
theorem l_bad (hd : dayOk (lawNum (Txt.slice x (some 7) (some 11))) (monthNo (Txt.slice x (some 3) (some 6))) (lawNum (Txt.slice x (some (begunOf x)) (some 2))) = false) : readI x = .error (begunOf x) := l_none h h2 h11 fun a q r c e1 e2 e3 e4 => by
  rw [e1, e2, e3] at hd
  refine dayC_none ?_
  unfold dayC
  rw [if_neg]
  rintro ⟨f1, f2, z⟩
  rw [num_figs f1, num_figs f2, z] at hd
  cases hd
theorem l_y1 (hy : lawNum (Txt.slice x (some 7) (some 11)) < 1) : readI x = .error (begunOf x) := l_bad h h2 h11 (decide_eq_false (by omega))
theorem l_d1 (hy : ¬ 1 ≤ lawNum (Txt.slice x (some (begunOf x)) (some 2))) : readI x = .error (begunOf x) := l_bad h h2 h11 (decide_eq_false (by omega))
theorem l_d2 (hn : ((monthsS.map lowT).any fun z => z == lowT (Txt.slice x (some 3) (some 6))) = true)
    (hy : ¬ lawNum (Txt.slice x (some (begunOf x)) (some 2)) ≤ mlen (lawNum (Txt.slice x (some 7) (some 11))) (((monthsS.map lowT).idxOf (lowT (Txt.slice x (some 3) (some 6))) : Nat) + 1)) : readI x = .error (begunOf x) :=
  l_bad h h2 h11 (by rw [month_any hn]; exact decide_eq_false (by omega))
theorem l_dash (hd : dashIn x = false) : readI x = .error (begunOf x) := l_none h h2 h11 fun a q r c e1 e2 e3 e4 => by
  unfold dashIn at hd
  rw [← Bool.not_eq_true, dash_mem, e1, e2, e3, cat_T, cat_T, T_cps] at hd
  have hd := Decidable.not_not.mp hd
  split
  · rename_i hc
    unfold dayC
    rw [if_neg]
    rintro ⟨f1, f2, _⟩
    simp only [List.mem_append] at hd
    rcases hd with (hd | hd) | hd
    · exact fig_free f1 (by decide) hd
    · exact hc.2 hd
    · exact fig_free f2 (by decide) hd
  · rfl
omit h11 in
theorem day_ok (h6 : (Txt.item x 6 != Str.ofString "-") = false) (hd : dashIn x = true) (n1 : ¬ lawNum (Txt.slice x (some (begunOf x)) (some 2)) < 0) (n2 : ¬ lawNum (Txt.slice x (some 7) (some 11)) < 0)
    (hn : ((monthsS.map lowT).any fun z => z == lowT (Txt.slice x (some 3) (some 6))) = true) (y1 : ¬ lawNum (Txt.slice x (some 7) (some 11)) < 1) (y2 : lawNum (Txt.slice x (some 7) (some 11)) < 10 ^ 4) (d1 : 1 ≤ lawNum (Txt.slice x (some (begunOf x)) (some 2)))
    (d2 : lawNum (Txt.slice x (some (begunOf x)) (some 2)) ≤ mlen (lawNum (Txt.slice x (some 7) (some 11))) (((monthsS.map lowT).idxOf (lowT (Txt.slice x (some 3) (some 6))) : Nat) + 1)) :
    dayOf (Txt.split (Txt.slice x (some (begunOf x)) (some 11)) (Str.ofString "-")) = some (lawNum (Txt.slice x (some 7) (some 11)), (((monthsS.map lowT).idxOf (lowT (Txt.slice x (some 3) (some 6))) : Nat) : Int) + 1, lawNum (Txt.slice x (some (begunOf x)) (some 2))) := by
  obtain ⟨a, q, r, c, e1, e2, e3, e4, e5⟩ := day_key h h2
  have hm := monthNo_le (Txt.slice x (some 3) (some 6))
  rw [month_any hn] at hm
  unfold dashIn at hd
  rw [dash_mem] at hd
  rw [e5]
  simp only [e1, e2, e3] at hd n1 n2 hn y1 y2 d1 d2 hm ⊢
  rw [cat_T, cat_T, T_cps] at hd
  rw [e4, dash_T, T_bne'] at h6
  obtain ⟨f1, g1⟩ := num_pos n1
  obtain ⟨f2, g2⟩ := num_pos n2
  rw [if_pos ⟨by simpa using h6, fun z => hd (by simp [z])⟩]
  unfold dayC
  rw [month_any hn, ← g1, ← g2, if_pos ⟨f1, f2, decide_eq_true ⟨by omega, by omega, by omega, by omega, d1, d2⟩⟩]
end
/-- a time's number as the law reads it -/
def clk (x : Str) (i : Int) : Int := lawNum (Txt.slice x (some i) (some (i + 2)))
theorem min3 {M a b c : Int} (h : M = a ∨ M = b ∨ M = c) (hm : M ≤ a ∧ M ≤ b ∧ M ≤ c) (hn : ¬ M < 0) : ¬ a < 0 ∧ ¬ b < 0 ∧ ¬ c < 0 := by omega
section
variable {x : Str} (h : (x.length : Int) = 26)
include h
theorem tim_none (hn : ∀ (p q r : List Nat) (c d : Nat), clk x 12 = lawNum (T p) → clk x 15 = lawNum (T q) → clk x 18 = lawNum (T r) → Txt.item x 14 = T [c] → Txt.item x 17 = T [d] → (if c = 58 ∧ d = 58 then timeC p q r else none) = none) : timeOf (Txt.split (Txt.slice x (some 12) (some 20)) (Str.ofString ":")) = none := by
  obtain ⟨p, q, r, c, d, e1, e2, e3, e4, e5, e6⟩ := time_key h
  rw [e6]
  refine hn p q r c d ?_ ?_ ?_ e4 e5
  · rw [← e1]; rfl
  · rw [← e2]; rfl
  · rw [← e3]; rfl
theorem t_14 (h1 : (Txt.item x 14 != Str.ofString ":") = true) : timeOf (Txt.split (Txt.slice x (some 12) (some 20)) (Str.ofString ":")) = none := tim_none h fun p q r c d e1 e2 e3 e4 e5 => by
  rw [e4, colon_T, T_bne] at h1
  rw [if_neg]
  rintro ⟨rfl, _⟩
  exact h1 rfl
theorem t_17 (h1 : (Txt.item x 17 != Str.ofString ":") = true) : timeOf (Txt.split (Txt.slice x (some 12) (some 20)) (Str.ofString ":")) = none := tim_none h fun p q r c d e1 e2 e3 e4 e5 => by
  rw [e5, colon_T, T_bne] at h1
  rw [if_neg]
  rintro ⟨_, rfl⟩
  exact h1 rfl
theorem tim_bad (hb : (clk x 12 < 0 ∨ clk x 15 < 0 ∨ clk x 18 < 0) ∨ timeOk (clk x 12) (clk x 15) (clk x 18) = false) : timeOf (Txt.split (Txt.slice x (some 12) (some 20)) (Str.ofString ":")) = none := tim_none h fun p q r c d e1 e2 e3 e4 e5 => by
  rw [e1, e2, e3] at hb
  split
  · unfold timeC
    rw [if_neg]
    rintro ⟨f1, f2, f3, f4⟩
    rcases hb with (hb | hb | hb) | hb
    · rw [num_neg hb] at f1; cases f1
    · rw [num_neg hb] at f2; cases f2
    · rw [num_neg hb] at f3; cases f3
    · rw [num_figs f1, num_figs f2, num_figs f3, f4] at hb; cases hb
  · rfl
theorem t_M {M : Int} (h1 : M = clk x 12 ∨ M = clk x 15 ∨ M = clk x 18) (hn : M < 0) : timeOf (Txt.split (Txt.slice x (some 12) (some 20)) (Str.ofString ":")) = none := tim_bad h (.inl (by omega))
theorem t_23 (h1 : 23 < clk x 12) : timeOf (Txt.split (Txt.slice x (some 12) (some 20)) (Str.ofString ":")) = none := tim_bad h (.inr (decide_eq_false (by omega)))
theorem t_59 (h1 : 59 < clk x 15) : timeOf (Txt.split (Txt.slice x (some 12) (some 20)) (Str.ofString ":")) = none := tim_bad h (.inr (decide_eq_false (by omega)))
theorem t_60 (h1 : 60 < clk x 18) : timeOf (Txt.split (Txt.slice x (some 12) (some 20)) (Str.ofString ":")) = none := tim_bad h (.inr (decide_eq_false (by omega)))
theorem time_ok {M : Int} (h1 : (Txt.item x 14 != Str.ofString ":") = false) (h2 : (Txt.item x 17 != Str.ofString ":") = false) (hm : M ≤ clk x 12 ∧ M ≤ clk x 15 ∧ M ≤ clk x 18) (hn : ¬ M < 0) (g1 : ¬ 23 < clk x 12) (g2 : ¬ 59 < clk x 15) (g3 : ¬ 60 < clk x 18) :
    timeOf (Txt.split (Txt.slice x (some 12) (some 20)) (Str.ofString ":")) = some (clk x 12, clk x 15, clk x 18) := by
  obtain ⟨p, q, r, c, d, e1, e2, e3, e4, e5, e6⟩ := time_key h
  have c1 : clk x 12 = lawNum (T p) := by rw [← e1]; rfl
  have c2 : clk x 15 = lawNum (T q) := by rw [← e2]; rfl
  have c3 : clk x 18 = lawNum (T r) := by rw [← e3]; rfl
  rw [e4, colon_T, T_bne'] at h1
  rw [e5, colon_T, T_bne'] at h2
  rw [e6, if_pos ⟨by simpa using h1, by simpa using h2⟩]
  simp only [c1, c2, c3] at hm g1 g2 g3 ⊢
  obtain ⟨f1, i1⟩ := num_pos (x := T p) (by omega)
  obtain ⟨f2, i2⟩ := num_pos (x := T q) (by omega)
  obtain ⟨f3, i3⟩ := num_pos (x := T r) (by omega)
  unfold timeC
  rw [← i1, ← i2, ← i3, if_pos ⟨f1, f2, f3, decide_eq_true (by omega)⟩]
theorem z_sign (h1 : (Builtin.Str.occurrences (Str.ofString "+-") (Txt.item x 21) 0 (Str.ofString "+-").length 1).isEmpty = true) : zoneIn (Txt.slice x (some 21) none) = none := by
  obtain ⟨p, q, e1, e2, e3⟩ := zone_key h
  rw [e3, if_pos h1]
theorem z_M {M : Int} (h1 : M = lawNum (Txt.slice x (some 22) (some 24)) ∨ M = lawNum (Txt.slice x (some 24) (some 26))) (hn : M < 0) : zoneIn (Txt.slice x (some 21) none) = none := by
  obtain ⟨p, q, e1, e2, e3⟩ := zone_key h
  rw [e1, e2] at h1
  rw [e3]
  split
  · rfl
  · rw [if_neg]
    rintro ⟨f1, f2⟩
    have g1 := (numS_le f1 (Nat.le_refl _)).1
    have g2 := (numS_le f2 (Nat.le_refl _)).1
    rw [num_figs f1, num_figs f2] at h1
    omega
theorem z_59 (h1 : 59 < lawNum (Txt.slice x (some 24) (some 26))) : zoneIn (Txt.slice x (some 21) none) = none := by
  obtain ⟨p, q, e1, e2, e3⟩ := zone_key h
  rw [e2] at h1
  rw [e3]
  split
  · rfl
  · split
    · rename_i f
      rw [num_figs f.2] at h1
      rw [if_pos h1]
    · rfl
theorem zone_ok {M : Int} (h0 : (Builtin.Str.occurrences (Str.ofString "+-") (Txt.item x 21) 0 (Str.ofString "+-").length 1).isEmpty = false) (hm : M ≤ lawNum (Txt.slice x (some 22) (some 24)) ∧ M ≤ lawNum (Txt.slice x (some 24) (some 26))) (hn : ¬ M < 0) (h1 : ¬ 59 < lawNum (Txt.slice x (some 24) (some 26))) :
    zoneIn (Txt.slice x (some 21) none) = some (if (Txt.item x 21 == Str.ofString "-") = true then -(60 * lawNum (Txt.slice x (some 22) (some 24)) + lawNum (Txt.slice x (some 24) (some 26))) else 60 * lawNum (Txt.slice x (some 22) (some 24)) + lawNum (Txt.slice x (some 24) (some 26))) := by
  obtain ⟨p, q, e1, e2, e3⟩ := zone_key h
  simp only [e1, e2] at hm h1 ⊢
  obtain ⟨f1, i1⟩ := num_pos (x := T p) (by omega)
  obtain ⟨f2, i2⟩ := num_pos (x := T q) (by omega)
  rw [e3, if_neg (by rw [h0]; decide), if_pos ⟨f1, f2⟩, ← i1, ← i2, if_neg h1, Int.mul_comm 60]
  split <;> rfl
theorem z_neg {M : Int} (hs : (Txt.item x 21 == Str.ofString "-") = true) (h0 : (Builtin.Str.occurrences (Str.ofString "+-") (Txt.item x 21) 0 (Str.ofString "+-").length 1).isEmpty = false) (hm : M ≤ lawNum (Txt.slice x (some 22) (some 24)) ∧ M ≤ lawNum (Txt.slice x (some 24) (some 26))) (hn : ¬ M < 0) (h1 : ¬ 59 < lawNum (Txt.slice x (some 24) (some 26))) :
    zoneIn (Txt.slice x (some 21) none) = some (-(60 * lawNum (Txt.slice x (some 22) (some 24)) + lawNum (Txt.slice x (some 24) (some 26)))) := by rw [zone_ok h h0 hm hn h1, if_pos hs]
theorem z_pos {M : Int} (hs : (Txt.item x 21 == Str.ofString "-") = false) (h0 : (Builtin.Str.occurrences (Str.ofString "+-") (Txt.item x 21) 0 (Str.ofString "+-").length 1).isEmpty = false) (hm : M ≤ lawNum (Txt.slice x (some 22) (some 24)) ∧ M ≤ lawNum (Txt.slice x (some 24) (some 26))) (hn : ¬ M < 0) (h1 : ¬ 59 < lawNum (Txt.slice x (some 24) (some 26))) :
    zoneIn (Txt.slice x (some 21) none) = some (60 * lawNum (Txt.slice x (some 22) (some 24)) + lawNum (Txt.slice x (some 24) (some 26))) := by rw [zone_ok h h0 hm hn h1, if_neg (by rw [hs]; decide)]
variable (h2 : (Txt.item x 2 != Str.ofString "-") = false) (h11 : (Txt.item x 11 != Str.ofString " ") = false) {y m d hh i s : Int} (hd : dayOf (Txt.split (Txt.slice x (some (begunOf x)) (some 11)) (Str.ofString "-")) = some (y, m, d))
  (ht : timeOf (Txt.split (Txt.slice x (some 12) (some 20)) (Str.ofString ":")) = some (hh, i, s))
include h2 h11 hd ht
theorem r_20 (h20 : (Txt.item x 20 != Str.ofString " ") = true) : readI x = .error 20 := by
  cases hz : zoneIn (Txt.slice x (some 21) none) with
  | none => exact r_zone h h2 h11 rfl hd ht hz
  | some z => exact r_blank h h2 h11 rfl hd ht hz h20
end
section
variable {x : Str} (h : (x.length : Int) = 26)
include h
theorem t_23' (h1 : 23 < [clk x 12, clk x 15, clk x 18].getD (Int.toNat 0) 0) : timeOf (Txt.split (Txt.slice x (some 12) (some 20)) (Str.ofString ":")) = none := t_23 h h1
theorem t_59' (h1 : 59 < [clk x 12, clk x 15, clk x 18].getD (Int.toNat 1) 0) : timeOf (Txt.split (Txt.slice x (some 12) (some 20)) (Str.ofString ":")) = none := t_59 h h1
theorem t_60' (h1 : 60 < [clk x 12, clk x 15, clk x 18].getD (Int.toNat 2) 0) : timeOf (Txt.split (Txt.slice x (some 12) (some 20)) (Str.ofString ":")) = none := t_60 h h1
theorem time_ok' {M : Int} (h1 : (Txt.item x 14 != Str.ofString ":") = false) (h2 : (Txt.item x 17 != Str.ofString ":") = false) (hm : M ≤ clk x 12 ∧ M ≤ clk x 15 ∧ M ≤ clk x 18) (hn : ¬ M < 0) (g1 : ¬ 23 < [clk x 12, clk x 15, clk x 18].getD (Int.toNat 0) 0) (g2 : ¬ 59 < [clk x 12, clk x 15, clk x 18].getD (Int.toNat 1) 0) (g3 : ¬ 60 < [clk x 12, clk x 15, clk x 18].getD (Int.toNat 2) 0) :
    timeOf (Txt.split (Txt.slice x (some 12) (some 20)) (Str.ofString ":")) = some (clk x 12, clk x 15, clk x 18) := time_ok h h1 h2 hm hn g1 g2 g3
theorem z_59' (h1 : 59 < [lawNum (Txt.slice x (some 22) (some 24)), lawNum (Txt.slice x (some 24) (some 26))].getD (Int.toNat 1) 0) : zoneIn (Txt.slice x (some 21) none) = none := z_59 h h1
end
end Mine
end
section
open PySem PySem.W PySem.Calls PySem.Spec PyProof.Rows PyProof.V
namespace Mine
theorem fresh_C15 : True := by
  w_top off
  k_with_none
  trivial
set_option maxRecDepth 100000
set_option maxHeartbeats 4000000
theorem lay_C15_1 : True := by
  k_with_none
  k_with "execs nil" => (k_here; (with_reducible refine gen_toks ?_); intro tk; (with_reducible refine wpAny_execs_nil ?_); try dsimp only)
  k_with "execs cons" => (k_here; (with_reducible refine gen_toks ?_); intro tk; (with_reducible refine wpAny_execs_cons ?_); try dsimp only)
  k_with "eval IfExp" => (k_here; (with_reducible show wpAny _ _ (eval (Expr.IfExp _ (Expr.Constant _ _ _) _ _) _) _ _ _); (fail_if_success (with_reducible show wpAny _ _ _ (BegunEnd _ _ _ _ _ _) _ _)); k_dflt (refine' begun_join ?mQ9 ?FQ9 ?NQ9 ?_ ?_; (case mQ9 => assumption); (case FQ9 => k_asm); (case NQ9 => k_asm)); (intro t9 h9 tk9 F9 N9); (try dsimp only); (try k_sweep); (try k_fold))
  k_with "BegunEnd" => (k_here; k_dflt (first | refine' begun_1 ?aQ9 ?FQ9 ?NQ9; (case aQ9 => assumption); (case FQ9 => k_asm); (case NQ9 => k_asm) | refine' begun_0 ?aQ9 ?FQ9 ?NQ9; (case aQ9 => assumption); (case FQ9 => k_asm); (case NQ9 => k_asm)))
  k_with "call builtin:str.lower" => (k_here; (with_reducible show wpAny _ _ (call (Value.builtin "str.lower") [Value.str _ _]) _ _ _); (refine lower_A (by first | assumption | exact months_okA _ (by assumption) | exact okA_ss (by assumption) (by omega) (by omega) (by omega)) (by first | assumption | exact (months_ok _ (by assumption)).1 | omega) ?_); intro _ _)
  k_with "call builtin:list.index" => (k_here; (with_reducible show wpAny _ _ (call (Value.builtin "list.index") [Value.ref _, Value.str _ _]) _ _ _); k_dflt (refine' index_strs ?aQ9 ?bQ9 ?cQ9 ?dQ9 ?_; (case aQ9 => is_list); (case bQ9 => assumption); (case cQ9 => (simp [monthsS]; done)); (case dQ9 => simp_all)))
  k_with "exec Assign cons ListComp" => (k_here; (with_reducible show wpAny _ _ (exec (Stmt.Assign _ (Expr.ListComp (Expr.Call _ _ _ _) _ _ _) _) _) _ _ _); k_dflt (refine Assign_ListComp_G (by k_asm) (by rfl) (by with_unfolding_all rfl) (by with_unfolding_all rfl) (by decide) (by rfl) (by decide) (by rfl) (by rfl) (by rfl) ?_))
  k_with "eval Call" => (k_here; (with_reducible show wpAny _ _ (eval (Expr.Call (Expr.Name (Str.ofString "_law_number") _) _ [] _) _) _ _ _); (fail_if_success (goal_has PyProof.Rows.SeqLeaf)); k_dflt (refine Call_ ?_))
  k_with "eval Call" => (k_here; (with_reducible show wpAny _ _ (eval (Expr.Call (Expr.Name (Str.ofString "_law_length") _) _ [] _) _) _ _ _); (fail_if_success (goal_has PyProof.Rows.SeqLeaf)); k_dflt (refine Call_ ?_))
  k_with "call ref" => (k_here; (with_reducible show wpAny _ _ (call (Value.ref 226) _) _ _ _); k_dflt (refine' Says.useI ?uBQ9 ?uFQ9 ?uXQ9 ?uNQ9 ?uTQ9 ?ukQ9 (c_law_number _ _ _ ?p1Q9 ?p2Q9) ?udQ9 ?uuQ9 ?_; (case uBQ9 => k_asm); (case uFQ9 => k_asm); (case uXQ9 => k_asm); (case uNQ9 => k_asm); (case uTQ9 => k_asm); (case ukQ9 => first | exact rfl | assumption); (case p1Q9 => first | assumption | exact okT_ss (by assumption) (by omega) (by omega) (by omega)); (case p2Q9 => first | exact len_ss (by omega) (by omega) (by omega) (by omega) | omega); (case udQ9 => ktr_room); (case uuQ9 => ktr_units)); (intro t9 h9 tk9 F9 N9); (try dsimp only); (try k_sweep); (try k_fold))
  k_with "call ref" => (k_here; (with_reducible show wpAny _ _ (call (Value.ref 212) _) _ _ _); k_dflt (refine' Says.useI ?uBQ9 ?uFQ9 ?uXQ9 ?uNQ9 ?uTQ9 ?ukQ9 (c_law_length _ _ _ _ _ ?p1Q9 ?p2Q9) ?udQ9 ?uuQ9 ?_; (case uBQ9 => k_asm); (case uFQ9 => k_asm); (case uXQ9 => k_asm); (case uNQ9 => k_asm); (case uTQ9 => k_asm); (case ukQ9 => first | exact rfl | assumption); (case p1Q9 => first | omega); (case p2Q9 => first | omega); (case udQ9 => ktr_room); (case uuQ9 => ktr_units)); (intro t9 h9 tk9 F9 N9); (try dsimp only); (try k_sweep); (try k_fold))
  trivial
theorem c_law_read {w : World} {mean : ExcName → Option Value} {mg mb : Str → Option Value} (news : List (Addr × Obj)) (x : Str) (t : Tok) (hx : okT x) (hxA : okA x) :
    Says w mean mg mb 231 14 170 news [.str x t] (fun r n' => (∃ k a t, readI x = .error k ∧ r = .ref a ∧ n' = (a, tupO [.none, .int k t]) :: news ∧ (∀ p ∈ news, p.1 < a)) ∨ (∃ (y m d h i s z : Int) (a b : Addr) (u : Tok) (t : Nat → Tok), readI x = .ok (y, m, d, h, i, s, z) ∧ r = .ref a ∧ n' = (a, tupO [.ref b, .int (-1) u]) :: (b, tupO [.int y (t 0), .int m (t 1), .int d (t 2), .int h (t 3), .int i (t 4), .int s (t 5), .int z (t 6)]) :: news ∧ (∀ p ∈ news, p.1 < b) ∧ b < a)) := by
  have hx1 : x.length ≤ 100 := hx.1
  have hbm : BegunMark x := trivial
  have hb0 := begun_ge (x := x)
  have hb1 := begun_le (x := x)
  unfold Says
  k_fill
  intro dp un gd cn cs a ccd cl outer A₀ base h₀ L m s Q E B F X N T hk hd hu hret
  refine wpAny_call ?_
  k_dflt (refine' code_defC ?k1 ?k2 ?k3 ?k4 ?k5 ?kA ?kF ?kK ?k6 ?k7 ?k8 ?k9 ?kB ?kD ?_ ?c2 ?c3 ?c4; (case kA => exact rfl); (case kF => exact rfl); (case kK => assumption); (case k1 => k_asm); (case k2 => k_asm); (case k3 => k_asm); (case k4 => k_asm); (case k5 => k_asm); (case k6 => k_is); (case k7 => k_is); (case k8 => ktr_room); (case k9 => exact BindsTo.of_eq rfl); (case kB => exact rfl); (case kD => decide +kernel); (case c2 => exact rfl); (case c3 => exact rfl); (case c4 => exact rfl); k_whole; intro g' L' h' tk' cells' FG' F' N' Y' B' X' T' l1; (try k_lt l1); k_cells Y'; (try simp only [List.cons_append, List.nil_append] at N'); (try dsimp only); (try k_lift B'); (try k_fold))
  k_steps
  all_goals try (refine hret _ ((_, tupO [.none, .int _ _]) :: news) _ _ (.inl ⟨_, _, _, ?e, rfl, rfl, ?l⟩) (by with_reducible assumption) (news_top (by with_reducible assumption) (by (repeat (first | with_reducible exact sub_refl | with_reducible refine sub_keep ?_ | with_reducible refine sub_cons ?_)))); (case l => first | exact lt_a1 (by with_reducible assumption) | exact lt_a3 (by with_reducible assumption) | exact lt_a5 (by with_reducible assumption) | exact lt_a6 (by with_reducible assumption) | exact lt_a4 (by with_reducible assumption) | exact lt_a2 (by with_reducible assumption)); (case e => first | exact r_len (by with_reducible assumption) | exact r_sep2 (by with_reducible assumption) (by with_reducible assumption) | exact r_sep11 (by with_reducible assumption) (by with_reducible assumption)))
  obtain ⟨vs, ht, hi⟩ := tup205 (P := w.params) (by assumption)
  refine SrcG.tuple rfl (by k_asm) (by k_asm) (.inl ht) (by rw [sizeLine_eq, List.size_toArray, are_len hi]; decide) ?_
  intro g2
  refine rest_gen IsS IsS monthsS lowT (by rw [List.size_toArray, are_len hi]) ?hP ?turn ?fin
  case hP =>
    intro i v hv
    exact are_at hi (by simpa using hv)
  case turn =>
    rintro a v I oI C oC D m₂ ys h tk E' ha ⟨t, rfl⟩ hC hmx F9 N9 off ne
    k_steps
    refine' LCg.CompEnd.intro ?eF ?eN _ (fun p hp => hp) off ?eS ?eR
    case eF => assumption
    case eN => assumption
    case eS => exact .inl ht
    case eR => exact ⟨rfl, _, rfl⟩
  case fin =>
    intro ys hys
    replace hys := hys.strs
    unfold LCg.FinA
    intro D h tk F9 N9 o1
    have hy9 : lawNum (Txt.slice x (some 7) (some 11)) < 10 ^ 4 := lawNum_le (len_ss (by omega) (by omega) (by omega) (by omega))
    have hd9 : lawNum (Txt.slice x (some (begunOf x)) (some 2)) < 10 ^ 2 := lawNum_le (len_ss (by omega) (by omega) (by omega) (by omega))
    k_steps
    all_goals try (refine hret _ ((_, tupO [.none, .int _ _]) :: news) _ _ (.inl ⟨_, _, _, ?e, rfl, rfl, ?l⟩) (by with_reducible assumption) (news_top (by with_reducible assumption) (by (repeat (first | with_reducible exact sub_refl | with_reducible refine sub_keep ?_ | with_reducible refine sub_cons ?_)))); (case l => first | exact lt_a1 (by with_reducible assumption) | exact lt_a3 (by with_reducible assumption) | exact lt_a5 (by with_reducible assumption) | exact lt_a6 (by with_reducible assumption) | exact lt_a4 (by with_reducible assumption) | exact lt_a2 (by with_reducible assumption)); (case e => first | exact l_6 (by with_reducible assumption) (by with_reducible assumption) (by with_reducible assumption) (by with_reducible assumption) | exact l_dash (by with_reducible assumption) (by with_reducible assumption) (by with_reducible assumption) (by with_reducible assumption) | exact l_d (by with_reducible assumption) (by with_reducible assumption) (by with_reducible assumption) (by with_reducible assumption) | exact l_y (by with_reducible assumption) (by with_reducible assumption) (by with_reducible assumption) (by with_reducible assumption) | exact l_nm (by with_reducible assumption) (by with_reducible assumption) (by with_reducible assumption) (by with_reducible assumption) | exact l_y1 (by with_reducible assumption) (by with_reducible assumption) (by with_reducible assumption) (by with_reducible assumption) | exact l_d1 (by with_reducible assumption) (by with_reducible assumption) (by with_reducible assumption) (by with_reducible assumption) | exact l_d2 (by with_reducible assumption) (by with_reducible assumption) (by with_reducible assumption) (by with_reducible assumption) (by with_reducible assumption)))
    have hday := day_ok (x := x) (by with_reducible assumption) (by with_reducible assumption) (by with_reducible assumption) (by with_reducible assumption) (by with_reducible assumption) (by with_reducible assumption) (by with_reducible assumption) (by with_reducible assumption) hy9 (by with_reducible assumption) (by with_reducible assumption)
    refine SrcG.tuple (its := #[.int 12 _, .int 15 _, .int 18 _]) rfl (by k_asm) (by k_asm) (.inr ⟨_, .head _, rfl, _, rfl⟩) (by rw [sizeLine_eq]; exact Nat.le_of_ble_eq_true rfl) ?_
    intro g3
    refine rest_gen IsI IsI [12, 15, 18] (clk x) rfl ?hP2 ?turn2 ?fin2
    case hP2 =>
      rintro j v hj
      refine are_at (vs := [.int 12 _, .int 15 _, .int 18 _]) (.cons ⟨_, rfl⟩ (.cons ⟨_, rfl⟩ (.cons ⟨_, rfl⟩ .nil))) (by simpa using hj)
    case turn2 =>
      rintro a v I oI C oC D m₂ ys h' tk E' ha ⟨t, rfl⟩ hC hmx F9 N9 off ne
      have ha0 : 0 ≤ a ∧ a ≤ 18 := by
        simp only [List.mem_cons, List.not_mem_nil, or_false] at ha
        omega
      obtain ⟨ha1, ha2⟩ := ha0
      k_steps
      refine' LCg.CompEnd.intro ?eF ?eN _ (fun p hp => hp) off ?eS ?eR
      case eF => assumption
      case eN => assumption
      case eS => exact .inr ⟨_, .head _, rfl, _, rfl⟩
      case eR => exact ⟨rfl, _, rfl⟩
    case fin2 =>
      intro ys2 hys2
      obtain ⟨_, _, _, rfl, ⟨t1, rfl⟩, ⟨t2, rfl⟩, ⟨t3, rfl⟩⟩ := are3 hys2
      unfold LCg.FinA
      intro D2 h2 tk2 F9 N9 o2
      k_steps
      all_goals try (refine hret _ ((_, tupO [.none, .int _ _]) :: news) _ _ (.inl ⟨_, _, _, ?e, rfl, rfl, ?l⟩) (by with_reducible assumption) (news_top (by with_reducible assumption) (by (repeat (first | with_reducible exact sub_refl | with_reducible refine sub_keep ?_ | with_reducible refine sub_cons ?_)))); (case l => first | exact lt_a1 (by with_reducible assumption) | exact lt_a3 (by with_reducible assumption) | exact lt_a5 (by with_reducible assumption) | exact lt_a6 (by with_reducible assumption) | exact lt_a4 (by with_reducible assumption) | exact lt_a2 (by with_reducible assumption)); (case e => first | (refine r_time (by with_reducible assumption) (by with_reducible assumption) (by with_reducible assumption) rfl hday ?_; first | exact t_14 (by with_reducible assumption) (by with_reducible assumption) | exact t_17 (by with_reducible assumption) (by with_reducible assumption) | exact t_23' (by with_reducible assumption) (by with_reducible assumption) | exact t_59' (by with_reducible assumption) (by with_reducible assumption) | exact t_60' (by with_reducible assumption) (by with_reducible assumption) | exact t_M (by with_reducible assumption) (by with_reducible assumption) (by with_reducible assumption)) | (have htim := time_ok' (x := x) (by with_reducible assumption) (by with_reducible assumption) (by with_reducible assumption) (by with_reducible assumption) (by with_reducible assumption) (by with_reducible assumption) (by with_reducible assumption) (by with_reducible assumption); first | exact r_20 (by with_reducible assumption) (by with_reducible assumption) (by with_reducible assumption) hday htim (by with_reducible assumption) | (refine r_zone (by with_reducible assumption) (by with_reducible assumption) (by with_reducible assumption) rfl hday htim ?_; first | exact z_sign (by with_reducible assumption) (by with_reducible assumption) | exact z_59' (by with_reducible assumption) (by with_reducible assumption) | exact z_M (by with_reducible assumption) (by with_reducible assumption) (by with_reducible assumption)))))
      all_goals
        have htim := time_ok' (x := x) (by with_reducible assumption) (by with_reducible assumption) (by with_reducible assumption) (by with_reducible assumption) (by with_reducible assumption) (by with_reducible assumption) (by with_reducible assumption) (by with_reducible assumption)
        refine' hret _ ((_, tupO [.ref _, .int (-1) _]) :: (_, tupO [.int _ _, .int _ _, .int _ _, .int _ _, .int _ _, .int _ _, .int _ _]) :: news) _ _ (.inr ⟨_, _, _, _, _, _, _, _, _, _, fun n => List.getD [_, _, _, _, _, _, _] n 0, ?e, rfl, rfl, ?l, ?b⟩) ?f ?n
        case f => with_reducible assumption
        case n => exact news_two (by assumption) (by (repeat (first | with_reducible exact sub_refl | with_reducible refine sub_keep ?_ | with_reducible refine sub_cons ?_)))
        case l => first | exact lt_a6 (by with_reducible assumption) | exact lt_a7 (by with_reducible assumption) | exact lt_a5 (by with_reducible assumption)
        case b => exact lt_first (by with_reducible assumption)
        case e => refine r_ok (by with_reducible assumption) (by with_reducible assumption) (by with_reducible assumption) rfl hday htim ?_ (by with_reducible assumption); first | exact z_neg (by with_reducible assumption) (by with_reducible assumption) (by with_reducible assumption) (by with_reducible assumption) (by with_reducible assumption) (by assumption) | exact z_pos (by with_reducible assumption) (by with_reducible assumption) (by with_reducible assumption) (by with_reducible assumption) (by with_reducible assumption) (by assumption)

end Mine
end
section
open PySem PySem.W PySem.Calls PySem.Spec PyProof.Rows PyProof.V
namespace Mine
theorem fresh_C16 : True := by
  w_top off
  k_with_none
  trivial
set_option maxRecDepth 100000
set_option maxHeartbeats 4000000
theorem lay_C16_1 : True := by
  k_with_none
  k_with "execs nil" => (k_here; (with_reducible refine gen_toks ?_); intro tk; (with_reducible refine wpAny_execs_nil ?_); try dsimp only)
  k_with "execs cons" => (k_here; (with_reducible refine gen_toks ?_); intro tk; (with_reducible refine wpAny_execs_cons ?_); try dsimp only)
  trivial

theorem fdiv_ge {g m : Int} (h0 : 0 ≤ g) (hm : 1 ≤ m) : 0 ≤ g.fdiv m := by
  rw [Int.fdiv_eq_ediv_of_nonneg _ (by omega)]
  exact Int.ediv_nonneg h0 (by omega)
theorem fdiv_lt {g m B : Int} (h0 : 0 ≤ g) (h1 : g < B) (hm : 1 ≤ m) : g.fdiv m < B := by
  rw [Int.fdiv_eq_ediv_of_nonneg _ (by omega)]
  exact Int.lt_of_le_of_lt (Int.ediv_le_self _ h0) h1
theorem isl_of {h₀ h : Heap} {L : Addr} {news : List (Addr × Obj)} {c : Addr} {vs : List Value} {n : Nat} (N : News h₀ L h news) (hm : (c, listOf vs.toArray n) ∈ news) : h.IsList c vs.toArray := ⟨_, (N _ hm).1, rfl, _, rfl⟩
theorem isl_tl {h₀ h : Heap} {L : Addr} {p : Addr × Obj} {news : List (Addr × Obj)} {c : Addr} {vs : List Value} {n : Nat} (N : News h₀ L h (p :: news)) (hm : (c, listOf vs.toArray n) ∈ news) : h.IsList c vs.toArray := isl_of N (.tail _ hm)
theorem len_pool {prog : Program} {w : World} {A : Around} {E : Value → Shared → Prop} {s : Shared} {h₀ : Heap} {L : Addr} {p : Addr × Obj} {news : List (Addr × Obj)} {c : Addr} {vs : List Value} {ms : List Int} {n : Nat} {Q : Value → Shared → Prop} (N : News h₀ L s.heap (p :: news)) (hm : (c, listOf vs.toArray n) ∈ news) (hi : IntsAre vs ms) (hl : ms.length ≤ 40)
    (h : ∀ t tk, Q (.int ms.length t) { s with toks := tk }) : wpAny (model prog w) A (call (.builtin "len") [.ref c]) Q E s := by
  have e : vs.toArray.size = ms.length := by rw [List.size_toArray]; exact hi.length
  refine Calls.call_len_list (isl_of N (.tail _ hm)) (by rw [e]; omega) ?_
  rw [e]
  exact h _ _
theorem lay_C16_2 : True := by
  k_with "call builtin:len" => (k_here; (with_reducible show wpAny _ _ (call (Value.builtin "len") [Value.ref _]) _ _ _); k_dflt (refine' len_pool ?NQ9 ?mQ9 ?iQ9 ?lQ9 ?_; (case NQ9 => k_asm); (case mQ9 => with_reducible assumption); (case iQ9 => assumption); (case lQ9 => assumption)); intro t9 tk9)
  k_with "subscriptTail" => (k_here; (with_reducible show wpAny _ _ (subscriptTail _ _ (Value.ref _) (Value.int _ _)) _ _ _); (with_unfolding_all refine' item_anyK (isl_tl ?NQ9 ?mQ9) ?iQ9 ?k3Q9 ?k4Q9 ?k5Q9 ?_ ?k6Q9; (case NQ9 => k_asm); (case mQ9 => with_reducible assumption); (case iQ9 => assumption); (case k3Q9 => omega); (case k4Q9 => omega); (case k5Q9 => omega); (case k6Q9 => with_unfolding_all rfl)); intro t9)
  k_with "setItem ref int" => (k_here; k_dflt (refine' ki_set ?FQ9 ?NQ9 ?aQ9 ?bQ9 ?eQ9 (Upd.head ?UQ9) ?_; (case FQ9 => k_asm); (case NQ9 => k_asm); (case UQ9 => assumption); (case aQ9 => decide); (case bQ9 => decide); (case eQ9 => rfl)); (intro h9 F9 N9); (try dsimp only at N9))
  trivial
theorem c_law_draw {w : World} {mean : ExcName → Option Value} {mg mb : Str → Option Value} (news : List (Addr × Obj)) (p c : Addr) (g st pl most : Int) (t1 t2 t3 : Tok) (n m : Nat) (cs : List Value) (ms : List Int) (u : Tok) (hne : ∀ q ∈ news, q.1 ≠ p) (hc : (c, listOf cs.toArray m) ∈ news) (hi : IntsAre cs ms) (hm : ms.length ≤ 40) (hg0 : 0 ≤ g) (hg1 : g < 10 ^ 200) (hs0 : 0 ≤ st) (hs1 : st < 2147483647) (hp0 : 0 ≤ pl) (hp1 : pl ≤ 100) (hq0 : 1 ≤ most) (hq1 : most ≤ 11999) :
    Says w mean mg mb 204 4 100 ((p, listOf #[.ref c, .int g t1, .int st t2, .int pl t3] n) :: news) [.ref p, .int most u] (fun r n' => ∃ (k g' st' : Int) (t t1' t2' t3' : Tok) (n2 : Nat), r = .int k t ∧ 0 ≤ k ∧ k < most ∧ 0 ≤ g' ∧ g' < 10 ^ 200 ∧ 0 ≤ st' ∧ st' < 2147483647 ∧ n' = (p, listOf #[.ref c, .int g' t1', .int st' t2', .int (pl + 1) t3'] n2) :: news) := by
  unfold Says
  k_fill
  intro dp un gd cn cs a ccd cl outer A₀ base h₀ L m s Q E B F X N T hk hd hu hret
  refine wpAny_call ?_
  k_dflt cell_enter
  k_steps
  all_goals
    refine' hret _ ((p, listOf #[.ref c, .int _ _, .int _ _, .int _ _] _) :: news) _ _ ⟨_, _, _, _, _, _, _, _, rfl, ?a1, ?a2, ?a3, ?a4, ?a5, ?a6, rfl⟩ ?f ?n
    case f => with_reducible assumption
    case n => assumption
    case a1 => first | exact fmod_lo _ (by omega) | exact (fmod_lo _ (by omega))
    case a2 => exact fmod_hi _ (by omega)
    case a3 => first | assumption | exact fdiv_ge (by assumption) (by omega)
    case a4 => first | assumption | exact fdiv_lt (by assumption) (by assumption) (by omega)
    case a5 => first | assumption | exact fmod_lo _ (by omega)
    case a6 => first | assumption | exact fmod_hi _ (by omega)

end Mine
end
section
open PySem PySem.W PySem.Calls PySem.Spec PyProof.Rows PyProof.V
namespace Mine
theorem fresh_C17 : True := by
  w_top off
  k_with_none
  trivial
set_option maxRecDepth 100000
set_option maxHeartbeats 4000000

def PoolIs (c : Addr) (pl : Int) (po : Obj) : Prop := ∃ (g st : Int) (t1 t2 t3 : Tok) (n : Nat), po = listOf #[.ref c, .int g t1, .int st t2, .int pl t3] n ∧ 0 ≤ g ∧ g < 10 ^ 200 ∧ 0 ≤ st ∧ st < 2147483647
def CellsIs (co : Obj) : Prop := ∃ (cs : List Value) (k : Nat) (ms : List Int), co = listOf cs.toArray k ∧ IntsAre cs ms ∧ ms.length ≤ 40
/-- an object taken out of the ledger -/
inductive Pull (p : Addr) (o : Obj) : List (Addr × Obj) → List (Addr × Obj) → Prop
  | here {r : List (Addr × Obj)} : (∀ q ∈ r, q.1 ≠ p) → Pull p o ((p, o) :: r) r
  | there {y : Addr × Obj} {l r : List (Addr × Obj)} : y.1 ≠ p → Pull p o l r → Pull p o (y :: l) (y :: r)
theorem Pull.sub {p : Addr} {o : Obj} : ∀ {l r : List (Addr × Obj)}, Pull p o l r → ∀ q ∈ (p, o) :: r, q ∈ l
  | _, _, .here _ => fun q hq => hq
  | _, _, .there _ h => fun q hq => by
    cases hq with
    | head => exact .tail _ (h.sub _ (.head _))
    | tail _ hq =>
      cases hq with
      | head => exact .head _
      | tail _ hq => exact .tail _ (h.sub _ (.tail _ hq))
theorem Pull.ne {p : Addr} {o : Obj} : ∀ {l r : List (Addr × Obj)}, Pull p o l r → ∀ q ∈ r, q.1 ≠ p
  | _, _, .here h => h
  | _, _, .there h r => fun q hq => by
    cases hq with
    | head => exact h
    | tail _ hq => exact r.ne q hq
section
variable {w : World} {mean : ExcName → Option Value} {mg mb : Str → Option Value}
theorem use_draw {dp un : Nat} {gd : Option (List Code)} {cn : Str} {cs : Scope} {a : Addr} {ccd : Value} {cl : List (Str × Addr)} {outer : List Env} {A₀ : Around} {base h₀ : Heap} {L : Addr} {m : Str → Option Value} {s : Shared} {Q E : Value → Shared → Prop} {news : List (Addr × Obj)} (B : Below A₀ base outer h₀) (F : Fr h₀ L s.heap m) (X : (hd.heap_39 w.params).In h₀) (N : News h₀ L s.heap news) (T : Top view LS mean mg mb h₀) (hk : cs.kind = .function) {p c : Addr} {po co : Obj} {rest : List (Addr × Obj)} {pl most : Int} {u : Tok}
  (pull : Pull p po news rest) (hp : PoolIs c pl po) (hc : (c, co) ∈ rest) (hco : CellsIs co) (h0 : 0 ≤ pl) (h1 : pl ≤ 100) (q0 : 1 ≤ most) (q1 : most ≤ 11999)
  (hd : dp + 4 < recursionLimit) (hu : un + 100 < cLine)
  (ret : ∀ k t po' h' tk', 0 ≤ k → k < most → PoolIs c (pl + 1) po' → Fr h₀ L h' m → News h₀ L h' ((p, po') :: rest) → Q (.int k t) { s with heap := h', toks := tk' }) :
  wpAny (model PySem.Challenge.rw_no0354_01.row.prog w) (ktrTop dp un gd cn cs L a ccd cl outer) (call (.ref 204) [.ref p, .int most u]) Q E s := by
  obtain ⟨g, st, t1, t2, t3, n, rfl, g0, g1, s0, s1⟩ := hp
  obtain ⟨vs, k, ms, rfl, hi, hm⟩ := hco
  refine Says.use B F X (KStt.news_of N pull.sub) T hk (c_law_draw rest p c g st pl most t1 t2 t3 n k vs ms u pull.ne hc hi hm g0 g1 s0 s1 h0 h1 q0 q1) hd hu (fun r n' h' tk' hR F' N' => ?_)
  obtain ⟨k, g', st', t, t1', t2', t3', n2, rfl, k0, k1, a3, a4, a5, a6, rfl⟩ := hR
  exact ret k t _ h' tk' k0 k1 ⟨g', st', t1', t2', t3', n2, rfl, a3, a4, a5, a6⟩ F' N'
end
theorem lay_C17_1 : True := by
  k_with_none
  k_with "execs nil" => (k_here; (with_reducible refine gen_toks ?_); intro tk; (with_reducible refine wpAny_execs_nil ?_); try dsimp only)
  k_with "execs cons" => (k_here; (with_reducible refine gen_toks ?_); intro tk; (with_reducible refine wpAny_execs_cons ?_); try dsimp only)
  trivial

theorem p200 : (0 : Int) < 10 ^ 200 := Int.pow_pos (by decide)
theorem ints_are : ∀ {vs : List Value} {ns : List Int}, IntsAre vs ns → Are IsI vs ns
  | _, _, .nil => .nil
  | _, _, .cons i t r => .cons ⟨t, rfl⟩ (ints_are r)
theorem lay_C17_2 : True := by
  k_with "exec Assign cons ListComp" => (k_here; k_dflt (refine LCg.Assign_ListComp_U (F₀ := by k_asm) (by rfl) (by with_unfolding_all rfl) (by with_unfolding_all rfl) (by decide) (by rfl) (by decide) (by rfl) (by rfl) (by rfl) ?_))
  k_with "CompSrc" => (k_dflt (refine LCg.CompSrc.ledger (by rfl) (by k_asm) (by k_asm) (by k_mem) (by rw [List.size_toArray, IntsAre.length (by assumption), sizeLine_eq]; omega) ?_); intro g3)
  trivial

theorem box_call {w : World} {mean : ExcName → Option Value} {mg mb : Str → Option Value} {dp un : Nat} {gd : Option (List Code)} {cn : Str} {cs : Scope} {a : Addr} {ccd : Value} {cl : List (Str × Addr)} {outer : List Env} {A₀ : Around} {base h₀ : Heap} {L : Addr} {m : Str → Option Value} {s : Shared} {Q E : Value → Shared → Prop} {news : List (Addr × Obj)} {l : Addr} {vs : List Value} {ns : List Int} (B : Below A₀ base outer h₀) (F : Fr h₀ L s.heap m) (X : (hd.heap_39 w.params).In h₀) (N : News h₀ L s.heap news) (T : Top view LS mean mg mb h₀) (hk : cs.kind = .function)
  (hl : base.IsList l vs.toArray) (hi : IntsAre vs ns) (hn : ns.length ≤ 63) (hd : dp + 6 < recursionLimit) (hu : un + 100 < cLine)
  (ret : ∀ p c po co h' tk', PoolIs c 0 po → CellsIs co → (∀ q ∈ news, q.1 < p) → c < p → Fr h₀ L h' m → News h₀ L h' ((p, po) :: (c, co) :: news) → Q (.ref p) { s with heap := h', toks := tk' }) :
  wpAny (model PySem.Challenge.rw_no0354_01.row.prog w) (ktrTop dp un gd cn cs L a ccd cl outer) (call (.ref 197) [.ref l]) Q E s := by
  revert B F X N T hl
  k_fill
  intro B F X N T hl
  refine wpAny_call ?_
  k_dflt cell_enter
  (k_with "pyIter ref" => k_state (fun (pre : List Int) (st : Int) => 0 ≤ st ∧ st < 2147483647) "state")
  k_steps
  with_reducible rename (IntsAre _ (List.take 40 ns)) => hws
  have hlen : (List.take 40 ns).length ≤ 40 := by rw [List.length_take]; omega
  refine rest_gen IsI IsI (List.take 40 ns) _root_.id (by rw [List.size_toArray]; exact hws.length) ?hP ?turn ?fin
  case hP =>
    intro i v hv
    exact are_at (ints_are hws) (by simpa using hv)
  case turn =>
    rintro a v I oI C oC D m₂ ys h tk E' ha ⟨t, rfl⟩ hC hmx F9 N9 off ne
    k_steps
    refine LCg.CompEnd.intro (by assumption) (by assumption) _ (fun p hp => hp) off (.inr ⟨_, by k_mem, rfl, _, rfl⟩) ⟨rfl, _, rfl⟩
  case fin =>
    intro ys hys
    rw [List.map_id] at hys
    replace hys := hys.ints
    generalize List.take 40 ns = ms at *
    unfold LCg.FinA
    intro D h tk F9 N9 o1
    k_steps
    all_goals
      refine' ret _ _ (listOf #[.ref _, .int _ _, .int _ _, .int 0 _] 0) (LCg.lst ys) _ _ ⟨_, _, _, _, _, 0, rfl, ?a1, ?a2, ?a3, ?a4⟩ ⟨ys, _, ms, rfl, hys, hlen⟩ ?b ?c ?f ?n
      case f => with_reducible assumption
      case n => exact news_two (by assumption) (by (repeat (first | with_reducible exact sub_refl | with_reducible refine sub_keep ?_ | with_reducible refine sub_cons ?_)))
      case b => exact lt_a2 (by with_reducible assumption)
      case c => exact lt_first (by with_reducible assumption)
      case a1 => first | exact Int.le_refl _ | exact fmod_lo _ p200
      case a2 => first | exact p200 | exact fmod_hi _ p200
      case a3 => assumption
      case a4 => assumption
end Mine
end
section
open PySem PySem.W PySem.Calls PySem.Spec PyProof.Rows PyProof.V
namespace Mine
theorem fresh_P10 : True := by
  w_top off
  k_with_none
  trivial
set_option maxRecDepth 100000
set_option maxHeartbeats 4000000

theorem numS_T (l : List Nat) : numS (T l) = numI (l.map fun (n : Nat) => (n : Int)) := by
  unfold numS PySem.W.KStt.codes
  rw [T_cps]
theorem num2 {n : Int} (h0 : 0 ≤ n) (h1 : n ≤ 99) : numS (T (c2 n)) = n := by
  rw [numS_T]
  simp only [c2, numI, List.map_cons, List.map_nil, List.foldl_cons, List.foldl_nil]
  omega
theorem num4 {n : Int} (h0 : 0 ≤ n) (h1 : n ≤ 9999) : numS (T (c4 n)) = n := by
  rw [numS_T]
  simp only [c4, numI, List.map_cons, List.map_nil, List.foldl_cons, List.foldl_nil]
  omega
theorem num1 {n : Int} (h0 : 0 ≤ n) (h1 : n ≤ 9) : numS (T [48 + n.toNat]) = n := by
  rw [numS_T]
  simp only [numI, List.map_cons, List.map_nil, List.foldl_cons, List.foldl_nil]
  omega
theorem isFig_of {n : Nat} (h0 : 48 ≤ n) (h1 : n ≤ 57) : isFig n = true := by simp [isFig, h0, h1]
theorem figs2 {n : Int} (h0 : 0 ≤ n) (h1 : n ≤ 99) : figs (T (c2 n)) = true := by
  rw [figs_T]
  simp only [c2, List.all_cons, List.all_nil, Bool.and_true, List.isEmpty_cons, Bool.not_false, Bool.true_and]
  rw [isFig_of (by omega) (by omega), isFig_of (by omega) (by omega)]
  rfl
theorem figs4 {n : Int} (h0 : 0 ≤ n) (h1 : n ≤ 9999) : figs (T (c4 n)) = true := by
  rw [figs_T]
  simp only [c4, List.all_cons, List.all_nil, Bool.and_true, List.isEmpty_cons, Bool.not_false, Bool.true_and]
  rw [isFig_of (by omega) (by omega), isFig_of (by omega) (by omega), isFig_of (by omega) (by omega), isFig_of (by omega) (by omega)]
  rfl
theorem figs1 {n : Int} (h0 : 0 ≤ n) (h1 : n ≤ 9) : figs (T [48 + n.toNat]) = true := by
  rw [figs_T]
  simp only [List.all_cons, List.all_nil, Bool.and_true, List.isEmpty_cons, Bool.not_false, Bool.true_and]
  exact isFig_of (by omega) (by omega)

/-- a text of the store's form is read back -/
theorem read26 {p0 p1 m0 m1 m2 y0 y1 y2 y3 h0 h1 i0 i1 s0 s1 sg z0 z1 z2 z3 : Nat} {d : Int}
    (ha : (p0 = 32 ∧ figs (T [p1]) = true ∧ numS (T [p1]) = d) ∨ (p0 ≠ 32 ∧ figs (T [p0, p1]) = true ∧ numS (T [p0, p1]) = d)) (hm : 45 ∉ [m0, m1, m2]) (hy : figs (T [y0, y1, y2, y3]) = true)
    (hd : dayOk (numS (T [y0, y1, y2, y3])) (monthNo (T [m0, m1, m2])) d = true) (fh : figs (T [h0, h1]) = true) (fi : figs (T [i0, i1]) = true) (fs : figs (T [s0, s1]) = true) (ht : timeOk (numS (T [h0, h1])) (numS (T [i0, i1])) (numS (T [s0, s1])) = true)
    (fz : figs (T [z0, z1]) = true) (fw : figs (T [z2, z3]) = true) (hw : numS (T [z2, z3]) ≤ 59) (hs : sg = 43 ∨ sg = 45) :
    readI (T [p0, p1, 45, m0, m1, m2, 45, y0, y1, y2, y3, 32, h0, h1, 58, i0, i1, 58, s0, s1, 32, sg, z0, z1, z2, z3]) = .ok (numS (T [y0, y1, y2, y3]), monthNo (T [m0, m1, m2]), d, numS (T [h0, h1]), numS (T [i0, i1]), numS (T [s0, s1]), if sg = 45 then -(numS (T [z0, z1]) * 60 + numS (T [z2, z3])) else numS (T [z0, z1]) * 60 + numS (T [z2, z3])) := by
  generalize hx : T [p0, p1, 45, m0, m1, m2, 45, y0, y1, y2, y3, 32, h0, h1, 58, i0, i1, 58, s0, s1, 32, sg, z0, z1, z2, z3] = x
  have hl : (x.length : Int) = 26 := by rw [← hx]; rfl
  have ev : x.cps.toList = [p0, p1, 45, m0, m1, m2, 45, y0, y1, y2, y3, 32, h0, h1, 58, i0, i1, 58, s0, s1, 32, sg, z0, z1, z2, z3] := by rw [← hx]
  have it2 : Txt.item x 2 = T [45] := by rw [← hx]; rfl
  have it6 : Txt.item x 6 = T [45] := by rw [← hx]; rfl
  have it11 : Txt.item x 11 = T [32] := by rw [← hx]; rfl
  have it14 : Txt.item x 14 = T [58] := by rw [← hx]; rfl
  have it17 : Txt.item x 17 = T [58] := by rw [← hx]; rfl
  have it20 : Txt.item x 20 = T [32] := by rw [← hx]; rfl
  have it21 : Txt.item x 21 = T [sg] := by rw [← hx]; rfl
  have it0 : Txt.item x 0 = T [p0] := by rw [← hx]; rfl
  have e2 : (Txt.item x 2 != Str.ofString "-") = false := by rw [it2, dash_T, T_bne']
  have e11 : (Txt.item x 11 != Str.ofString " ") = false := by rw [it11, blank_T, T_bne']
  have e20 : (Txt.item x 20 != Str.ofString " ") = false := by rw [it20, blank_T, T_bne']
  obtain ⟨a, q, r, c, a1, a2, a3, a4, a5⟩ := day_key hl e2
  obtain ⟨b1, b2, b3, b4, b5, c1, c2', c3, c4', c5, c6⟩ := time_key hl
  obtain ⟨w1, w2, d1, d2, d3⟩ := zone_key hl
  rw [it6, T_inj] at a4
  rw [it14, T_inj] at c4'
  rw [it17, T_inj] at c5
  rw [slice_ss (by decide) (by decide) (by omega), ev, T_inj] at a2 a3 c1 c2' c3 d1 d2
  have a2 : [m0, m1, m2] = q := a2
  have a3 : [y0, y1, y2, y3] = r := a3
  have c1 : [h0, h1] = b1 := c1
  have c2' : [i0, i1] = b2 := c2'
  have c3 : [s0, s1] = b3 := c3
  have d1 : [z0, z1] = w1 := d1
  have d2 : [z2, z3] = w2 := d2
  simp only [List.cons.injEq, and_true] at a4 c4' c5
  subst a2 a3 c1 c2' c3 d1 d2 a4 c4' c5
  have hda : figs (T a) = true ∧ numS (T a) = d := by
    rcases ha with ⟨e, f1, f2⟩ | ⟨e, f1, f2⟩
    · have hb : begunOf x = 1 := begun1 (by rw [it0, blank_T, T_beq, e])
      rw [hb, slice_ss (by decide) (by decide) (by omega), ev, T_inj] at a1
      have a1 : [p1] = a := a1
      subst a1
      exact ⟨f1, f2⟩
    · have hb : begunOf x = 0 := begun0 (by
        rw [it0, blank_T, ← Bool.not_eq_true, T_beq]
        intro h
        exact e (by simpa using h))
      rw [hb, slice_ss (by decide) (by decide) (by omega), ev, T_inj] at a1
      have a1 : [p0, p1] = a := a1
      subst a1
      exact ⟨f1, f2⟩
  refine r_ok hl e2 e11 rfl (a5.trans ?_) (c6.trans ?_) (d3.trans ?_) e20
  · rw [if_pos ⟨rfl, hm⟩]
    unfold dayC
    rw [if_pos ⟨hda.1, hy, by rw [hda.2]; exact hd⟩, hda.2]
  · rw [if_pos ⟨rfl, rfl⟩]
    unfold timeC
    rw [if_pos ⟨fh, fi, fs, ht⟩]
  · have ho : (Builtin.Str.occurrences (Str.ofString "+-") (Txt.item x 21) 0 (Str.ofString "+-").length 1).isEmpty = false := by
      rw [it21]
      rcases hs with rfl | rfl <;> decide +kernel
    rw [if_neg (by rw [ho]; decide), if_pos ⟨fz, fw⟩, if_neg (by omega)]
    rcases hs with rfl | rfl
    · rw [if_neg (show ¬ (Txt.item x 21 == Str.ofString "-") = true by rw [it21, dash_T, T_beq]; decide), if_neg (show ¬ (43 : Nat) = 45 by decide)]
    · rw [if_pos (show (Txt.item x 21 == Str.ofString "-") = true by rw [it21, dash_T, T_beq]), if_pos rfl]
end Mine
end
section
open PySem PySem.W PySem.Calls PySem.Spec PyProof.Rows PyProof.V
namespace Mine
theorem fresh_P11 : True := by
  w_top off
  k_with_none
  trivial
set_option maxRecDepth 100000
set_option maxHeartbeats 4000000

def dayP (d : Int) : List Nat := if d < 10 then [32, 48 + d.toNat] else c2 d
def sgC (z : Int) : Nat := if z < 0 then 45 else 43
def tailC (y h i s z : Int) (mn : List Nat) : List Nat := [45] ++ mn ++ [45] ++ c4 y ++ [32] ++ c2 h ++ [58] ++ c2 i ++ [58] ++ c2 s ++ [32, sgC z] ++ c2 ((absI z).fdiv 60) ++ c2 ((absI z).fmod 60)
def swc (c : Nat) : Nat := if 65 ≤ c ∧ c ≤ 90 then c + 32 else if 97 ≤ c ∧ c ≤ 122 then c - 32 else c
def monSw (j : Nat) : List Nat := (monC j).map swc
def tailS (y o h i s z : Int) : Str := T (tailC y h i s z (monC (o - 1).toNat))
def tailW (y o h i s z : Int) : Str := T (tailC y h i s z (monSw (o - 1).toNat))
def wholeS (y o d h i s z : Int) : Str := T (dayP d ++ tailC y h i s z (monC (o - 1).toNat))
def nightS (y o d h i s z : Int) : Str := T (c2 d ++ tailC y h i s z (monSw (o - 1).toNat))
structure MomOk (y o d h i s z : Int) : Prop where
  day : dayOk y o d = true
  time : timeOk h i s = true
  z0 : -5999 ≤ z
  z1 : z ≤ 5999
theorem mon_no : ∀ j : Fin 12, monthNo (T (monC j.val)) = (j.val : Int) + 1 ∧ monthNo (T (monSw j.val)) = (j.val : Int) + 1 ∧ 45 ∉ monC j.val ∧ 45 ∉ monSw j.val ∧ (monC j.val).length = 3 ∧ (monSw j.val).length = 3 := by decide +kernel
theorem three_l {l : List Nat} (h : l.length = 3) : ∃ a b c, l = [a, b, c] := by
  match l, h with
  | [a, b, c], _ => exact ⟨a, b, c, rfl⟩
theorem zone_val {z : Int} (h0 : -5999 ≤ z) (h1 : z ≤ 5999) : (if sgC z = 45 then -(numS (T (c2 ((absI z).fdiv 60))) * 60 + numS (T (c2 ((absI z).fmod 60)))) else numS (T (c2 ((absI z).fdiv 60))) * 60 + numS (T (c2 ((absI z).fmod 60)))) = z := by
  obtain ⟨⟨q1, q2⟩, q3, q4⟩ := fdiv60 h0 h1
  have e : absI z = if z < 0 then -z else z := rfl
  rw [e, num2 q1 q2, num2 q3 (by omega)]
  rw [Int.fdiv_eq_ediv_of_nonneg _ (by decide), Int.fmod_eq_emod_of_nonneg _ (by decide)]
  unfold sgC
  by_cases hz : z < 0
  · simp only [if_pos hz, if_true]
    omega
  · simp only [if_neg hz]
    rw [if_neg (by decide)]
    omega
theorem read_any {y o d h i s z : Int} (M : MomOk y o d h i s z) {mn : List Nat} {p0 p1 : Nat} (hl : mn.length = 3) (hm : 45 ∉ mn) (ho : monthNo (T mn) = o)
    (ha : (p0 = 32 ∧ figs (T [p1]) = true ∧ numS (T [p1]) = d) ∨ (p0 ≠ 32 ∧ figs (T [p0, p1]) = true ∧ numS (T [p0, p1]) = d)) :
    readI (T ([p0, p1] ++ tailC y h i s z mn)) = .ok (y, o, d, h, i, s, z) := by
  obtain ⟨a, b, c, rfl⟩ := three_l hl
  obtain ⟨b1, b2, b3, b4, b5, b6⟩ := day_bnd M.day
  obtain ⟨t1, t2, t3, t4, t5, t6⟩ := time_bnd M.time
  obtain ⟨⟨q1, q2⟩, q3, q4⟩ := fdiv60 M.z0 M.z1
  have e : absI z = if z < 0 then -z else z := rfl
  have ny := num4 (n := y) (by omega) b2
  have nh := num2 (n := h) t1 (by omega)
  have ni := num2 (n := i) t3 (by omega)
  have ns := num2 (n := s) t5 (by omega)
  have nw := num2 q3 (by omega)
  have key := read26 (p0 := p0) (p1 := p1) (m0 := a) (m1 := b) (m2 := c) (sg := sgC z) ha hm (figs4 (n := y) (by omega) b2) (by show dayOk (numS (T (c4 y))) _ _ = true; rw [ny, ho]; exact M.day) (figs2 (n := h) t1 (by omega)) (figs2 (n := i) t3 (by omega)) (figs2 (n := s) t5 (by omega))
    (by show timeOk (numS (T (c2 h))) (numS (T (c2 i))) (numS (T (c2 s))) = true; rw [nh, ni, ns]; exact M.time) (figs2 q1 q2) (figs2 q3 (by omega)) (by show numS (T (c2 _)) ≤ 59; rw [nw]; exact q4) (by unfold sgC; split; exact .inr rfl; exact .inl rfl)
  refine Eq.trans key ?_
  show Except.ok (numS (T (c4 y)), monthNo (T [a, b, c]), d, numS (T (c2 h)), numS (T (c2 i)), numS (T (c2 s)), (if sgC z = 45 then -(numS (T (c2 ((absI z).fdiv 60))) * 60 + numS (T (c2 ((absI z).fmod 60)))) else numS (T (c2 ((absI z).fdiv 60))) * 60 + numS (T (c2 ((absI z).fmod 60))))) = _
  rw [ny, ho, nh, ni, ns, zone_val M.z0 M.z1]
theorem mon_at {o : Int} (h0 : 1 ≤ o) (h1 : o ≤ 12) : monthNo (T (monC (o - 1).toNat)) = o ∧ monthNo (T (monSw (o - 1).toNat)) = o ∧ 45 ∉ monC (o - 1).toNat ∧ 45 ∉ monSw (o - 1).toNat ∧ (monC (o - 1).toNat).length = 3 ∧ (monSw (o - 1).toNat).length = 3 := by
  have := mon_no ⟨(o - 1).toNat, by omega⟩
  simp only at this
  rw [show (((o - 1).toNat : Nat) : Int) + 1 = o by omega] at this
  exact this
theorem whole_read {y o d h i s z : Int} (M : MomOk y o d h i s z) : readI (wholeS y o d h i s z) = .ok (y, o, d, h, i, s, z) := by
  obtain ⟨b1, b2, b3, b4, b5, b6⟩ := day_bnd M.day
  obtain ⟨m1, m2, m3, m4, m5, m6⟩ := mon_at b3 b4
  unfold wholeS dayP
  split
  · exact read_any M m5 m3 m1 (.inl ⟨rfl, figs1 (by omega) (by omega), num1 (by omega) (by omega)⟩)
  · exact read_any M m5 m3 m1 (.inr ⟨by omega, figs2 (by omega) (by omega), num2 (by omega) (by omega)⟩)
theorem night_read {y o d h i s z : Int} (M : MomOk y o d h i s z) : readI (nightS y o d h i s z) = .ok (y, o, d, h, i, s, z) := by
  obtain ⟨b1, b2, b3, b4, b5, b6⟩ := day_bnd M.day
  obtain ⟨m1, m2, m3, m4, m5, m6⟩ := mon_at b3 b4
  unfold nightS
  exact read_any M m6 m4 m2 (.inr ⟨by omega, figs2 (by omega) (by omega), num2 (by omega) (by omega)⟩)
/-- the signs of a whole text: all below 128 -/
theorem mon_lt : ∀ j : Fin 12, (∀ c ∈ monC j.val, c < 128) ∧ (∀ c ∈ monSw j.val, c < 128) := by decide +kernel
theorem tailC_lt {y h i s z : Int} {mn : List Nat} (hy0 : 0 ≤ y) (hy1 : y ≤ 9999) (hh : 0 ≤ h ∧ h ≤ 99) (hi : 0 ≤ i ∧ i ≤ 99) (hs : 0 ≤ s ∧ s ≤ 99) (hz0 : -5999 ≤ z) (hz1 : z ≤ 5999) (hm : ∀ c ∈ mn, c < 128) : ∀ c ∈ tailC y h i s z mn, c < 128 := by
  obtain ⟨⟨q1, q2⟩, q3, q4⟩ := fdiv60 hz0 hz1
  intro c hc
  unfold tailC c4 c2 sgC absI at hc
  simp only [List.mem_append, List.mem_cons, List.not_mem_nil, or_false] at hc
  generalize (if z < 0 then -z else z).fdiv 60 = u at *
  generalize (if z < 0 then -z else z).fmod 60 = v at *
  rcases hc with ((((((((((hc | hc) | hc) | hc) | hc) | hc) | hc) | hc) | hc) | hc) | hc) | hc
  all_goals first
    | exact hm c hc
    | omega
    | (rcases hc with hc | hc <;> first | exact hm c hc | omega | (split at hc <;> omega))
theorem tailC_len {y h i s z : Int} {mn : List Nat} (hm : mn.length = 3) : (tailC y h i s z mn).length = 24 := by
  unfold tailC c4 c2
  simp only [List.length_append, List.length_cons, List.length_nil, hm]
structure OkS (x : Str) : Prop where
  t : okT x
  a : okA x
  l : x.length = 26
theorem okS_of {l : List Nat} (hl : l.length = 26) (h : ∀ c ∈ l, c < 128) : OkS (T l) :=
  ⟨⟨by rw [len_T, hl]; decide, fun c hc => by rw [T_cps] at hc; have := h c hc; omega⟩, fun c hc => by rw [T_cps] at hc; exact .inl (h c hc), by rw [len_T, hl]⟩
theorem tail_lt {y o d h i s z : Int} (M : MomOk y o d h i s z) {mn : List Nat} (hm : ∀ c ∈ mn, c < 128) : ∀ c ∈ tailC y h i s z mn, c < 128 := by
  obtain ⟨b1, b2, b3, b4, b5, b6⟩ := day_bnd M.day
  obtain ⟨t1, t2, t3, t4, t5, t6⟩ := time_bnd M.time
  exact tailC_lt (by omega) b2 ⟨t1, by omega⟩ ⟨t3, by omega⟩ ⟨t5, by omega⟩ M.z0 M.z1 hm
theorem whole_okS {y o d h i s z : Int} (M : MomOk y o d h i s z) : OkS (wholeS y o d h i s z) := by
  obtain ⟨b1, b2, b3, b4, b5, b6⟩ := day_bnd M.day
  obtain ⟨m1, m2, m3, m4, m5, m6⟩ := mon_at b3 b4
  have hd : (dayP d).length = 2 ∧ ∀ c ∈ dayP d, c < 128 := by
    unfold dayP c2
    split
    · exact ⟨rfl, by simp; omega⟩
    · exact ⟨rfl, by simp; omega⟩
  refine okS_of ?_ ?_
  · rw [List.length_append, hd.1, tailC_len m5]
  · intro c hc
    rcases List.mem_append.mp hc with hc | hc
    · exact hd.2 c hc
    · exact tail_lt M (mon_lt ⟨(o - 1).toNat, by omega⟩).1 c hc
theorem night_okS {y o d h i s z : Int} (M : MomOk y o d h i s z) : OkS (nightS y o d h i s z) := by
  obtain ⟨b1, b2, b3, b4, b5, b6⟩ := day_bnd M.day
  obtain ⟨m1, m2, m3, m4, m5, m6⟩ := mon_at b3 b4
  refine okS_of ?_ ?_
  · rw [List.length_append, tailC_len m6]; rfl
  · intro c hc
    rcases List.mem_append.mp hc with hc | hc
    · unfold c2 at hc
      simp only [List.mem_cons, List.not_mem_nil, or_false] at hc
      omega
    · exact tail_lt M (mon_lt ⟨(o - 1).toNat, by omega⟩).2 c hc
end Mine
end
section
open PySem PySem.W PySem.Calls PySem.Spec PyProof.Rows PyProof.V
namespace Mine
theorem fresh_C18 : True := by
  w_top off
  k_with_none
  trivial
set_option maxRecDepth 100000
set_option maxHeartbeats 4000000

theorem c_read {w : World} {mean : ExcName → Option Value} {mg mb : Str → Option Value} (news : List (Addr × Obj)) (x : Str) (t : Tok) (hx : okT x) : SaysR w mean mg mb 185 14 170 news [.str x t] (fun r n' => ∃ q dq y m d h i s z u t, r = .ref q ∧ n' = (q, instObj 91 dq) :: (dq, momD w.params y m d h i s z u t) :: news ∧ (∀ p ∈ news, p.1 < dq) ∧ dq < q ∧ readI x = .ok (y, m, d, h, i, s, z)) (fun k => readI x = .error k) := by
  by_cases h26 : x.length = 26
  · exact c_read_full news x t hx h26
  · exact c_read_short news x t hx h26
section
variable {w : World} {mean : ExcName → Option Value} {mg mb : Str → Option Value}
theorem use_read_ok {dp un : Nat} {gd : Option (List Code)} {cn : Str} {cs : Scope} {a : Addr} {ccd : Value} {cl : List (Str × Addr)} {outer : List Env} {A₀ : Around} {base h₀ : Heap} {L : Addr} {m : Str → Option Value} {s : Shared} {Q E : Value → Shared → Prop} {news : List (Addr × Obj)} (B : Below A₀ base outer h₀) (F : Fr h₀ L s.heap m) (X : (hd.heap_39 w.params).In h₀) (N : News h₀ L s.heap news) (T : Top view LS mean mg mb h₀) (hk : cs.kind = .function) {x : Str} {t : Tok} {y o d h i c z : Int} (hx : okT x) (hr : readI x = .ok (y, o, d, h, i, c, z))
  (hd : dp + 14 < recursionLimit) (hu : un + 170 < cLine)
  (ret : ∀ q dq u t h' tk', (∀ p ∈ news, p.1 < dq) → dq < q → Fr h₀ L h' m → News h₀ L h' ((q, instObj 91 dq) :: (dq, momD w.params y o d h i c z u t) :: news) → Q (.ref q) { s with heap := h', toks := tk' }) :
  wpAny (model PySem.Challenge.rw_no0354_01.row.prog w) (ktrTop dp un gd cn cs L a ccd cl outer) (call (.ref 185) [.str x t]) Q E s := by
  refine c_read news x t hx _ _ _ _ _ _ _ _ _ _ _ _ _ _ _ _ _ B F X N T hk hd hu (fun r n' h' tk' hR F' N' => ?_) (fun e d k u1 u2 z tx tkk g₂ h' tk' hx F' U' R' => ?_)
  · obtain ⟨q, dq, y', o', d', h1, i', c', z', u, t, rfl, rfl, l1, l2, e⟩ := hR
    rw [hr] at e
    simp only [Except.ok.injEq, Prod.mk.injEq] at e
    obtain ⟨rfl, rfl, rfl, rfl, rfl, rfl, rfl⟩ := e
    exact ret q dq u t h' tk' l1 l2 F' N'
  · rw [hr] at hx
    cases hx
theorem use_read_any {dp un : Nat} {gd : Option (List Code)} {cn : Str} {cs : Scope} {a : Addr} {ccd : Value} {cl : List (Str × Addr)} {outer : List Env} {A₀ : Around} {base h₀ : Heap} {L : Addr} {m : Str → Option Value} {s : Shared} {Q E : Value → Shared → Prop} {news : List (Addr × Obj)} (B : Below A₀ base outer h₀) (F : Fr h₀ L s.heap m) (X : (hd.heap_39 w.params).In h₀) (N : News h₀ L s.heap news) (T : Top view LS mean mg mb h₀) (hk : cs.kind = .function) {x : Str} {t : Tok} (hx : okT x)
  (hd : dp + 14 < recursionLimit) (hu : un + 170 < cLine)
  (ret : ∀ y o d h i c z, readI x = .ok (y, o, d, h, i, c, z) → ∀ q dq u t h' tk', (∀ p ∈ news, p.1 < dq) → dq < q → Fr h₀ L h' m → News h₀ L h' ((q, instObj 91 dq) :: (dq, momD w.params y o d h i c z u t) :: news) → Q (.ref q) { s with heap := h', toks := tk' })
  (exc : ∀ k, readI x = .error k → ∀ e d u1 u2 z tx tkk g₂ h' tk', Fr h₀ L g₂ m → g₂.UpToSlots h' → FlyK base (envX cn cs L a ccd cl :: outer) e d ((d, whatAt w.params u1 u2 z tx k tkk) :: news) h' → E (.ref e) { s with heap := h', toks := tk' }) :
  wpAny (model PySem.Challenge.rw_no0354_01.row.prog w) (ktrTop dp un gd cn cs L a ccd cl outer) (call (.ref 185) [.str x t]) Q E s := by
  refine c_read news x t hx _ _ _ _ _ _ _ _ _ _ _ _ _ _ _ _ _ B F X N T hk hd hu (fun r n' h' tk' hR F' N' => ?_) (fun e d k u1 u2 z tx tkk g₂ h' tk' hx F' U' R' => exc k hx e d u1 u2 z tx tkk g₂ h' tk' F' U' R')
  obtain ⟨q, dq, y', o', d', h1, i', c', z', u, t, rfl, rfl, l1, l2, e⟩ := hR
  exact ret _ _ _ _ _ _ _ e q dq u t h' tk' l1 l2 F' N'
/-- _law_read of a text that read_internal refuses -/
theorem use_law_err {dp un : Nat} {gd : Option (List Code)} {cn : Str} {cs : Scope} {a : Addr} {ccd : Value} {cl : List (Str × Addr)} {outer : List Env} {A₀ : Around} {base h₀ : Heap} {L : Addr} {m : Str → Option Value} {s : Shared} {Q E : Value → Shared → Prop} {news : List (Addr × Obj)} (B : Below A₀ base outer h₀) (F : Fr h₀ L s.heap m) (X : (hd.heap_39 w.params).In h₀) (N : News h₀ L s.heap news) (T : Top view LS mean mg mb h₀) (hk : cs.kind = .function) {x : Str} {t : Tok} {k : Int} (hx : okT x) (hA : okA x) (hr : readI x = .error k)
  (hd : dp + 14 < recursionLimit) (hu : un + 170 < cLine)
  (ret : ∀ a t h' tk', (∀ p ∈ news, p.1 < a) → Fr h₀ L h' m → News h₀ L h' ((a, tupO [.none, .int k t]) :: news) → Q (.ref a) { s with heap := h', toks := tk' }) :
  wpAny (model PySem.Challenge.rw_no0354_01.row.prog w) (ktrTop dp un gd cn cs L a ccd cl outer) (call (.ref 231) [.str x t]) Q E s := by
  refine Says.use B F X N T hk (c_law_read news x t hx hA) hd hu (fun r n' h' tk' hR F' N' => ?_)
  rcases hR with ⟨k', a, t, e, rfl, rfl, l⟩ | ⟨y', o', d', h1, i', c', z', a, b, u, t, e, _⟩
  · rw [hr] at e
    simp only [Except.error.injEq] at e
    subst e
    exact ret a t h' tk' l F' N'
  · rw [hr] at e
    cases e
theorem use_law_ok {dp un : Nat} {gd : Option (List Code)} {cn : Str} {cs : Scope} {a : Addr} {ccd : Value} {cl : List (Str × Addr)} {outer : List Env} {A₀ : Around} {base h₀ : Heap} {L : Addr} {m : Str → Option Value} {s : Shared} {Q E : Value → Shared → Prop} {news : List (Addr × Obj)} (B : Below A₀ base outer h₀) (F : Fr h₀ L s.heap m) (X : (hd.heap_39 w.params).In h₀) (N : News h₀ L s.heap news) (T : Top view LS mean mg mb h₀) (hk : cs.kind = .function) {x : Str} {t : Tok} {y o d h i c z : Int} (hx : okT x) (hA : okA x) (hr : readI x = .ok (y, o, d, h, i, c, z))
  (hd : dp + 14 < recursionLimit) (hu : un + 170 < cLine)
  (ret : ∀ (a b : Addr) (u : Tok) (t : Nat → Tok) (h' : Heap) (tk' : Nat), (∀ p ∈ news, p.1 < b) → b < a → Fr h₀ L h' m → News h₀ L h' ((a, tupO [.ref b, .int (-1) u]) :: (b, tupO [.int y (t 0), .int o (t 1), .int d (t 2), .int h (t 3), .int i (t 4), .int c (t 5), .int z (t 6)]) :: news) → Q (.ref a) { s with heap := h', toks := tk' }) :
  wpAny (model PySem.Challenge.rw_no0354_01.row.prog w) (ktrTop dp un gd cn cs L a ccd cl outer) (call (.ref 231) [.str x t]) Q E s := by
  refine Says.use B F X N T hk (c_law_read news x t hx hA) hd hu (fun r n' h' tk' hR F' N' => ?_)
  rcases hR with ⟨k', a, t, e, _⟩ | ⟨y', o', d', h1, i', c', z', a, b, u, t, e, rfl, rfl, l1, l2⟩
  · rw [hr] at e
    cases e
  · rw [hr] at e
    simp only [Except.ok.injEq, Prod.mk.injEq] at e
    obtain ⟨rfl, rfl, rfl, rfl, rfl, rfl, rfl⟩ := e
    exact ret a b u t h' tk' l1 l2 F' N'
end
end Mine
end
section
open PySem PySem.W PySem.Calls PySem.Spec PyProof.Rows PyProof.V
namespace Mine
theorem fresh_P12 : True := by
  w_top off
  k_with_none
  trivial
set_option maxRecDepth 100000
set_option maxHeartbeats 4000000

def signS (z : Int) : Str := T [32, sgC z]
theorem c4_split {y : Int} (h0 : 0 ≤ y) (h1 : y ≤ 9999) : c2 (y.fdiv 100) ++ c2 (y.fmod 100) = c4 y := by
  rw [Int.fdiv_eq_ediv_of_nonneg _ (by decide), Int.fmod_eq_emod_of_nonneg _ (by decide)]
  unfold c2 c4
  simp only [List.cons_append, List.nil_append, List.cons.injEq, and_true]
  refine ⟨?_, ?_, ?_, ?_⟩ <;> omega
theorem tail_eq {y o h i s z : Int} (y0 : 0 ≤ y) (y1 : y ≤ 9999) (o0 : 1 ≤ o) (o1 : o ≤ 12) :
    Str.ofString "-" ++ monthsS.getD (o - 1).toNat Str.empty ++ Str.ofString "-" ++ dig2 (y.fdiv 100) ++ dig2 (y.fmod 100) ++ Str.ofString " " ++ dig2 h ++ Str.ofString ":" ++ dig2 i ++ Str.ofString ":" ++ dig2 s ++ signS z ++ dig2 ((if z < 0 then -z else z).fdiv 60) ++ dig2 ((if z < 0 then -z else z).fmod 60) = tailS y o h i s z := by
  rw [dash_T, blank_T, colon_T, mon_T o0 o1]
  unfold tailS tailC signS
  rw [← c4_split y0 y1]
  simp only [dig2_T, cat_T]
  refine congrArg T ?_
  simp only [List.append_assoc]
  rfl
theorem mom_ok {k2 k3 k4 h i s k8 : Int} (a0 : 0 ≤ k2) (a1 : k2 < 9999) (b0 : 0 ≤ k3) (b1 : k3 < 12) (c0 : 0 ≤ k4) (c1 : k4 < mlen (1 + k2) (1 + k3)) (h0 : 0 ≤ h) (h1 : h < 24) (i0 : 0 ≤ i) (i1 : i < 60) (s0 : 0 ≤ s) (s1 : s < 61) (z0 : 0 ≤ k8) (z1 : k8 < 11999) : MomOk (1 + k2) (1 + k3) (1 + k4) h i s (k8 - 5999) :=
  ⟨decide_eq_true ⟨by omega, by omega, by omega, by omega, by omega, by omega⟩, decide_eq_true ⟨by omega, by omega, by omega, by omega, by omega, by omega⟩, by omega, by omega⟩
theorem mul_sp0 : Txt.mul (Str.ofString " ") 0 = T [] := by decide +kernel
theorem mul_sp1 : Txt.mul (Str.ofString " ") 1 = T [32] := by decide +kernel
theorem write_eq {y o d h i s z : Int} (M : MomOk y o d h i s z) : writeT y o d h i s z = wholeS y o d h i s z := by
  obtain ⟨b1, b2, b3, b4, b5, b6⟩ := day_bnd M.day
  unfold writeT wholeS clockT zoneT
  rw [clock3, dayT_len (y := y) b3 b4 b5 b6, dayT_T b3 b4 b5 b6, blank_T]
  rw [show (if z < 0 then Str.ofString "-" else Str.ofString "+") = T [sgC z] by unfold sgC; split; exact dash_T; exact plus_T]
  unfold tailC dayP cDay absI
  split
  · rw [show (11 : Int) - ((10 : Nat) : Int) = 1 from rfl, ← blank_T, mul_sp1, blank_T]
    simp only [dig2_T, cat_T]
    refine congrArg T ?_
    unfold c2
    simp
  · rw [show (11 : Int) - ((11 : Nat) : Int) = 0 from rfl, ← blank_T, mul_sp0, blank_T]
    simp only [dig2_T, cat_T]
    refine congrArg T ?_
    unfold c2
    simp
theorem write_ne {y o d h i s z : Int} (M : MomOk y o d h i s z) : (writeT y o d h i s z != wholeS y o d h i s z) = false := by
  rw [write_eq M]; simp
theorem whole_eq {y o d h i s z : Int} : T (dayP d) ++ tailS y o h i s z = wholeS y o d h i s z := cat_T _ _
theorem swap_ascii : ∀ c, c < 128 → (if Unicode.isUpper c then Unicode.lowerOf c else if Unicode.isLower c then Unicode.upperOf c else [c]) = [swc c] := by decide +kernel
theorem swap_T {l : List Nat} (h : ∀ c ∈ l, c < 128) : Txt.swapcase (T l) = T (l.map swc) := by
  unfold Txt.swapcase
  rw [placed_single (T l) _ swc fun i c hc => ?_]
  · refine PySem.Str.ext' (Array.toList_inj.mp ?_)
    simp
  · have hc' : (T l).cps[i]? = some c := by simpa using hc
    rw [T_cps] at hc
    have hlt := h c (List.mem_of_getElem? hc)
    have e : Unicode.lowerAt (T l).cps i = Unicode.lowerOf c := by
      unfold Unicode.lowerAt
      rw [hc']
      have hne : (c == 0x3A3) = false := by rw [beq_eq_false_iff_ne]; omega
      simp only [hne, Bool.false_and, Bool.false_eq_true, if_false]
    rw [e]
    exact swap_ascii c hlt
theorem swc_fig {n : Nat} (h0 : 48 ≤ n) (h1 : n ≤ 57) : swc n = n := by unfold swc; rw [if_neg (by omega), if_neg (by omega)]
theorem c2_sw {n : Int} (h0 : 0 ≤ n) (h1 : n ≤ 99) : (c2 n).map swc = c2 n := by
  unfold c2
  simp only [List.map_cons, List.map_nil]
  rw [swc_fig (by omega) (by omega), swc_fig (by omega) (by omega)]
theorem c4_sw {n : Int} (h0 : 0 ≤ n) (h1 : n ≤ 9999) : (c4 n).map swc = c4 n := by
  unfold c4
  simp only [List.map_cons, List.map_nil]
  rw [swc_fig (by omega) (by omega), swc_fig (by omega) (by omega), swc_fig (by omega) (by omega), swc_fig (by omega) (by omega)]
theorem tail_sw {y o d h i s z : Int} (M : MomOk y o d h i s z) : Txt.swapcase (tailS y o h i s z) = tailW y o h i s z := by
  obtain ⟨b1, b2, b3, b4, b5, b6⟩ := day_bnd M.day
  obtain ⟨t1, t2, t3, t4, t5, t6⟩ := time_bnd M.time
  obtain ⟨⟨q1, q2⟩, q3, q4⟩ := fdiv60 M.z0 M.z1
  unfold tailS
  rw [swap_T (tail_lt M (mon_lt ⟨(o - 1).toNat, by omega⟩).1)]
  unfold tailW monSw
  refine congrArg T ?_
  unfold tailC absI
  simp only [List.map_append]
  rw [c4_sw (by omega) b2, c2_sw t1 (by omega), c2_sw t3 (by omega), c2_sw t5 (by omega), c2_sw q1 q2, c2_sw q3 (by omega)]
  have e : [32, sgC z].map swc = [32, sgC z] := by unfold sgC; split <;> rfl
  rw [e]
  rfl
theorem night_eq {y o d h i s z : Int} : dig2 d ++ tailW y o h i s z = nightS y o d h i s z := cat_T _ _
theorem night_r {y o d h i s z : Int} (M : MomOk y o d h i s z) : readI (dig2 d ++ tailW y o h i s z) = .ok (y, o, d, h, i, s, z) := by rw [night_eq]; exact night_read M
theorem night_t {y o d h i s z : Int} (M : MomOk y o d h i s z) : okT (dig2 d ++ tailW y o h i s z) := by rw [night_eq]; exact (night_okS M).t
theorem B_tailS {n : Nat} {y o d h i s z : Int} (M : MomOk y o d h i s z) : Bd (n + 1) (tailS y o h i s z) := by
  obtain ⟨b1, b2, b3, b4, b5, b6⟩ := day_bnd M.day
  refine B_one ?_
  unfold tailS
  rw [len_T, tailC_len (mon_at b3 b4).2.2.2.2.1]
  decide
theorem B_tailW {n : Nat} {y o d h i s z : Int} (M : MomOk y o d h i s z) : Bd (n + 1) (tailW y o h i s z) := by
  obtain ⟨b1, b2, b3, b4, b5, b6⟩ := day_bnd M.day
  refine B_one ?_
  unfold tailW
  rw [len_T, tailC_len (mon_at b3 b4).2.2.2.2.2]
  decide
section
variable {M : Model} {A : Around} {E : Value → Shared → Prop} {s₀ : Shared} {env : Env} {n : Str} {t : Tok} {Q : Unit → Shared → Prop} {prog : Program} {w : World}
theorem store_tail {y o h i s z : Int} (y0 : 0 ≤ y) (y1 : y ≤ 9999) (o0 : 1 ≤ o) (o1 : o ≤ 12) (H : wpAny M A (storeName env n (.str (tailS y o h i s z) t)) Q E s₀) :
    wpAny M A (storeName env n (.str (Str.ofString "-" ++ monthsS.getD (o - 1).toNat Str.empty ++ Str.ofString "-" ++ dig2 (y.fdiv 100) ++ dig2 (y.fmod 100) ++ Str.ofString " " ++ dig2 h ++ Str.ofString ":" ++ dig2 i ++ Str.ofString ":" ++ dig2 s ++ signS z ++ dig2 ((if z < 0 then -z else z).fdiv 60) ++ dig2 ((if z < 0 then -z else z).fmod 60)) t)) Q E s₀ := by
  rw [tail_eq y0 y1 o0 o1]
  exact H
theorem store_tail2 {k2 k3 k4 h i s k8 : Int} (_c1 : k4 < mlen (1 + k2) (1 + k3)) (hM : MomOk (1 + k2) (1 + k3) (1 + k4) h i s (k8 - 5999)) (H : MomOk (1 + k2) (1 + k3) (1 + k4) h i s (k8 - 5999) → wpAny M A (storeName env n (.str (tailS (1 + k2) (1 + k3) h i s (k8 - 5999)) t)) Q E s₀) :
    wpAny M A (storeName env n (.str (Str.ofString "-" ++ monthsS.getD (1 + k3 - 1).toNat Str.empty ++ Str.ofString "-" ++ dig2 ((1 + k2).fdiv 100) ++ dig2 ((1 + k2).fmod 100) ++ Str.ofString " " ++ dig2 h ++ Str.ofString ":" ++ dig2 i ++ Str.ofString ":" ++ dig2 s ++ signS (k8 - 5999) ++ dig2 ((if k8 - 5999 < 0 then -(k8 - 5999) else k8 - 5999).fdiv 60) ++ dig2 ((if k8 - 5999 < 0 then -(k8 - 5999) else k8 - 5999).fmod 60)) t)) Q E s₀ := by
  obtain ⟨b1, b2, b3, b4, b5, b6⟩ := day_bnd hM.day
  exact store_tail (by omega) b2 b3 b4 (H hM)
theorem store_text {y o d h i s z : Int} (hM : MomOk y o d h i s z) (H : MomOk y o d h i s z → (writeT y o d h i s z != wholeS y o d h i s z) = false → OkS (wholeS y o d h i s z) → readI (wholeS y o d h i s z) = .ok (y, o, d, h, i, s, z) → (wholeS y o d h i s z).length = 26 → wpAny M A (storeName env n (.str (wholeS y o d h i s z) t)) Q E s₀) :
    wpAny M A (storeName env n (.str (T (dayP d) ++ tailS y o h i s z) t)) Q E s₀ := by
  rw [whole_eq]
  exact H hM (write_ne hM) (whole_okS hM) (whole_read hM) (whole_okS hM).l
theorem call_swap {y o d h i s z : Int} (hM : MomOk y o d h i s z) {Q : Value → Shared → Prop} (H : ∀ t' k, Q (.str (tailW y o h i s z) t') { s₀ with toks := k }) : wpAny (model prog w) A (call (.builtin "str.swapcase") [.str (tailS y o h i s z) t]) Q E s₀ := by
  refine SCL.swapcase ?_ fun _ => ?_
  · have := B_tailS (n := 0) hM
    unfold Bd at this
    omega
  · rw [tail_sw hM]
    exact H _ _
end
/-- a piece of a bent text -/
def Pc (x : Str) : Prop := x.length ≤ 30 ∧ okA x
theorem pc_ns {x : Str} {j : Int} (h : OkS x) (h0 : 0 ≤ j) (h1 : j < 26) : Pc (Txt.slice x none (some j)) := by
  rw [slice_ns h0 (by rw [h.l]; omega)]
  refine ⟨?_, fun c hc => ?_⟩
  · rw [len_T, List.length_take, len_list, h.l]; omega
  · rw [T_cps] at hc
    exact h.a c (List.mem_of_mem_take hc)
theorem pc_sn {x : Str} {j : Int} (h : OkS x) (h0 : 0 ≤ j) (h1 : j ≤ 26) : Pc (Txt.slice x (some j) none) := by
  rw [slice_sn h0 (by rw [h.l]; omega)]
  refine ⟨?_, fun c hc => ?_⟩
  · rw [len_T, List.length_drop, len_list, h.l]; omega
  · rw [T_cps] at hc
    exact h.a c (List.mem_of_mem_drop hc)
theorem okA_app {x y : Str} (h : okA x) (h' : okA y) : okA (x ++ y) := fun c hc => by
  rw [PySem.Str.cps_append, Array.toList_append, List.mem_append] at hc
  rcases hc with hc | hc
  · exact h c hc
  · exact h' c hc
theorem okA_T {x : Str} (h : okA x) (hl : x.length ≤ 100) : okT x := ⟨hl, fun c hc => by have := h c hc; omega⟩
theorem bent2 {a b : Str} (ha : Pc a) (hb : Pc b) : okT (a ++ b) ∧ okA (a ++ b) := by
  have h := okA_app ha.2 hb.2
  exact ⟨okA_T h (by rw [PySem.Str.length_append]; have := ha.1; have := hb.1; omega), h⟩
theorem bent3 {a b c : Str} (ha : Pc a) (hb : Pc b) (hc : Pc c) : okT (a ++ b ++ c) ∧ okA (a ++ b ++ c) := by
  have h := okA_app (okA_app ha.2 hb.2) hc.2
  exact ⟨okA_T h (by rw [PySem.Str.length_append, PySem.Str.length_append]; have := ha.1; have := hb.1; have := hc.1; omega), h⟩
theorem pc_sign {k : Int} (h0 : 0 ≤ k) (h1 : k < 11) : Pc (Txt.item (Str.ofString "0 9-:+xJ/(٠") k) := by
  have key : ∀ j : Fin 11, (Txt.item (Str.ofString "0 9-:+xJ/(٠") (j.val : Int)).cps.toList.all (fun c => decide (c < 128) || decide (c = 1632)) = true := by decide +kernel
  have := key ⟨k.toNat, by omega⟩
  rw [show (((⟨k.toNat, by omega⟩ : Fin 11).val : Nat) : Int) = k by simp; omega] at this
  refine ⟨Nat.le_of_ble_eq_true rfl, fun c hc => ?_⟩
  have h2 := List.all_eq_true.mp this c hc
  simpa using h2
end Mine
end
section
open PySem PySem.W PySem.Calls PySem.Spec PyProof.Rows PyProof.V
namespace Mine
theorem fresh_W2 : True := by
  w_top off
  k_with_none
  trivial
set_option maxRecDepth 100000
set_option maxHeartbeats 4000000

def DrawMark (_most _k : Int) : Prop := True
section
variable {w : World} {mean : ExcName → Option Value} {mg mb : Str → Option Value}
theorem use_drawM {dp un : Nat} {gd : Option (List Code)} {cn : Str} {cs : Scope} {a : Addr} {ccd : Value} {cl : List (Str × Addr)} {outer : List Env} {A₀ : Around} {base h₀ : Heap} {L : Addr} {m : Str → Option Value} {s : Shared} {Q E : Value → Shared → Prop} {news : List (Addr × Obj)} (B : Below A₀ base outer h₀) (F : Fr h₀ L s.heap m) (X : (hd.heap_39 w.params).In h₀) (N : News h₀ L s.heap news) (T : Top view LS mean mg mb h₀) (hk : cs.kind = .function) {p c : Addr} {po co : Obj} {rest : List (Addr × Obj)} {pl most : Int} {u : Tok}
  (pull : Pull p po news rest) (hp : PoolIs c pl po) (hc : (c, co) ∈ rest) (hco : CellsIs co) (h0 : 0 ≤ pl) (h1 : pl ≤ 100) (q0 : 1 ≤ most) (q1 : most ≤ 11999)
  (hd : dp + 4 < recursionLimit) (hu : un + 100 < cLine)
  (ret : ∀ k t po' h' tk', 0 ≤ k → k < most → DrawMark most k → PoolIs c (pl + 1) po' → Fr h₀ L h' m → News h₀ L h' ((p, po') :: rest) → Q (.int k t) { s with heap := h', toks := tk' }) :
  wpAny (model PySem.Challenge.rw_no0354_01.row.prog w) (ktrTop dp un gd cn cs L a ccd cl outer) (call (.ref 204) [.ref p, .int most u]) Q E s := use_draw B F X N T hk pull hp hc hco h0 h1 q0 q1 hd hu fun k t po' h' tk' a b c d e => ret k t po' h' tk' a b trivial c d e
end
section
variable {M : Model} {A : Around} {E : Value → Shared → Prop} {s : Shared} {h₀ h : Heap} {L : Addr} {m : Str → Option Value} {news : List (Addr × Obj)} {t tk : Nat}
def StrEnd (v : Str) (h₀ : Heap) (L : Addr) (m : Str → Option Value) (news : List (Addr × Obj)) (s : Shared) (r : Value) (s' : Shared) : Prop :=
  ∃ t h tk, r = .str v t ∧ s' = { s with heap := h, toks := tk } ∧ Fr h₀ L h m ∧ News h₀ L h news
theorem str_end {v x : Str} (e : x = v) (F : Fr h₀ L h m) (N : News h₀ L h news) : StrEnd v h₀ L m news s (.str x t) { s with heap := h, toks := tk } := ⟨t, h, tk, by rw [e], rfl, F, N⟩
theorem str_join (v : Str) {tm : Sem Value} {Q : Value → Shared → Prop} (_F : Fr h₀ L s.heap m) (_N : News h₀ L s.heap news)
    (J : ∀ t h tk, Fr h₀ L h m → News h₀ L h news → Q (.str v t) { s with heap := h, toks := tk }) (hb : wpAny M A tm (StrEnd v h₀ L m news s) E s) : wpAny M A tm Q E s :=
  wpAny_mono hb (fun r s' hr => by obtain ⟨t, h, tk, rfl, rfl, F, N⟩ := hr; exact J t h tk F N) fun _ _ e => e
theorem sign_join {k : Int} (_hm : DrawMark 11999 k) {tm : Sem Value} {Q : Value → Shared → Prop} (F : Fr h₀ L s.heap m) (N : News h₀ L s.heap news)
    (J : ∀ t h tk, Fr h₀ L h m → News h₀ L h news → Q (.str (signS (k - 5999)) t) { s with heap := h, toks := tk }) (hb : wpAny M A tm (StrEnd (signS (k - 5999)) h₀ L m news s) E s) : wpAny M A tm Q E s := str_join _ F N J hb
theorem day_join {k y o y' o' h' i' c' z' : Int} (_hm : DrawMark (mlen y o) k) (hM : MomOk y' o' (1 + k) h' i' c' z') {tm : Sem Value} {Q : Value → Shared → Prop} (F : Fr h₀ L s.heap m) (N : News h₀ L s.heap news)
    (J : ∀ t h tk, Fr h₀ L h m → News h₀ L h news → Q (.str (T (dayP (1 + k))) t) { s with heap := h, toks := tk }) (hb : 0 ≤ 1 + k ∧ 1 + k ≤ 99 → wpAny M A tm (StrEnd (T (dayP (1 + k))) h₀ L m news s) E s) : wpAny M A tm Q E s := str_join _ F N J (hb ⟨by have := day_bnd hM.day; omega, by have := day_bnd hM.day; omega⟩)
end

theorem len26 {prog : Program} {w : World} {A : Around} {E : Value → Shared → Prop} {s₀ : Shared} {x : Str} {t : Tok} {Q : Value → Shared → Prop} (hl : x.length = 26) (H : ∀ t k, Q (.int 26 t) { s₀ with toks := k }) : wpAny (model prog w) A (call (.builtin "len") [.str x t]) Q E s₀ := by
  refine len_str (by rw [hl]; decide) ?_
  rw [hl]
  exact H _ _
theorem fault_attrL {w : World} {A : Around} {E : Value → Shared → Prop} {s : Shared} {h₀ : Heap} {L : Addr} {m : Str → Option Value} {e d : Addr} {oe : Obj} {rest : List (Addr × Obj)} {es : List DictEntry} {n : Nat} {name : Str} {v : Value} {expr : Bool} {Q : Value → Shared → Prop} (F : Fr h₀ L s.heap m) (X : (hd.heap_39 w.params).In h₀) (N : News h₀ L s.heap ((e, oe) :: rest))
    (hc : oe.cls = .ref 52) (hno : notCls oe = true) (hdd : oe.dict = some d) (hd' : (d, dictOf es n) ∈ rest)
    (hga : findIn (hd.heap_39 w.params) (.ref 52) "__getattribute__" = some (some (.builtin "BaseException.__getattribute__"))) (hgx : findIn (hd.heap_39 w.params) (.ref 52) "__getattr__" = some none)
    (hf : findObj (hd.heap_39 w.params) 52 (some (dictOf es n)) name = some (.value v)) (hv : handedIn v = true) (hq : ∀ tk, Q v { s with toks := tk }) :
    wpAny (model PySem.Challenge.rw_no0354_01.row.prog w) A (getAttr (.ref e) name expr) Q E s :=
  fault_attr (X.keeps F.keep) (N _ (.head _)).1 hc hno hdd (N _ (.tail _ hd')).1 hga hgx hf hv (hq _)
theorem mom_d0 {y o d h i s z : Int} (M : MomOk y o d h i s z) : 0 ≤ d := by have := day_bnd M.day; omega
theorem mom_d1 {y o d h i s z : Int} (M : MomOk y o d h i s z) : d ≤ 99 := by have := day_bnd M.day; omega
theorem nil_ne {p : Addr} : ∀ q ∈ ([] : List (Addr × Obj)), q.1 ≠ p := fun _ h => nomatch h
theorem ne_cons2 {p a : Addr} {o : Obj} {r : List (Addr × Obj)} (h : a ≠ p) (hr : ∀ q ∈ r, q.1 ≠ p) : ∀ q ∈ (a, o) :: r, q.1 ≠ p := List.forall_mem_cons.mpr ⟨h, hr⟩


theorem good_true {b : Bool} {cl : Str → Option Addr} {mean : ExcName → Option Value} {xs : List Int} {s₁ s' : Shared} {L : Addr} {m : Str → Option Value} (F : Fr s₁.heap L s'.heap m) (hg : s'.gens = #[]) (hb : b = true) (hos : s'.os = s₁.os) :
    GoodW PySem.Challenge.rw_no0354_01.row.claim cl mean [ofPy (PyData.list (xs.map PyData.int))] s₁ (.ok (.ret (.bool b))) s' := by
  subst hb
  refine goodW_bool F hg (fun _ => rfl) ?_ hos
  wrow_post
theorem find_at (P : Params) (u1 u2 : Tok) (x : Str) (tx : Tok) (k : Int) (tk : Tok) : PySem.Challenge.rw_no0354_01 = PySem.Challenge.rw_no0354_01 → findObj (hd.heap_39 P) 52 (some (whatAt P u1 u2 x tx k tk)) "at" = some (.value (.int k tk)) := by
  k_fill
  intro _
  have h2 : findIn (hd.heap_39 P) (.ref 52) "at" = some none := by k_is
  have h0 : hasDictIn (hd.heap_39 P) 52 = true := by k_is
  have h1 : ∃ cd, clsIn (hd.heap_39 P) 52 = some cd ∧ cd.hasDict = true := by
    unfold hasDictIn at h0
    cases e : clsIn (hd.heap_39 P) 52 with
    | none => rw [e] at h0; exact absurd h0 (by simp)
    | some cd => rw [e] at h0; exact ⟨cd, rfl, by simpa using h0⟩
  obtain ⟨cd, h1, h3⟩ := h1
  have h4 : PySem.W.ownOf cd (some (whatAt P u1 u2 x tx k tk)) "at" = some (some (.int k tk)) := by
    unfold PySem.W.ownOf
    rw [if_pos h3]
    refine (lookIn_dict _ _ _).trans ?_
    k_get
  unfold findObj
  rw [h1, h2]
  simp only [Option.bind, h4]
theorem item_bent {prog : Program} {w : World} {A : Around} {E : Value → Shared → Prop} {s : Shared} {value slice : Expr} {q : Addr} {a b c d : Str} {ta tb tc td u : Tok} {k : Int} {Q : Value → Shared → Prop} (ht : IsTup s.heap q #[.str a ta, .str b tb, .str c tc, .str d td]) (h0 : 0 ≤ k) (h1 : k < 4)
    (ha : okT a ∧ okA a) (hb : okT b ∧ okA b) (hc : okT c ∧ okA c) (hd : okT d ∧ okA d) (h : ∀ x t, okT x ∧ okA x → Q (.str x t) s)
    (hs : ∀ k, subscripted slice false (.ref q) (.int k u) = operate [.ref q, .int k u] (getItem (.ref q) (.int k u)) := by intro k; with_unfolding_all rfl) :
    wpAny (model prog w) A (subscriptTail value slice (.ref q) (.int k u)) Q E s := by
  have e : k = 0 ∨ k = 1 ∨ k = 2 ∨ k = 3 := by omega
  have ht' : IsTup s.heap q [Value.str a ta, .str b tb, .str c tc, .str d td].toArray := ht
  rcases e with rfl | rfl | rfl | rfl
  · exact item_tupleT ht' (by decide) (by decide) rfl rfl (h _ _ ha) (hs _)
  · exact item_tupleT ht' (by decide) (by decide) rfl rfl (h _ _ hb) (hs _)
  · exact item_tupleT ht' (by decide) (by decide) rfl rfl (h _ _ hc) (hs _)
  · exact item_tupleT ht' (by decide) (by decide) rfl rfl (h _ _ hd) (hs _)
theorem sweep2 {M : Model} {A : Around} {E : Value → Shared → Prop} {s : Shared} {h₀ h : Heap} {L : Addr} {news : List (Addr × Obj)} {α : Type} {tm : Sem α} {Q : α → Shared → Prop} {p c : Addr} {po co : Obj} {pl : Int} (N : News h₀ L h news) (_hp : PoolIs c pl po) (_hc : CellsIs co) (m1 : (p, po) ∈ news) (m2 : (c, co) ∈ news) (H : News h₀ L h [(p, po), (c, co)] → wpAny M A tm Q E s) : wpAny M A tm Q E s :=
  H (KStt.news_of N fun q hq => by
    rcases List.mem_cons.mp hq with rfl | hq
    · exact m1
    · rcases List.mem_cons.mp hq with rfl | hq
      · exact m2
      · nomatch hq)
theorem mlen_1 (y o : Int) : 1 ≤ mlen y o := by have := mlen_pos y o; omega
theorem mlen_2 (y o : Int) : mlen y o ≤ 11999 := by have := mlen_pos y o; omega
theorem two_lo {n : Int} (h : 0 ≤ n) : 0 ≤ n.fdiv 100 := fdiv_ge h (by decide)
theorem two_hi {n : Int} (h : 0 ≤ n) (h1 : n ≤ 9999) : n.fdiv 100 ≤ 99 := by rw [Int.fdiv_eq_ediv_of_nonneg _ (by decide)]; omega
theorem two_lo2 (n : Int) : 0 ≤ n.fmod 100 := by rw [Int.fmod_eq_emod_of_nonneg _ (by decide)]; omega
theorem two_hi2 (n : Int) : n.fmod 100 ≤ 99 := by rw [Int.fmod_eq_emod_of_nonneg _ (by decide)]; omega
theorem sign_neg {z : Int} (h : z < 0) : Str.ofString " -" = signS z := by
  have e : Str.ofString " -" = T [32, 45] := by decide +kernel
  rw [e]; unfold signS sgC; rw [if_pos h]
theorem sign_pos {z : Int} (h : ¬ z < 0) : Str.ofString " +" = signS z := by
  have e : Str.ofString " +" = T [32, 43] := by decide +kernel
  rw [e]; unfold signS sgC; rw [if_neg h]
theorem day_small {d : Int} (h : d < 10) (h0 : 0 ≤ d) : Str.ofString " " ++ Str.ofString (toString d) = T (dayP d) := by
  rw [blank_T, day1 h0 (by omega)]; unfold dayP; rw [if_pos h]; exact cat_T _ _
theorem day_big {d : Int} (h : ¬ d < 10) (h0 : d ≤ 99) : Str.ofString (toString d) = T (dayP d) := by
  rw [day2 (by omega) h0]; unfold dayP; rw [if_neg h]; rfl
theorem B_sign {n : Nat} (z : Int) : Bd (n + 1) (signS z) := B_one (Nat.le_of_ble_eq_true rfl)
theorem B_dayP {n : Nat} (d : Int) : Bd (n + 1) (T (dayP d)) := B_one (by rw [len_T]; unfold dayP; split <;> exact Nat.le_of_ble_eq_true rfl)

section
variable {w : World} {mean : ExcName → Option Value} {mg mb : Str → Option Value}
theorem use_told {dp un : Nat} {gd : Option (List Code)} {cn : Str} {cs : Scope} {a : Addr} {ccd : Value} {cl : List (Str × Addr)} {outer : List Env} {A₀ : Around} {base h₀ : Heap} {L : Addr} {m : Str → Option Value} {s : Shared} {Q E : Value → Shared → Prop} {news : List (Addr × Obj)} (B : Below A₀ base outer h₀) (F : Fr h₀ L s.heap m) (X : (hd.heap_39 w.params).In h₀) (N : News h₀ L s.heap news) (T : Top view LS mean mg mb h₀) (hk : cs.kind = .function) {q dq : Addr} {y o d h i c z : Int} {u t : Nat → Tok} (hq : (q, instObj 91 dq) ∈ news) (hdq : (dq, momD w.params y o d h i c z u t) ∈ news)
  (hd : dp + 2 < recursionLimit) (hu : un + 100 < cLine)
  (ret : ∀ a h' tk', (∀ p ∈ news, p.1 < a) → Fr h₀ L h' m → News h₀ L h' ((a, tupO [.int y (t 0), .int o (t 1), .int d (t 2), .int h (t 3), .int i (t 4), .int c (t 5), .int z (t 6)]) :: news) → Q (.ref a) { s with heap := h', toks := tk' }) :
  wpAny (model PySem.Challenge.rw_no0354_01.row.prog w) (ktrTop dp un gd cn cs L a ccd cl outer) (call (.ref 88) [.ref q]) Q E s := by
  have N2 : News h₀ L s.heap ((q, instObj 91 dq) :: (dq, momD w.params y o d h i c z u t) :: news) := List.forall_mem_cons.mpr ⟨N _ hq, List.forall_mem_cons.mpr ⟨N _ hdq, N⟩⟩
  refine Says.use B F X N2 T hk (c_told news y o d h i c z u t q dq) hd hu (fun r n' h' tk' hR F' N' => ?_)
  obtain ⟨a, rfl, rfl, l⟩ := hR
  exact ret a h' tk' (fun p hp => l p (.tail _ (.tail _ hp))) F' (news_top N' (fun x hx => .tail _ (.tail _ hx)))
end
theorem lay_W2_1 : True := by
  k_with_none
  k_with "execs nil" => (k_here; (with_reducible refine gen_toks ?_); intro tk; (with_reducible refine wpAny_execs_nil ?_); try dsimp only)
  k_with "execs cons" => (k_here; (with_reducible refine gen_toks ?_); intro tk; (with_reducible refine wpAny_execs_cons ?_); try dsimp only)
  k_with "eval Call" => (k_here; (with_reducible show wpAny _ _ (eval (Expr.Call (Expr.Name (Str.ofString "_law_box") _) _ [] _) _) _ _ _); (fail_if_success (goal_has PyProof.Rows.SeqLeaf)); k_dflt (refine Call_ ?_))
  k_with "eval Call" => (k_here; (with_reducible show wpAny _ _ (eval (Expr.Call (Expr.Name (Str.ofString "_law_draw") _) _ [] _) _) _ _ _); (fail_if_success (goal_has PyProof.Rows.SeqLeaf)); k_dflt (refine Call_ ?_))
  k_with "eval Call" => (k_here; (with_reducible show wpAny _ _ (eval (Expr.Call (Expr.Name (Str.ofString "_law_length") _) _ [] _) _) _ _ _); (fail_if_success (goal_has PyProof.Rows.SeqLeaf)); k_dflt (refine Call_ ?_))
  k_with "eval Call" => (k_here; (with_reducible show wpAny _ _ (eval (Expr.Call (Expr.Name (Str.ofString "_law_two") _) _ [] _) _) _ _ _); (fail_if_success (goal_has PyProof.Rows.SeqLeaf)); k_dflt (refine Call_ ?_))
  k_with "eval Call" => (k_here; (with_reducible show wpAny _ _ (eval (Expr.Call (Expr.Name (Str.ofString "Moment") _) _ [] _) _) _ _ _); (fail_if_success (goal_has PyProof.Rows.SeqLeaf)); k_dflt (refine Call_ ?_))
  k_with "eval Call" => (k_here; (with_reducible show wpAny _ _ (eval (Expr.Call (Expr.Name (Str.ofString "write_internal") _) _ [] _) _) _ _ _); (fail_if_success (goal_has PyProof.Rows.SeqLeaf)); k_dflt (refine Call_ ?_))
  k_with "eval Call" => (k_here; (with_reducible show wpAny _ _ (eval (Expr.Call (Expr.Name (Str.ofString "read_internal") _) _ [] _) _) _ _ _); (fail_if_success (goal_has PyProof.Rows.SeqLeaf)); k_dflt (refine Call_ ?_))
  k_with "eval Call" => (k_here; (with_reducible show wpAny _ _ (eval (Expr.Call (Expr.Name (Str.ofString "_law_read") _) _ [] _) _) _ _ _); (fail_if_success (goal_has PyProof.Rows.SeqLeaf)); k_dflt (refine Call_ ?_))
  k_with "call ref" => (k_here; (with_reducible show wpAny _ _ (call (Value.ref 197) _) _ _ _); k_dflt (refine' box_call ?uBQ9 ?uFQ9 ?uXQ9 ?uNQ9 ?uTQ9 ?ukQ9 ?hlQ9 ?hiQ9 ?hnQ9 ?udQ9 ?uuQ9 ?_; (case uBQ9 => k_asm); (case uFQ9 => k_asm); (case uXQ9 => k_asm); (case uNQ9 => k_asm); (case uTQ9 => k_asm); (case ukQ9 => first | exact rfl | assumption); (case hlQ9 => assumption); (case hiQ9 => assumption); (case hnQ9 => omega); (case udQ9 => ktr_room); (case uuQ9 => ktr_units)); (intro p9 c9 po9 co9 h9 tk9 pis9 cis9 lt9 cp9 F9 N9); (try dsimp only); (try k_sweep); (try k_fold))
  k_with "call ref" => (k_here; (with_reducible show wpAny _ _ (call (Value.ref 204) _) _ _ _); k_dflt (refine' use_drawM ?uBQ9 ?uFQ9 ?uXQ9 ?uNQ9 ?uTQ9 ?ukQ9 ?pullQ9 ?hpQ9 ?hcQ9 ?hcoQ9 ?h0Q9 ?h1Q9 ?q0Q9 ?q1Q9 ?udQ9 ?uuQ9 ?_; (case uBQ9 => k_asm); (case uFQ9 => k_asm); (case uXQ9 => k_asm); (case uNQ9 => k_asm); (case uTQ9 => k_asm); (case ukQ9 => first | exact rfl | assumption); (case pullQ9 => ((repeat' (first | (with_reducible exact nil_ne) | refine' Pull.here ?_ | refine' Pull.there ?_ ?_ | with_reducible refine ne_cons2 ?_ ?_)); all_goals (first | exact Nat.ne_of_lt (by with_reducible assumption) | exact Nat.ne_of_gt (by with_reducible assumption) | k_ne | (dsimp only; k_ne)))); (case hpQ9 => with_reducible assumption); (case hcQ9 => first | exact List.Mem.head _ | exact List.Mem.tail _ (List.Mem.head _) | exact List.Mem.tail _ (List.Mem.tail _ (List.Mem.head _)) | exact List.Mem.tail _ (List.Mem.tail _ (List.Mem.tail _ (List.Mem.head _))) | exact List.Mem.tail _ (List.Mem.tail _ (List.Mem.tail _ (List.Mem.tail _ (List.Mem.head _)))) | exact List.Mem.tail _ (List.Mem.tail _ (List.Mem.tail _ (List.Mem.tail _ (List.Mem.tail _ (List.Mem.head _))))) | exact List.Mem.tail _ (List.Mem.tail _ (List.Mem.tail _ (List.Mem.tail _ (List.Mem.tail _ (List.Mem.tail _ (List.Mem.head _)))))) | exact List.Mem.tail _ (List.Mem.tail _ (List.Mem.tail _ (List.Mem.tail _ (List.Mem.tail _ (List.Mem.tail _ (List.Mem.tail _ (List.Mem.head _))))))) | exact List.Mem.tail _ (List.Mem.tail _ (List.Mem.tail _ (List.Mem.tail _ (List.Mem.tail _ (List.Mem.tail _ (List.Mem.tail _ (List.Mem.tail _ (List.Mem.head _)))))))) | exact List.Mem.tail _ (List.Mem.tail _ (List.Mem.tail _ (List.Mem.tail _ (List.Mem.tail _ (List.Mem.tail _ (List.Mem.tail _ (List.Mem.tail _ (List.Mem.tail _ (List.Mem.head _)))))))))); (case hcoQ9 => assumption); (case h0Q9 => omega); (case h1Q9 => omega); (case q0Q9 => first | omega | exact mlen_1 _ _); (case q1Q9 => first | omega | exact mlen_2 _ _); (case udQ9 => ktr_room); (case uuQ9 => ktr_units)); (intro k9 t9 po9 h9 tk9 k09 k19 dm9 pis9 F9 N9); (try dsimp only); (try k_sweep); (try k_fold))
  k_with "call ref" => (k_here; (with_reducible show wpAny _ _ (call (Value.ref 212) _) _ _ _); k_dflt (refine' Says.useI ?uBQ9 ?uFQ9 ?uXQ9 ?uNQ9 ?uTQ9 ?ukQ9 (c_law_length _ _ _ _ _ ?p1Q9 ?p2Q9) ?udQ9 ?uuQ9 ?_; (case uBQ9 => k_asm); (case uFQ9 => k_asm); (case uXQ9 => k_asm); (case uNQ9 => k_asm); (case uTQ9 => k_asm); (case ukQ9 => first | exact rfl | assumption); (case p1Q9 => first | omega); (case p2Q9 => first | omega); (case udQ9 => ktr_room); (case uuQ9 => ktr_units)); (intro t9 h9 tk9 F9 N9); (try dsimp only); (try k_sweep); (try k_fold))
  k_with "call ref" => (k_here; (with_reducible show wpAny _ _ (call (Value.ref 219) _) _ _ _); k_dflt (refine' Says.useS ?uBQ9 ?uFQ9 ?uXQ9 ?uNQ9 ?uTQ9 ?ukQ9 (c_law_two _ _ _ ?p1Q9 ?p2Q9) ?udQ9 ?uuQ9 ?_; (case uBQ9 => k_asm); (case uFQ9 => k_asm); (case uXQ9 => k_asm); (case uNQ9 => k_asm); (case uTQ9 => k_asm); (case ukQ9 => first | exact rfl | assumption); (case p1Q9 => first | omega | exact mom_d0 (by with_reducible assumption) | exact two_lo (by omega) | exact two_lo2 _ | exact (fdiv60 (by omega) (by omega)).1.1 | exact (fdiv60 (by omega) (by omega)).2.1); (case p2Q9 => first | omega | exact mom_d1 (by with_reducible assumption) | exact two_hi (by omega) (by omega) | exact two_hi2 _ | exact (fdiv60 (by omega) (by omega)).1.2 | exact Int.le_trans (fdiv60 (by omega) (by omega)).2.2 (by decide)); (case udQ9 => ktr_room); (case uuQ9 => ktr_units)); (intro t9 h9 tk9 F9 N9); (try dsimp only); (try k_sweep); (try k_fold))
  k_with "binaryOp Add str str" => (k_here; (with_reducible show wpAny _ _ (binaryOp Operator.Add (Value.str _ _) (Value.str _ _)) _ _ _); k_dflt (refine' PyProof.Rows.add_str ?_ ?zAddQ9; (case zAddQ9 => (refine len2 ?_ ?_ <;> (repeat (first | with_reducible refine B_app ?_ ?_ | with_reducible exact B_dig2 _ | with_reducible exact B_dig4 _ | with_reducible exact B_dig1 _ | with_reducible exact B_zone _ | with_reducible exact B_clock _ _ _ | with_reducible exact B_sign _ | with_reducible exact B_tailS (by assumption) | with_reducible exact B_tailW (by assumption) | with_reducible exact B_dayP _ | ((with_reducible show Bd _ (List.getD _ _ _)); exact B_mon _) | ((with_reducible show Bd _ (Str.ofString (@toString Int _ _))); exact B_int (by omega) (by omega)) | ((with_reducible show Bd _ (Str.ofString _)); exact B_lit (by decide +kernel)) | (refine B_one ?_; omega)))))); (intro t9 k9); (try dsimp only); (try k_fold))
  k_with "call ref" => (k_here; (with_reducible show wpAny _ _ (call (Value.ref 91) _) _ _ _); k_dflt (refine' mk_moment ?uBQ9 ?uFQ9 ?uXQ9 ?uNQ9 ?uTQ9 ?ukQ9 ?udQ9 ?uuQ9 ?_; (case uBQ9 => k_asm); (case uFQ9 => k_asm); (case uXQ9 => k_asm); (case uNQ9 => k_asm); (case uTQ9 => k_asm); (case ukQ9 => first | exact rfl | assumption); (case udQ9 => ktr_room); (case uuQ9 => ktr_units)); (intro x9 dx9 u9 t9 h9 tk9 F9 N9 l8 l9); (try k_lt l8); (try dsimp only); (try k_sweep); (try k_fold))
  k_with "eval IfExp" => (k_here; (with_reducible show wpAny _ _ (eval (Expr.IfExp _ (Expr.Constant _ _ _) (Expr.Constant _ _ _) _) _) _ _ _); (fail_if_success (with_reducible show wpAny _ _ _ (StrEnd _ _ _ _ _ _) _ _)); k_dflt (refine' sign_join ?mQ9 ?FQ9 ?NQ9 ?_ ?_; (case mQ9 => with_reducible assumption); (case FQ9 => k_asm); (case NQ9 => k_asm)); (intro t9 h9 tk9 F9 N9); (try dsimp only); (try k_sweep); (try k_fold))
  k_with "eval IfExp" => (k_here; (with_reducible show wpAny _ _ (eval (Expr.IfExp _ (Expr.BinOp _ _ _ _) _ _) _) _ _ _); (fail_if_success (with_reducible show wpAny _ _ _ (StrEnd _ _ _ _ _ _) _ _)); k_dflt (refine' day_join ?mQ9 ?hMQ9 ?FQ9 ?NQ9 ?_ ?_; (case mQ9 => with_reducible assumption); (case hMQ9 => with_reducible assumption); (case FQ9 => k_asm); (case NQ9 => k_asm)); (intro t9 h9 tk9 F9 N9); (try dsimp only); (try k_sweep); (try k_fold))
  k_with "StrEnd" => (k_here; k_dflt (refine' str_end ?eQ9 ?FQ9 ?NQ9; (case eQ9 => first | exact sign_neg (by with_reducible assumption) | exact sign_pos (by with_reducible assumption) | exact day_small (by with_reducible assumption) (by omega) | exact day_big (by with_reducible assumption) (by omega)); (case FQ9 => k_asm); (case NQ9 => k_asm)))
  k_with "callWith ref" => (k_here; (with_reducible show wpAny _ _ (callWith _ _ _ (backTo _ (starEach [] _)) []) _ _ _); k_dflt (refine' callWith_K0 ?k1Q9 ?k2Q9 ?_; (case k1Q9 => exact Frag.In.keeps (by with_reducible assumption) (Fr.keep (by with_reducible assumption))); (case k2Q9 => k_is); k_whole); (try dsimp only))
  k_with "call builtin:len" => (k_here; (with_reducible show wpAny _ _ (call (Value.builtin "len") [Value.str (wholeS _ _ _ _ _ _ _) _]) _ _ _); k_dflt (refine len26 (by with_reducible assumption) ?_); (intro t9 k9); (try dsimp only); (try k_fold))
  k_with "noteFrame ref" => (k_here; k_dflt (refine' caught_fault ?KQ9 ?FQ9 ?UQ9 ?RQ9 ?XQ9 ?TQ9 ?exQ9 ?_; (case RQ9 => assumption); (case KQ9 => k_asm); (case FQ9 => assumption); (case UQ9 => assumption); (case XQ9 => k_asm); (case TQ9 => k_asm); (case exQ9 => k_is)); (intro h9 oe9 tk9 hoc9 hod9 hno9 F9 N9); (try dsimp only); (try k_sweep); (try k_fold))
  k_with "getAttr ref" => (k_here; k_dflt (refine' fault_attrL ?FQ9 ?XQ9 ?NQ9 ?hcQ9 ?hnoQ9 ?hddQ9 ?hdQ9 ?gaQ9 ?gxQ9 ?hfQ9 ?hvQ9 ?_; (case hcQ9 => with_reducible assumption); (case hnoQ9 => with_reducible assumption); (case hddQ9 => with_reducible assumption); (case FQ9 => k_asm); (case XQ9 => k_asm); (case NQ9 => k_asm); (case hdQ9 => first | exact List.Mem.head _ | exact List.Mem.tail _ (List.Mem.head _)); (case gaQ9 => k_is); (case gxQ9 => k_is); (case hfQ9 => exact find_at _ _ _ _ _ _ _ rfl); (case hvQ9 => rfl)); (intro tk9); (try dsimp only); (try k_fold))
  k_with "storeName" => (k_here; (with_reducible show wpAny _ _ (storeName _ _ (Value.str (HAppend.hAppend (HAppend.hAppend (HAppend.hAppend _ (signS _)) (dig2 _)) (dig2 _)) _)) _ _ _); k_dflt (refine' store_tail2 ?c1Q9 ?hMQ9 ?_; (case c1Q9 => with_reducible assumption); (case hMQ9 => exact mom_ok (by with_reducible assumption) (by with_reducible assumption) (by with_reducible assumption) (by with_reducible assumption) (by with_reducible assumption) (by with_reducible assumption) (by with_reducible assumption) (by with_reducible assumption) (by with_reducible assumption) (by with_reducible assumption) (by with_reducible assumption) (by with_reducible assumption) (by with_reducible assumption) (by with_reducible assumption))); (intro hM9))
  k_with "storeName" => (k_here; (with_reducible show wpAny _ _ (storeName _ _ (Value.str (HAppend.hAppend _ (tailS _ _ _ _ _ _)) _)) _ _ _); k_dflt (refine store_text (by with_reducible assumption) ?_); (intro _ hw9 hO9 hr9 hl9))
  k_with "call builtin:str.swapcase" => (k_here; (with_reducible show wpAny _ _ (call (Value.builtin "str.swapcase") [Value.str (tailS _ _ _ _ _ _) _]) _ _ _); k_dflt (refine call_swap (by with_reducible assumption) ?_); (intro t9 k9); (try dsimp only); (try k_fold))
  k_with "call ref" => (k_here; (with_reducible show wpAny _ _ (call (Value.ref 185) _) _ _ _); k_dflt (refine' use_read_any ?uBQ9 ?uFQ9 ?uXQ9 ?uNQ9 ?uTQ9 ?ukQ9 ?hxQ9 ?udQ9 ?uuQ9 ?_ ?_; (case uBQ9 => k_asm); (case uFQ9 => k_asm); (case uXQ9 => k_asm); (case uNQ9 => k_asm); (case uTQ9 => k_asm); (case ukQ9 => first | exact rfl | assumption); (case hxQ9 => exact And.left (by with_reducible assumption)); (case udQ9 => ktr_room); (case uuQ9 => ktr_units)); rotate_left; (intro ek9 hre9 e9 d9 u91 u92 z9 tx9 tkk9 g9 h9 tk9 F9 U9 R9); rotate_right; (intro y9 o9 d9 hh9 i9 c9 z9 hro9 q9 dq9 u9 t9 h9 tk9 l8 l9 F9 N9); (try k_lt l8); (try dsimp only); (try k_sweep); (try k_fold))
  k_with "call ref" => (k_here; (with_reducible show wpAny _ _ (call (Value.ref 185) _) _ _ _); k_dflt (refine' use_read_ok ?uBQ9 ?uFQ9 ?uXQ9 ?uNQ9 ?uTQ9 ?ukQ9 ?hxQ9 ?hrQ9 ?udQ9 ?uuQ9 ?_; (case uBQ9 => k_asm); (case uFQ9 => k_asm); (case uXQ9 => k_asm); (case uNQ9 => k_asm); (case uTQ9 => k_asm); (case ukQ9 => first | exact rfl | assumption); (case hrQ9 => first | with_reducible assumption | with_reducible exact night_r (by with_reducible assumption)); (case hxQ9 => first | with_reducible exact OkS.t (by with_reducible assumption) | with_reducible exact night_t (by with_reducible assumption)); (case udQ9 => ktr_room); (case uuQ9 => ktr_units)); (intro q9 dq9 u9 t9 h9 tk9 l8 l9 F9 N9); (try k_lt l8); (try dsimp only); (try k_sweep); (try k_fold))
  k_with "call ref" => (k_here; (with_reducible show wpAny _ _ (call (Value.ref 231) _) _ _ _); k_dflt (refine' use_law_err ?uBQ9 ?uFQ9 ?uXQ9 ?uNQ9 ?uTQ9 ?ukQ9 ?hxQ9 ?hAQ9 ?hrQ9 ?udQ9 ?uuQ9 ?_; (case uBQ9 => k_asm); (case uFQ9 => k_asm); (case uXQ9 => k_asm); (case uNQ9 => k_asm); (case uTQ9 => k_asm); (case ukQ9 => first | exact rfl | assumption); (case hrQ9 => with_reducible assumption); (case hxQ9 => exact And.left (by with_reducible assumption)); (case hAQ9 => exact And.right (by with_reducible assumption)); (case udQ9 => ktr_room); (case uuQ9 => ktr_units)); (intro a9 t9 h9 tk9 l8 F9 N9); (try k_lt l8); (try dsimp only); (try k_sweep); (try k_fold))
  k_with "call ref" => (k_here; (with_reducible show wpAny _ _ (call (Value.ref 231) _) _ _ _); k_dflt (refine' use_law_ok ?uBQ9 ?uFQ9 ?uXQ9 ?uNQ9 ?uTQ9 ?ukQ9 ?hxQ9 ?hAQ9 ?hrQ9 ?udQ9 ?uuQ9 ?_; (case uBQ9 => k_asm); (case uFQ9 => k_asm); (case uXQ9 => k_asm); (case uNQ9 => k_asm); (case uTQ9 => k_asm); (case ukQ9 => first | exact rfl | assumption); (case hrQ9 => with_reducible assumption); (case hxQ9 => exact And.left (by with_reducible assumption)); (case hAQ9 => exact And.right (by with_reducible assumption)); (case udQ9 => ktr_room); (case uuQ9 => ktr_units)); (intro a9 b9 u9 t9 h9 tk9 l8 l9 F9 N9); (try k_lt l8); (try dsimp only); (try k_sweep); (try k_fold))
  k_with "call ref" => (k_here; (dsimp only [List.cons_append, List.nil_append]); (with_reducible show wpAny _ _ (call (Value.ref 88) [Value.ref _]) _ _ _); k_dflt (refine' use_told ?uBQ9 ?uFQ9 ?uXQ9 ?uNQ9 ?uTQ9 ?ukQ9 ?hqQ9 ?hdqQ9 ?udQ9 ?uuQ9 ?_; (case uBQ9 => k_asm); (case uFQ9 => k_asm); (case uXQ9 => k_asm); (case uNQ9 => k_asm); (case uTQ9 => k_asm); (case ukQ9 => first | exact rfl | assumption); (case hqQ9 => first | exact List.Mem.head _ | exact List.Mem.tail _ (List.Mem.head _) | exact List.Mem.tail _ (List.Mem.tail _ (List.Mem.head _)) | exact List.Mem.tail _ (List.Mem.tail _ (List.Mem.tail _ (List.Mem.head _))) | exact List.Mem.tail _ (List.Mem.tail _ (List.Mem.tail _ (List.Mem.tail _ (List.Mem.head _)))) | exact List.Mem.tail _ (List.Mem.tail _ (List.Mem.tail _ (List.Mem.tail _ (List.Mem.tail _ (List.Mem.head _))))) | exact List.Mem.tail _ (List.Mem.tail _ (List.Mem.tail _ (List.Mem.tail _ (List.Mem.tail _ (List.Mem.tail _ (List.Mem.head _)))))) | exact List.Mem.tail _ (List.Mem.tail _ (List.Mem.tail _ (List.Mem.tail _ (List.Mem.tail _ (List.Mem.tail _ (List.Mem.tail _ (List.Mem.head _))))))) | exact List.Mem.tail _ (List.Mem.tail _ (List.Mem.tail _ (List.Mem.tail _ (List.Mem.tail _ (List.Mem.tail _ (List.Mem.tail _ (List.Mem.tail _ (List.Mem.head _)))))))) | exact List.Mem.tail _ (List.Mem.tail _ (List.Mem.tail _ (List.Mem.tail _ (List.Mem.tail _ (List.Mem.tail _ (List.Mem.tail _ (List.Mem.tail _ (List.Mem.tail _ (List.Mem.head _))))))))) | exact List.Mem.tail _ (List.Mem.tail _ (List.Mem.tail _ (List.Mem.tail _ (List.Mem.tail _ (List.Mem.tail _ (List.Mem.tail _ (List.Mem.tail _ (List.Mem.tail _ (List.Mem.tail _ (List.Mem.head _)))))))))) | exact List.Mem.tail _ (List.Mem.tail _ (List.Mem.tail _ (List.Mem.tail _ (List.Mem.tail _ (List.Mem.tail _ (List.Mem.tail _ (List.Mem.tail _ (List.Mem.tail _ (List.Mem.tail _ (List.Mem.tail _ (List.Mem.head _)))))))))))); (case hdqQ9 => first | exact List.Mem.head _ | exact List.Mem.tail _ (List.Mem.head _) | exact List.Mem.tail _ (List.Mem.tail _ (List.Mem.head _)) | exact List.Mem.tail _ (List.Mem.tail _ (List.Mem.tail _ (List.Mem.head _))) | exact List.Mem.tail _ (List.Mem.tail _ (List.Mem.tail _ (List.Mem.tail _ (List.Mem.head _)))) | exact List.Mem.tail _ (List.Mem.tail _ (List.Mem.tail _ (List.Mem.tail _ (List.Mem.tail _ (List.Mem.head _))))) | exact List.Mem.tail _ (List.Mem.tail _ (List.Mem.tail _ (List.Mem.tail _ (List.Mem.tail _ (List.Mem.tail _ (List.Mem.head _)))))) | exact List.Mem.tail _ (List.Mem.tail _ (List.Mem.tail _ (List.Mem.tail _ (List.Mem.tail _ (List.Mem.tail _ (List.Mem.tail _ (List.Mem.head _))))))) | exact List.Mem.tail _ (List.Mem.tail _ (List.Mem.tail _ (List.Mem.tail _ (List.Mem.tail _ (List.Mem.tail _ (List.Mem.tail _ (List.Mem.tail _ (List.Mem.head _)))))))) | exact List.Mem.tail _ (List.Mem.tail _ (List.Mem.tail _ (List.Mem.tail _ (List.Mem.tail _ (List.Mem.tail _ (List.Mem.tail _ (List.Mem.tail _ (List.Mem.tail _ (List.Mem.head _))))))))) | exact List.Mem.tail _ (List.Mem.tail _ (List.Mem.tail _ (List.Mem.tail _ (List.Mem.tail _ (List.Mem.tail _ (List.Mem.tail _ (List.Mem.tail _ (List.Mem.tail _ (List.Mem.tail _ (List.Mem.head _)))))))))) | exact List.Mem.tail _ (List.Mem.tail _ (List.Mem.tail _ (List.Mem.tail _ (List.Mem.tail _ (List.Mem.tail _ (List.Mem.tail _ (List.Mem.tail _ (List.Mem.tail _ (List.Mem.tail _ (List.Mem.tail _ (List.Mem.head _)))))))))))); (case udQ9 => ktr_room); (case uuQ9 => ktr_units)); (intro a9 h9 tk9 l8 F9 N9); (try k_lt l8); (try dsimp only); (try k_sweep); (try k_fold))
  k_with "call ref" => (k_here; (with_reducible show wpAny _ _ (call (Value.ref 192) _) _ _ _); k_dflt (refine' Says.useS ?uBQ9 ?uFQ9 ?uXQ9 ?uNQ9 ?uTQ9 ?ukQ9 (c_write_internal _ _ _ _ _ _ _ _ _ _ _ _ ?p1Q9 ?p2Q9 ?p3Q9 ?p4Q9) ?udQ9 ?uuQ9 ?_; (case uBQ9 => k_asm); (case uFQ9 => k_asm); (case uXQ9 => k_asm); (case uNQ9 => k_asm); (case uTQ9 => k_asm); (case ukQ9 => first | exact rfl | assumption); (case p1Q9 => exact MomOk.day (by with_reducible assumption)); (case p2Q9 => exact MomOk.time (by with_reducible assumption)); (case p3Q9 => exact MomOk.z0 (by with_reducible assumption)); (case p4Q9 => exact MomOk.z1 (by with_reducible assumption)); (case udQ9 => ktr_room); (case uuQ9 => ktr_units)); (intro t9 h9 tk9 F9 N9); (try dsimp only); (try k_sweep); (try k_fold))
  k_with "exec Assign" => (k_here; (with_reducible show wpAny _ _ (exec (Stmt.Assign [Expr.Name (Str.ofString "at") _] _ _) _) _ _ _); (with_reducible rename News _ _ _ _ => kN9); k_dflt (refine' sweep2 kN9 ?hpQ9 ?hcQ9 ?m1Q9 ?m2Q9 ?_; (case hpQ9 => assumption); (case hcQ9 => assumption); (case m1Q9 => k_mem); (case m2Q9 => k_mem)); intro N9; clear kN9; k_dflt (refine wpAny_Assign_Name ?_))
  k_with "subscriptTail" => (k_here; (with_reducible show wpAny _ _ (subscriptTail _ _ (Value.ref _) (Value.int _ _)) _ _ _); k_dflt (refine' item_bent (News.isTup ?NQ9 ?mQ9) ?h0Q9 ?h1Q9 ?haQ9 ?hbQ9 ?hcQ9 ?hdQ9 ?_; (case NQ9 => k_asm); (case mQ9 => k_mem); (case h0Q9 => omega); (case h1Q9 => omega); (case haQ9 => (first | (with_reducible refine bent3 ?_ ?_ ?_ <;> (first | ((with_reducible show Pc (Txt.slice _ none (some _))); exact pc_ns (by with_reducible assumption) (by omega) (by omega)) | ((with_reducible show Pc (Txt.slice _ (some _) none)); exact pc_sn (by with_reducible assumption) (by omega) (by omega)) | exact pc_sign (by omega) (by omega))) | (with_reducible refine bent2 ?_ ?_ <;> (first | ((with_reducible show Pc (Txt.slice _ none (some _))); exact pc_ns (by with_reducible assumption) (by omega) (by omega)) | ((with_reducible show Pc (Txt.slice _ (some _) none)); exact pc_sn (by with_reducible assumption) (by omega) (by omega)) | exact pc_sign (by omega) (by omega))))); (case hbQ9 => (first | (with_reducible refine bent3 ?_ ?_ ?_ <;> (first | ((with_reducible show Pc (Txt.slice _ none (some _))); exact pc_ns (by with_reducible assumption) (by omega) (by omega)) | ((with_reducible show Pc (Txt.slice _ (some _) none)); exact pc_sn (by with_reducible assumption) (by omega) (by omega)) | exact pc_sign (by omega) (by omega))) | (with_reducible refine bent2 ?_ ?_ <;> (first | ((with_reducible show Pc (Txt.slice _ none (some _))); exact pc_ns (by with_reducible assumption) (by omega) (by omega)) | ((with_reducible show Pc (Txt.slice _ (some _) none)); exact pc_sn (by with_reducible assumption) (by omega) (by omega)) | exact pc_sign (by omega) (by omega))))); (case hcQ9 => (first | (with_reducible refine bent3 ?_ ?_ ?_ <;> (first | ((with_reducible show Pc (Txt.slice _ none (some _))); exact pc_ns (by with_reducible assumption) (by omega) (by omega)) | ((with_reducible show Pc (Txt.slice _ (some _) none)); exact pc_sn (by with_reducible assumption) (by omega) (by omega)) | exact pc_sign (by omega) (by omega))) | (with_reducible refine bent2 ?_ ?_ <;> (first | ((with_reducible show Pc (Txt.slice _ none (some _))); exact pc_ns (by with_reducible assumption) (by omega) (by omega)) | ((with_reducible show Pc (Txt.slice _ (some _) none)); exact pc_sn (by with_reducible assumption) (by omega) (by omega)) | exact pc_sign (by omega) (by omega))))); (case hdQ9 => (first | (with_reducible refine bent3 ?_ ?_ ?_ <;> (first | ((with_reducible show Pc (Txt.slice _ none (some _))); exact pc_ns (by with_reducible assumption) (by omega) (by omega)) | ((with_reducible show Pc (Txt.slice _ (some _) none)); exact pc_sn (by with_reducible assumption) (by omega) (by omega)) | exact pc_sign (by omega) (by omega))) | (with_reducible refine bent2 ?_ ?_ <;> (first | ((with_reducible show Pc (Txt.slice _ none (some _))); exact pc_ns (by with_reducible assumption) (by omega) (by omega)) | ((with_reducible show Pc (Txt.slice _ (some _) none)); exact pc_sn (by with_reducible assumption) (by omega) (by omega)) | exact pc_sign (by omega) (by omega)))))); (intro x9 t9 hx9); (try dsimp only); (try k_fold))
  trivial
local macro_rules | `(tactic| wrow_close) => `(tactic| (k_here; (with_reducible show GoodW _ _ _ _ _ (Except.ok (Flow.ret (Value.bool _))) _); k_dflt (refine' good_true ?F ?hg ?hb ?hos; (case F => k_asm); (case hg => with_reducible assumption); (case hb => first | rfl | exact beq_self_eq_true _ | with_reducible assumption); (case hos => rfl))))

theorem holds : PySem.Challenge.rw_no0354_01.Holds := hd (by
  k_go0
  all_goals try k_fold
  k_steps)
end Mine
end
set_option maxRecDepth 100000 in
theorem PySem.Challenge.cw_no0354_01_holds : PySem.Challenge.rw_no0354_01.Holds := by
  exact Mine.holds
