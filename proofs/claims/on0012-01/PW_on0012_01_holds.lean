import PyProof.Rows.All
import Wide.All
import OpenK.AllK
import Wide.FinOn
import Lean
import PySem.Challenge.RW_on0012_01
open PySem PySem.W PySem.Calls PyProof.Rows PySem.SeqAt
set_option Elab.async false
set_option maxRecDepth 100000
set_option maxHeartbeats 8000000
set_option linter.all false
set_option pp.deepTerms false
set_option pp.maxSteps 300
-- TopN
namespace Mine
/-- the text without the four statements that bind __name__ -/
noncomputable def vw : Program := { PySem.Challenge.pw_on0012_01 with main := { PySem.Challenge.pw_on0012_01.main with body := match PySem.Challenge.pw_on0012_01.main.body with
  | _ :: a1 :: a2 :: _ :: a4 :: a5 :: a6 :: a7 :: a8 :: a9 :: _ :: a11 :: a12 :: a13 :: a14 :: a15 :: a16 :: a17 :: a18 :: _ :: r => a1 :: a2 :: a4 :: a5 :: a6 :: a7 :: a8 :: a9 :: a11 :: a12 :: a13 :: a14 :: a15 :: a16 :: a17 :: a18 :: r
  | _ => [] } }
/-- a conjunct -/
theorem pj0 { a b : Prop} (h : a ∧ b) : a := h.1
theorem pj1 {x1 a b : Prop} (h : x1 ∧ a ∧ b) : a := h.2.1
theorem pl1 {x1 a : Prop} (h : x1 ∧ a) : a := h.2
theorem pj2 {x1 x2 a b : Prop} (h : x1 ∧ x2 ∧ a ∧ b) : a := h.2.2.1
theorem pl2 {x1 x2 a : Prop} (h : x1 ∧ x2 ∧ a) : a := h.2.2
theorem pj3 {x1 x2 x3 a b : Prop} (h : x1 ∧ x2 ∧ x3 ∧ a ∧ b) : a := h.2.2.2.1
theorem pl3 {x1 x2 x3 a : Prop} (h : x1 ∧ x2 ∧ x3 ∧ a) : a := h.2.2.2
theorem pj4 {x1 x2 x3 x4 a b : Prop} (h : x1 ∧ x2 ∧ x3 ∧ x4 ∧ a ∧ b) : a := h.2.2.2.2.1
theorem pl4 {x1 x2 x3 x4 a : Prop} (h : x1 ∧ x2 ∧ x3 ∧ x4 ∧ a) : a := h.2.2.2.2
theorem pj5 {x1 x2 x3 x4 x5 a b : Prop} (h : x1 ∧ x2 ∧ x3 ∧ x4 ∧ x5 ∧ a ∧ b) : a := h.2.2.2.2.2.1
theorem pl5 {x1 x2 x3 x4 x5 a : Prop} (h : x1 ∧ x2 ∧ x3 ∧ x4 ∧ x5 ∧ a) : a := h.2.2.2.2.2
theorem pj6 {x1 x2 x3 x4 x5 x6 a b : Prop} (h : x1 ∧ x2 ∧ x3 ∧ x4 ∧ x5 ∧ x6 ∧ a ∧ b) : a := h.2.2.2.2.2.2.1
theorem pl6 {x1 x2 x3 x4 x5 x6 a : Prop} (h : x1 ∧ x2 ∧ x3 ∧ x4 ∧ x5 ∧ x6 ∧ a) : a := h.2.2.2.2.2.2
theorem pj7 {x1 x2 x3 x4 x5 x6 x7 a b : Prop} (h : x1 ∧ x2 ∧ x3 ∧ x4 ∧ x5 ∧ x6 ∧ x7 ∧ a ∧ b) : a := h.2.2.2.2.2.2.2.1
theorem pl7 {x1 x2 x3 x4 x5 x6 x7 a : Prop} (h : x1 ∧ x2 ∧ x3 ∧ x4 ∧ x5 ∧ x6 ∧ x7 ∧ a) : a := h.2.2.2.2.2.2.2
theorem pj8 {x1 x2 x3 x4 x5 x6 x7 x8 a b : Prop} (h : x1 ∧ x2 ∧ x3 ∧ x4 ∧ x5 ∧ x6 ∧ x7 ∧ x8 ∧ a ∧ b) : a := h.2.2.2.2.2.2.2.2.1
theorem pj9 {x1 x2 x3 x4 x5 x6 x7 x8 x9 a b : Prop} (h : x1 ∧ x2 ∧ x3 ∧ x4 ∧ x5 ∧ x6 ∧ x7 ∧ x8 ∧ x9 ∧ a ∧ b) : a := h.2.2.2.2.2.2.2.2.2.1
theorem pj10 {x1 x2 x3 x4 x5 x6 x7 x8 x9 x10 a b : Prop} (h : x1 ∧ x2 ∧ x3 ∧ x4 ∧ x5 ∧ x6 ∧ x7 ∧ x8 ∧ x9 ∧ x10 ∧ a ∧ b) : a := h.2.2.2.2.2.2.2.2.2.2.1
theorem pj11 {x1 x2 x3 x4 x5 x6 x7 x8 x9 x10 x11 a b : Prop} (h : x1 ∧ x2 ∧ x3 ∧ x4 ∧ x5 ∧ x6 ∧ x7 ∧ x8 ∧ x9 ∧ x10 ∧ x11 ∧ a ∧ b) : a := h.2.2.2.2.2.2.2.2.2.2.2.1
theorem pj12 {x1 x2 x3 x4 x5 x6 x7 x8 x9 x10 x11 x12 a b : Prop} (h : x1 ∧ x2 ∧ x3 ∧ x4 ∧ x5 ∧ x6 ∧ x7 ∧ x8 ∧ x9 ∧ x10 ∧ x11 ∧ x12 ∧ a ∧ b) : a := h.2.2.2.2.2.2.2.2.2.2.2.2.1
theorem pj13 {x1 x2 x3 x4 x5 x6 x7 x8 x9 x10 x11 x12 x13 a b : Prop} (h : x1 ∧ x2 ∧ x3 ∧ x4 ∧ x5 ∧ x6 ∧ x7 ∧ x8 ∧ x9 ∧ x10 ∧ x11 ∧ x12 ∧ x13 ∧ a ∧ b) : a := h.2.2.2.2.2.2.2.2.2.2.2.2.2.1
theorem pj14 {x1 x2 x3 x4 x5 x6 x7 x8 x9 x10 x11 x12 x13 x14 a b : Prop} (h : x1 ∧ x2 ∧ x3 ∧ x4 ∧ x5 ∧ x6 ∧ x7 ∧ x8 ∧ x9 ∧ x10 ∧ x11 ∧ x12 ∧ x13 ∧ x14 ∧ a ∧ b) : a := h.2.2.2.2.2.2.2.2.2.2.2.2.2.2.1
theorem ne_hi {D a : Nat} (h : a < D) : D ≠ a := Nat.ne_of_gt h
theorem room {a dp k j n r : Nat} (h : dp + n < r) (ea : a = dp + j) (hk : Nat.ble (j + k) n = true) : a + k < r := by
  subst ea
  have := Nat.le_of_ble_eq_true hk
  omega
theorem room0 {a dp n r : Nat} (h : dp + n < r) (ea : a = dp) : a < r := by
  subst ea
  omega
theorem roomj {a dp j n r : Nat} (h : dp + n < r) (ea : a = dp + j) (hk : Nat.ble j n = true) : a < r := by
  subst ea
  have := Nat.le_of_ble_eq_true hk
  omega
noncomputable def Fold {α : Type} (l : α) : α := l
theorem lt_mem {a D : Nat} {o : Obj} {news : List (Addr × Obj)} (h : ∀ p ∈ news, p.1 < D) (m : (a, o) ∈ news) : a < D := h _ m
noncomputable def Sealed {α : Type} (Q₀ Q : α → Shared → Prop) : Prop := ∀ v s', Q₀ v s' → Q v s'
theorem putBy {M : Model} {A : Around} {α : Type} {t : Sem α} {E : Value → Shared → Prop} {s : Shared} {Q₀ : α → Shared → Prop} (h : ∀ Q : α → Shared → Prop, Sealed Q₀ Q → wpAny M A t Q E s) : wpAny M A t Q₀ E s := h Q₀ fun _ _ x => x
theorem takeBack {α : Type} {Q₀ Q : α → Shared → Prop} {v : α} {s : Shared} (h : Sealed Q₀ Q) (k : Q₀ v s) : Q v s := h v s k
theorem isPut {M : Model} {A : Around} {α : Type} {t : Sem α} {E : Value → Shared → Prop} {s : Shared} {Q₀ Q : α → Shared → Prop} (h : Sealed Q₀ Q) (k : wpAny M A t Q E s) : wpAny M A t Q E s := k
theorem said_all : PySem.Challenge.rw_on0012_01.wellSaid = true := by
  have h1 : namesResolve PySem.Challenge.rw_on0012_01.row.prog = true := by decide +kernel
  have h2 : PySem.Challenge.rw_on0012_01.row.prog.boundNames.all (fun n => !worldNames.contains n) = true := by decide +kernel
  have h3 : looksOpen PySem.Challenge.rw_on0012_01.row.prog = true := look_both (look_both (look_both (look_both (by decide +kernel) h1) h2) (by decide +kernel)) (by decide +kernel)
  have h4 : PySem.Challenge.rw_on0012_01.row.partSaid = true := look_both (look_both (look_both (look_both (look_both (look_both (look_both (look_both (look_both (look_both (look_both (look_both (look_both h3 (by decide +kernel)) (by decide +kernel)) (by decide +kernel)) (by decide +kernel)) (by decide +kernel)) (by decide +kernel)) (by decide +kernel)) (by decide +kernel)) (by decide +kernel)) (by decide +kernel)) (by decide +kernel)) (by decide +kernel)) (by decide +kernel)
  have h5 : PySem.Challenge.rw_on0012_01.row.wellSaid = true := look_both (look_both h4 (by decide +kernel)) (by decide +kernel)
  exact look_both (look_both (look_both (look_both (look_both (look_both (look_both (look_both (look_both (look_both (look_both (look_both (look_both (look_both (look_both (look_both (look_both (look_both h5 (by decide +kernel)) (by decide +kernel)) (by decide +kernel)) (by decide +kernel)) (by decide +kernel)) (by decide +kernel)) (by decide +kernel)) (by decide +kernel)) (by decide +kernel)) (by decide +kernel)) (by decide +kernel)) (by decide +kernel)) (by decide +kernel)) (by decide +kernel)) (by decide +kernel)) (by decide +kernel)) (by decide +kernel)) (by decide +kernel)
local macro_rules | `(tactic| o_law) => `(tactic| refine holds_law said_all fun said => ?_)
local macro_rules | `(tactic| o_head $H) => `(tactic| (
  refine holds_open (q := vw) (loose := [Str.ofString "_law_kinds"]) (Xt := fun s => xlAt vw [] s && recOk (RowW.records PySem.Challenge.rw_on0012_01.row.toRowW) s) (XP := XL vw []) (Yf := Hook.obs $H) (Ya := Hook.val $H) (YP := Hook.says $H) (N := 2388) ?hl (Hook.of $H) (Hook.keeps $H) (fun s e => xl_of s (Bool.and_eq_true_iff.mp e).1) XL.keeps (by rfl) (by rfl) (by rfl) (fun s e => recFacts_of (Bool.and_eq_true_iff.mp e).2) (by rfl) (by first | assumption | decide +kernel) (by decide +kernel) ⟨rfl, rfl, rfl, rfl, rfl, by decide +kernel⟩ ?hw ?hc
  (case hl => (intro w; kernel_rfl))))
open_top hd for PySem.Challenge.rw_on0012_01
end Mine
-- P3
namespace Mine
/-- a goal at which the walk is to stand still -/
noncomputable def Halt (P : Prop) : Prop := P
theorem Halt.mk {P : Prop} (h : Halt P) : P := h
theorem Halt.get {P : Prop} (h : P) : Halt P := h
/-- the entry at a place of a ledger -/
noncomputable def nthL : Nat → List (Addr × Obj) → Option (Addr × Obj)
  | 0, l => l.head?
  | n + 1, l => nthL n l.tail
theorem memAt : ∀ {l : List (Addr × Obj)} {x : Addr × Obj} (i : Nat), nthL i l = some x → x ∈ l
  | [], _, 0, h => by cases h
  | _ :: _, _, 0, h => by cases h; exact .head _
  | [], _, n + 1, h => (nomatch memAt (l := []) n h)
  | _ :: l, _, n + 1, h => .tail _ (memAt (l := l) n h)
noncomputable def dropL : Nat → List (Addr × Obj) → List (Addr × Obj)
  | 0, l => l
  | n + 1, l => dropL n l.tail
theorem memDrop : ∀ {l tl : List (Addr × Obj)} (i : Nat), dropL i l = tl → ∀ p ∈ tl, p ∈ l
  | _, _, 0, h, _, hp => by cases h; exact hp
  | [], _, n + 1, h, _, hp => (nomatch memDrop (l := []) n h _ hp)
  | _ :: l, _, n + 1, h, _, hp => .tail _ (memDrop (l := l) n h _ hp)
theorem memSkip {l tl : List (Addr × Obj)} {e x : Addr × Obj} (i : Nat) (h : dropL i l = e :: tl) (k : x ∈ e :: tl) : x ∈ l := memDrop i h x k
theorem dropSkip {l r tl : List (Addr × Obj)} {e : Addr × Obj} (i : Nat) (h : dropL i l = e :: r) (k : ∀ p ∈ tl, p ∈ e :: r) : ∀ p ∈ tl, p ∈ l := fun p hp => memDrop i h p (k p hp)
theorem newsTl {h₀ h : Heap} {L : Addr} {l tl : List (Addr × Obj)} (N : News h₀ L h l) (hs : ∀ p ∈ tl, p ∈ l) : ∀ p ∈ tl, h.get? p.1 = some p.2 := fun p hp => (N p (hs p hp)).1
theorem all3 {P : Value → Prop} {a b c : Value} (x : P a) (y : P b) (z : P c) : ∀ v ∈ [a, b, c], P v := fun v hv => by
  simp only [List.mem_cons, List.not_mem_nil, or_false] at hv
  rcases hv with rfl | rfl | rfl <;> assumption
theorem app2 {P : Value → Prop} {l : List Value} {a b v : Value} (hv : v ∈ l ++ [a, b]) (x : v ∈ l → P v) (y : P a) (z : P b) : P v := by
  simp only [List.mem_append, List.mem_cons, List.not_mem_nil, or_false] at hv
  rcases hv with h | rfl | rfl
  · exact x h
  · exact y
  · exact z
theorem allNe {D : Addr} {l : List (Addr × Obj)} (h : ∀ p ∈ l, p.1 < D) : ∀ p ∈ l, p.1 ≠ D := fun p hp => Nat.ne_of_lt (h p hp)
theorem neAt {a D : Addr} {o : Obj} {l : List (Addr × Obj)} (h : ∀ p ∈ l, p.1 ≠ D) (m : (a, o) ∈ l) : @Ne Nat a D := h _ m
theorem neAt' {a D : Addr} {o : Obj} {l : List (Addr × Obj)} (h : ∀ p ∈ l, p.1 ≠ D) (m : (a, o) ∈ l) : @Ne Nat D a := fun q => h _ m q.symm
theorem allApp {D : Addr} {a b : List (Addr × Obj)} (x : ∀ p ∈ a, p.1 ≠ D) (y : ∀ p ∈ b, p.1 ≠ D) : ∀ p ∈ a ++ b, p.1 ≠ D := fun p hp => (List.mem_append.mp hp).elim (x p) (y p)
/-- what a name or a constant gives, and the token behind it -/
noncomputable def simpE (env : Env) (m : Str → Option Value) (tk : Nat) : Expr → Option (Value × Nat)
  | .Name x _ => match env.kindOf x with
    | some .local => match x == ("__debug__" : Str) with
      | true => none
      | false => match m x with
        | some v => some (v, tk)
        | none => none
    | _ => none
  | .Constant (.str x) _ _ => some (.str x tk, tk + 1)
  | .Constant (.int i) _ _ => some (.int i tk, tk + 1)
  | .Constant (.bool b) _ _ => some (.bool b, tk)
  | .Constant .none _ _ => some (.none, tk)
  | _ => none
noncomputable def simpL (env : Env) (m : Str → Option Value) : Nat → List Expr → Option (List Value × Nat)
  | tk, [] => some ([], tk)
  | tk, e :: r => match simpE env m tk e with
    | some (v, tk1) => match simpL env m tk1 r with
      | some (vs, tk2) => some (v :: vs, tk2)
      | none => none
    | none => none
section
variable {M : Model} {A : Around} {E : Value → Shared → Prop} {s : Shared} {h₀ : Heap} {L : Addr} {m : Str → Option Value} {news : List (Addr × Obj)} {vs : List Value} {Q : Value → Shared → Prop} {env : Env}
theorem newTupleM (F : Fr h₀ L s.heap m) (N : News h₀ L s.heap news) (hz : vs.length ≤ sizeLine)
    (h : ∀ D h', let NW : List (Addr × Obj) := (D, ({ cls := .type "tuple", data := .seq vs.toArray } : Obj)) :: news; let s' : Shared := { s with heap := h' }; Fr h₀ L s'.heap m → News h₀ L s'.heap (Fold NW) → (∀ p ∈ news, p.1 < D) → Q (.ref D) s') : wpAny M A (newTuple vs) Q E s :=
  newTuple_N F N (fun h' F' N' => h _ h' F' N' fun p hp => Heap.lt_size (N p hp).1) hz
theorem newListM (F : Fr h₀ L s.heap m) (N : News h₀ L s.heap news) (hz : vs.length ≤ sizeLine)
    (h : ∀ D h', let NW : List (Addr × Obj) := (D, listOf vs.toArray 0) :: news; let s' : Shared := { s with heap := h' }; Fr h₀ L s'.heap m → News h₀ L s'.heap (Fold NW) → (∀ p ∈ news, p.1 < D) → Q (.ref D) s') : wpAny M A (newList vs) Q E s :=
  newList_N F N (fun h' F' N' => h _ h' F' N' fun p hp => Heap.lt_size (N p hp).1) hz
theorem constStrM {x : Str} {k : Nat} {pos : Pos} (h : let s' : Shared := { s with toks := s.toks + 1 }; Q (.str x s.toks) s') : wpAny M A (eval (.Constant (.str x) k pos) env) Q E s := fun _ _ _ => h
theorem constIntM {x : Int} {k : Nat} {pos : Pos} (h : let s' : Shared := { s with toks := s.toks + 1 }; Q (.int x s.toks) s') : wpAny M A (eval (.Constant (.int x) k pos) env) Q E s := fun _ _ _ => h
theorem simpE_ok {e : Expr} {v : Value} {tk : Nat} (F : Fr h₀ env.locals s.heap m) (hk : env.scope.kind = .function) (h : simpE env m s.toks e = some (v, tk)) (k : Q v { s with toks := tk }) : wpAny M A (eval e env) Q E s := by
  unfold simpE at h
  split at h
  · split at h
    · rename_i hx
      split at h
      · cases h
      · rename_i hd
        split at h
        · rename_i hv
          cases h
          exact wpAny_Name (wpAny_loadName_local hk hx F.ns hv k) hd
        · cases h
    · cases h
  · cases h; exact Constant_str k
  · cases h; exact wpAny_Constant_int k
  · cases h; exact wpAny_Constant_bool k
  · cases h; exact wpAny_Constant_none k
  · cases h
theorem star_simp {e : Expr} {rest : List Expr} {tk : Nat} {p : Value × Nat} (h : simpE env m tk e = some p) : starEach (e :: rest) env = (false, eval e env) :: starEach rest env := by
  unfold simpE at h
  split at h <;> first | rfl | (cases h; done)
theorem simpL_ok : ∀ {es : List Expr} {s : Shared} {vs : List Value} {tk : Nat} {pos : Pos} {Q : List Value → Shared → Prop}, Fr h₀ env.locals s.heap m → env.scope.kind = .function → simpL env m s.toks es = some (vs, tk) → Q vs { s with toks := tk } → wpAny M A (spliced (backTo pos (starEach es env))) Q E s
  | [], s, vs, tk, pos, Q, F, hk, h, k => by
    cases h
    exact args_nil k
  | e :: r, s, vs, tk, pos, Q, F, hk, h, k => by
    unfold simpL at h
    split at h
    · rename_i v tk1 he
      split at h
      · rename_i vs' tk2 hr
        cases h
        refine args_cons (simpE_ok F hk he ?_) (star_simp he)
        exact simpL_ok (s := { s with toks := tk1 }) F hk hr k
      · cases h
    · cases h
variable {cn : Str} {cs : Scope} {a : Addr} {ccd : Value} {cl : List (Str × Addr)} {x : Str} {v : Value} {Qu : Unit → Shared → Prop} {es : List Expr} {tk : Nat}
/-- a local name -/
theorem nameM {pos : Pos} (hk : cs.kind = .function) (hx : (envX cn cs L a ccd cl).kindOf x = some .local) (hd : (x == ("__debug__" : Str)) = false) (F : Fr h₀ L s.heap m) (hv : m x = some v) (h : Q v s) : wpAny M A (eval (.Name x pos) (envX cn cs L a ccd cl)) Q E s := nameX_L F hv h hk hx hd
theorem nameS {pos : Pos} (hk : cs.kind = .function) (e : simpE (envX cn cs L a ccd cl) m 0 (.Name x pos) = some (v, 0)) (F : Fr h₀ L s.heap m) (h : Q v s) : wpAny M A (eval (.Name x pos) (envX cn cs L a ccd cl)) Q E s := by
  unfold simpE at e
  dsimp only at e
  split at e
  · rename_i hx
    split at e
    · cases e
    · rename_i hd
      split at e
      · rename_i hv
        cases e
        exact nameX_L F hv h hk hx hd
      · cases e
  · cases e
/-- a name of the file's, or a built-in -/
noncomputable def globE (env : Env) (x : Str) : Bool := match env.kindOf x with
  | some .globalImplicit => match x == ("__debug__" : Str) with
    | true => false
    | false => true
  | _ => false
theorem globE_ok {env : Env} {x : Str} (h : globE env x = true) : env.kindOf x = some .globalImplicit ∧ (x == ("__debug__" : Str)) = false := by
  unfold globE at h
  split at h
  · rename_i hx
    split at h
    · cases h
    · rename_i hd; exact ⟨hx, hd⟩
  · cases h
variable {K : Frag} {mg mb : Str → Option Value} {p : Program} {loose : List Str} {mean : ExcName → Option Value}
theorem nameK {pos : Pos} (hk : cs.kind = .function) (g : globE (envX cn cs L a ccd cl) x = true) (F : Fr h₀ L s.heap m) (X : K.In h₀) (T : TopRead p loose mg mb h₀) (e : nsIn K mainGlobals x = some (some v)) (h : Q v s) : wpAny M A (eval (.Name x pos) (envX cn cs L a ccd cl)) Q E s :=
  nameX_K F X T e h hk (globE_ok g).1 (globE_ok g).2
theorem nameB {pos : Pos} (hk : cs.kind = .function) (g : globE (envX cn cs L a ccd cl) x = true) (F : Fr h₀ L s.heap m) (X : K.In h₀) (T : TopRead p loose mg mb h₀) (e : nsIn K mainGlobals x = some none) (hv : bootBuiltins x = some v) (hn : x ≠ "__name__") (h : Q v s) : wpAny M A (eval (.Name x pos) (envX cn cs L a ccd cl)) Q E s :=
  nameX_B F X T e hv hn h hk (globE_ok g).1 (globE_ok g).2
/-- all items names or constants -/
theorem argsM {pos : Pos} {Q : List Value → Shared → Prop} (hk : cs.kind = .function) (F : Fr h₀ L s.heap m) (e : simpL (envX cn cs L a ccd cl) m s.toks es = some (vs, tk)) (h : let s' : Shared := { s with toks := tk }; Q vs s') : wpAny M A (spliced (backTo pos (starEach es (envX cn cs L a ccd cl)))) Q E s :=
  simpL_ok F hk e h
theorem tupM {k : Nat} {pos : Pos} (hk : cs.kind = .function) (F : Fr h₀ L s.heap m) (e : simpL (envX cn cs L a ccd cl) m s.toks es = some (vs, tk)) (N : News h₀ L s.heap news) (hz : vs.length ≤ sizeLine)
    (h : ∀ D h', let NW : List (Addr × Obj) := (D, ({ cls := .type "tuple", data := .seq vs.toArray } : Obj)) :: news; let s' : Shared := { s with heap := h', toks := tk }; Fr h₀ L s'.heap m → News h₀ L s'.heap (Fold NW) → (∀ p ∈ news, p.1 < D) → Q (.ref D) s') : wpAny M A (eval (.Tuple es k pos) (envX cn cs L a ccd cl)) Q E s :=
  Tuple_ (argsM hk F e (newTupleM (s := { s with toks := tk }) F N hz h))
theorem lstM {pos : Pos} (hk : cs.kind = .function) (F : Fr h₀ L s.heap m) (e : simpL (envX cn cs L a ccd cl) m s.toks es = some (vs, tk)) (N : News h₀ L s.heap news) (hz : vs.length ≤ sizeLine)
    (h : ∀ D h', let NW : List (Addr × Obj) := (D, listOf vs.toArray 0) :: news; let s' : Shared := { s with heap := h', toks := tk }; Fr h₀ L s'.heap m → News h₀ L s'.heap (Fold NW) → (∀ p ∈ news, p.1 < D) → Q (.ref D) s') : wpAny M A (eval (.List es pos) (envX cn cs L a ccd cl)) Q E s :=
  List_ (argsM hk F e (newListM (s := { s with toks := tk }) F N hz h))
theorem storeM (hk : cs.kind = .function) (hx : (envX cn cs L a ccd cl).kindOf x = some .local) (F : Fr h₀ L s.heap m) (N : News h₀ L s.heap news)
    (h : ∀ h', let FM : Str → Option Value := fun y => if y = x then some v else m y; let s' : Shared := { s with heap := h', toks := s.toks + 1 }; Fr h₀ L s'.heap (Fold FM) → News h₀ L s'.heap news → Qu () s') : wpAny M A (storeName (envX cn cs L a ccd cl) x v) Qu E s :=
  storeX_L F N (fun h' F' N' => h h' F' N') hk hx
end
end Mine
local macro_rules | `(tactic| k_mem) => `(tactic| k_extra "base k_mem")
local macro_rules | `(tactic| k_lt $h:ident) => `(tactic| skip)
local macro_rules | `(tactic| k_all) => `(tactic| k_extra "base k_all")
local macro_rules | `(tactic| k_ne) => `(tactic| k_extra "base k_ne")
local macro_rules | `(tactic| size_fits) => `(tactic| exact Nat.le_of_ble_eq_true rfl)
local macro_rules | `(tactic| k_steps) => `(tactic| k_extra "base k_steps")
local macro_rules | `(tactic| walk_at $s:str) => `(tactic| k_extra $s)
namespace Mine
theorem words0 : True := by
  k_with_none
  (k_with "base k_mem" => first | exact Mine.memAt 0 rfl | exact Mine.memAt 1 rfl | exact Mine.memAt 2 rfl | exact Mine.memAt 3 rfl | exact Mine.memAt 4 rfl | exact Mine.memAt 5 rfl | exact Mine.memAt 6 rfl | exact Mine.memAt 7 rfl | (refine Mine.memSkip 8 rfl ?_; k_mem))
  (k_with "base k_all" => first | exact Mine.allNe (by with_reducible assumption) | with_reducible assumption | exact List.forall_mem_nil _ | (with_reducible refine' Mine.allApp ?a ?b; (case a => k_all); (case b => k_all)) | (refine' List.forall_mem_cons.mpr ⟨?a, ?b⟩; (case a => k_ne); (case b => k_all)) | assumption)
  (k_with "base k_ne" => first | with_reducible assumption | (refine Mine.ne_hi ?_; exact Mine.lt_mem (by with_reducible assumption) (by k_mem)) | exact Mine.neAt (by with_reducible assumption) (by k_mem) | exact Mine.neAt' (by with_reducible assumption) (by k_mem) | (refine Mine.ne_hi ?_; with_reducible first | assumption | exact Mine.pj0 (by assumption) | exact Mine.pj1 (by assumption) | exact Mine.pl1 (by assumption) | exact Mine.pj2 (by assumption) | exact Mine.pl2 (by assumption) | exact Mine.pj3 (by assumption) | exact Mine.pl3 (by assumption) | exact Mine.pj4 (by assumption) | exact Mine.pl4 (by assumption) | exact Mine.pj5 (by assumption) | exact Mine.pl5 (by assumption) | exact Mine.pj6 (by assumption) | exact Mine.pl6 (by assumption) | exact Mine.pj7 (by assumption) | exact Mine.pl7 (by assumption) | exact Mine.pj8 (by assumption) | exact Mine.pj9 (by assumption) | exact Mine.pj10 (by assumption) | exact Mine.pj11 (by assumption) | exact Mine.pj12 (by assumption) | exact Mine.pj13 (by assumption) | exact Mine.pj14 (by assumption)) | exact Ne.symm (by with_reducible assumption) | exact Ne.symm (by assumption) | (refine neN ?_; (try dsimp only); omega))
  (k_with "base k_steps" => (try ((fail_if_success (fail_if_success k_fold)); refine (let Q9z : _ → Shared → Prop := _; (?_ : wpAny _ _ _ Q9z _ _)))); (try ((fail_if_success (fail_if_success (conv in (Shared.mk _ _ _ _ _) => skip))); refine (let s9z : Shared := _; (?_ : wpAny _ _ _ _ _ s9z)))); (try ((with_reducible rename News _ _ _ (List.cons _ _) => N9z); refine (let NW9z : List (Addr × Obj) := _; have N8z : News _ _ _ (Mine.Fold NW9z) := N9z; ?_); clear N9z)); (try ((with_reducible rename Fr _ _ _ (fun _ => ite _ _ _) => F9z); refine (let FM9z : Str → Option Value := _; have F8z : Fr _ _ _ (Mine.Fold FM9z) := F9z; ?_); clear F9z)); repeat' (first | ((fail_if_success (fail_if_success k_unfold)); refine (?_ : wpAny _ _ _ _ _ _); (try ((fail_if_success (fail_if_success k_fold)); refine (let Q9z : _ → Shared → Prop := _; (?_ : wpAny _ _ _ Q9z _ _)))); (try ((fail_if_success (fail_if_success (conv in (Shared.mk _ _ _ _ _) => skip))); refine (let s9z : Shared := _; (?_ : wpAny _ _ _ _ _ s9z))))) | (k_unfold; (try dsimp only)) | (k_end; wrow_close) | ((first | walk1 | (dsimp only; walk1)); (try ((fail_if_success (fail_if_success k_fold)); refine (let Q9z : _ → Shared → Prop := _; (?_ : wpAny _ _ _ Q9z _ _)))); (try ((fail_if_success (fail_if_success (conv in (Shared.mk _ _ _ _ _) => skip))); refine (let s9z : Shared := _; (?_ : wpAny _ _ _ _ _ s9z)))); (try ((with_reducible rename News _ _ _ (List.cons _ _) => N9z); refine (let NW9z : List (Addr × Obj) := _; have N8z : News _ _ _ (Mine.Fold NW9z) := N9z; ?_); clear N9z)); (try ((with_reducible rename Fr _ _ _ (fun _ => ite _ _ _) => F9z); refine (let FM9z : Str → Option Value := _; have F8z : Fr _ _ _ (Mine.Fold FM9z) := F9z; ?_); clear F9z))) | (leave1; walk_say "STEP leave1"; try dsimp only) | fail "no step"))
  trivial
end Mine
-- B1
namespace Mine
/-- the ground of the law's call: a heap that stays, with the written part and the top in it -/
structure Bs (w : World) (mean : ExcName → Option Value) (mg mb : Str → Option Value) (H : Heap) : Prop where
  k : (hd.heap_1 w.params).In H
  t : Top vw (looseW vw [Str.ofString "_law_kinds"]) mean mg mb H
noncomputable abbrev Ar (dp un : Nat) (fr : Option (List Env)) : Around := { handled := none, depth := dp, frames := fr, guards := some [], units := un }
/-- every object of h but those of X stands in h' -/
noncomputable def But (X : List Addr) (h h' : Heap) : Prop := ∀ b o, h.get? b = some o → b ∉ X → h'.get? b = some o
theorem But.refl {X : List Addr} {h : Heap} : But X h h := fun _ _ e _ => e
theorem But.trans {X : List Addr} {h h' h'' : Heap} (a : But X h h') (b : But X h' h'') : But X h h'' := fun x o e n => b x o (a x o e n) n
theorem But.of {X : List Addr} {h h' : Heap} (a : But [] h h') : But X h h' := fun x o e _ => a x o e (by simp)
/-- a contract of the def at f: what it asks of the heap and the arguments, what it gives -/
noncomputable def Sp (w : World) (H : Heap) (f : Addr) (dk uk : Nat) (Pre : Heap → List Value → Prop) (Post : Heap → List Value → Heap → Value → Prop) : Prop :=
  ∀ (A : Around) (s : Shared) (args : List Value) (R : Result → Shared → Prop), A.handled = none → A.guards = some [] →
    H.StaysIn s.heap → A.depth + dk < recursionLimit → A.units + uk < cLine → Pre s.heap args →
    (∀ v h' tk', Post s.heap args h' v → R (.ok (.ret v)) { s with heap := h', toks := tk' }) →
    codeAny (model PySem.Challenge.rw_on0012_01.row.prog w) A (.call (.ref f) ⟨args, []⟩) R s
theorem Sp.intro {w : World} {H : Heap} {f : Addr} {dk uk : Nat} {Pre : Heap → List Value → Prop} {Post : Heap → List Value → Heap → Value → Prop}
    (h : ∀ (dp un : Nat) (fr : Option (List Env)) (s : Shared) (args : List Value) (R : Result → Shared → Prop), H.StaysIn s.heap → dp + dk < recursionLimit → un + uk < cLine → Pre s.heap args →
      (∀ v h' tk', Post s.heap args h' v → R (.ok (.ret v)) { s with heap := h', toks := tk' }) →
      codeAny (model PySem.Challenge.rw_on0012_01.row.prog w) (Ar dp un fr) (.call (.ref f) ⟨args, []⟩) R s) : Sp w H f dk uk Pre Post := by
  rintro ⟨hh, dp, fr, gd, un⟩ s args R rfl rfl hst hd hu hp hR
  exact h dp un fr s args R hst hd hu hp hR
theorem call_sp {w : World} {H h₀ : Heap} {f : Addr} {dk uk : Nat} {Pre : Heap → List Value → Prop} {Post : Heap → List Value → Heap → Value → Prop} {A : Around} {E : Value → Shared → Prop} {Q : Value → Shared → Prop} {s : Shared} {args : List Value} {L : Addr} {m : Str → Option Value} {news : List (Addr × Obj)}
    (S : Sp w H f dk uk Pre Post) (F : Fr h₀ L s.heap m) (N : News h₀ L s.heap news) (hst : H.StaysIn h₀) (hh : A.handled = none) (hg : A.guards = some []) (hd : A.depth + dk < recursionLimit) (hu : A.units + uk < cLine) (hpre : Pre s.heap args)
    (hb : ∀ h' r, Post s.heap args h' r → But [] s.heap h')
    (h : ∀ r h' tk', Fr h₀ L h' m → News h₀ L h' news → But [] s.heap h' → Post s.heap args h' r → Q r { s with heap := h', toks := tk' }) :
    wpAny (model PySem.Challenge.rw_on0012_01.row.prog w) A (call (.ref f) args) Q E s :=
  wpAny_call (S A s args _ hh hg (fun b o e => F.keep b o (hst b o e)) hd hu hpre fun v h' tk' p =>
    have k : ∀ b o, s.heap.get? b = some o → h'.get? b = some o := fun b o e => hb h' v p b o e (by simp)
    h v h' tk' (F.keptAll k) (N.grown k) (hb h' v p) p)
section
variable {w : World} {mean : ExcName → Option Value} {mg mb : Str → Option Value} {H : Heap}
theorem enter {A : Around} {s : Shared} {R : Result → Shared → Prop} {name qual : Str} {params : Arguments} {body : List Stmt} {scope : Scope} {dV kV doc pm cdv ct oc : Value} {an od : Option Addr} {osl : Array (Option Value)} {f : Addr} {args : Args} {binds : List (Str × Value)}
    (X : List Addr) (hX : ∀ b ∈ X, H.get? b = none) (hst : H.StaysIn s.heap) (B : Bs w mean mg mb H)
    (ho : (hd.heap_1 w.params).lookup f = some ⟨oc, od, .func (fnOf name qual params body scope dV kV doc pm an cdv ct), osl⟩) (hcd : codeIn (hd.heap_1 w.params) cdv qual = true) (hroom : A.depth < recursionLimit)
    (hbind : BindsTo s (fnOf name qual params body scope dV kV doc pm an cdv ct) args binds) (hloc : ∀ y ∈ binds, scope.names.lookup y.1 = some .local)
    (h : ∀ g L' h₁, Fr g L' h₁ (fun y => binds.reverse.lookup y) → (∀ p : Addr × Obj, p.1 ∈ X → s.heap.get? p.1 = some p.2 → News g L' h₁ [p]) → (hd.heap_1 w.params).In g → Top vw (looseW vw [Str.ofString "_law_kinds"]) mean mg mb g →
      H.StaysIn g → But X s.heap g → g = hideAll s.heap X →
      wpAny (model PySem.Challenge.rw_on0012_01.row.prog w) (A.deeper (envOf qual scope L' f cdv)) (execs body (envOf qual scope L' f cdv))
        (fun fl s' => R (.ok (.ret (match fl with | .ret v => v | _ => .none))) s') (fun _ _ => False)
        { s with heap := h₁, toks := s.toks + binds.length })
    (hco : scope.isCoroutine = false) (hgen : scope.isGenerator = false) (hk : scope.kind = .function)
    (hcell : ∀ x ∈ scope.names, x.2 ≠ .cell) : codeAny (model PySem.Challenge.rw_on0012_01.row.prog w) A (.call (.ref f) args) R s := by
  have st : H.StaysIn (hideAll s.heap X) := fun b o e => hideAll_get _ (hst b o e) fun q => by rw [hX b q] at e; cases e
  refine codeAny_call_def (fd := fnOf name qual params body scope dV kV doc pm an cdv ct) (body := body) (binds := binds) hroom (hst _ _ (B.k _ _ ho)) rfl ((B.t.nolimit).keeps hst) (codeRec_of (B.k.keeps hst) hcd) rfl hbind hcell hloc (fun h₁ hns hk₁ => ?_) hco hgen hk
  refine wpAny_mono (h (hideAll s.heap X) s.heap.objs.size h₁ ⟨hns, fun b o e => hk₁ b o (of_hideAll _ e), Nat.le_of_eq (hideAll_size _ _)⟩ (fun p hp e q hq => ?_) (B.k.keeps st) (B.t.keeps st) st (fun b o e n => hideAll_get _ e n) rfl) (fun _ _ x => x) fun _ _ x => x.elim
  rw [List.mem_singleton.mp hq]
  exact ⟨hk₁ _ _ e, Nat.ne_of_lt (Heap.lt_size e), hideAll_none _ hp⟩
end
/-- the same, nothing of the caller's turned -/
theorem enter0 {w : World} {mean : ExcName → Option Value} {mg mb : Str → Option Value} {H : Heap} {A : Around} {s : Shared} {R : Result → Shared → Prop} {name qual : Str} {params : Arguments} {body : List Stmt} {scope : Scope} {dV kV doc pm cdv ct oc : Value} {an od : Option Addr} {osl : Array (Option Value)} {f : Addr} {args : Args} {binds : List (Str × Value)}
    (hst : H.StaysIn s.heap) (B : Bs w mean mg mb H)
    (ho : (hd.heap_1 w.params).lookup f = some ⟨oc, od, .func (fnOf name qual params body scope dV kV doc pm an cdv ct), osl⟩) (hcd : codeIn (hd.heap_1 w.params) cdv qual = true) (hroom : A.depth < recursionLimit)
    (hbind : BindsTo s (fnOf name qual params body scope dV kV doc pm an cdv ct) args binds) (hloc : ∀ y ∈ binds, scope.names.lookup y.1 = some .local)
    (h : ∀ L' h₁, Fr s.heap L' h₁ (fun y => binds.reverse.lookup y) → News s.heap L' h₁ [] → (hd.heap_1 w.params).In s.heap → Top vw (looseW vw [Str.ofString "_law_kinds"]) mean mg mb s.heap →
      wpAny (model PySem.Challenge.rw_on0012_01.row.prog w) (A.deeper (envOf qual scope L' f cdv)) (execs body (envOf qual scope L' f cdv))
        (fun fl s' => R (.ok (.ret (match fl with | .ret v => v | _ => .none))) s') (fun _ _ => False)
        { s with heap := h₁, toks := s.toks + binds.length })
    (hco : scope.isCoroutine = false) (hgen : scope.isGenerator = false) (hk : scope.kind = .function)
    (hcell : ∀ x ∈ scope.names, x.2 ≠ .cell) : codeAny (model PySem.Challenge.rw_on0012_01.row.prog w) A (.call (.ref f) args) R s :=
  enter [] (fun _ h => (nomatch h)) hst B ho hcd hroom hbind hloc (fun g L' h₁ F _ X T _ _ e => by subst e; exact h L' h₁ F News.nil X T) hco hgen hk hcell
noncomputable abbrev tupO (vs : List Value) (n : Nat) : Obj := { cls := .type "tuple", data := .seq vs.toArray n }
mutual
inductive Rd (h : Heap) : Value → Dat → Prop
  | none : Rd h Value.none Dat.none
  | bool (b : Bool) : Rd h (Value.bool b) (Dat.bool b)
  | int (i : Int) (t : Tok) : Rd h (Value.int i t) (Dat.int i)
  | str (x : Str) (t : Tok) : Rd h (Value.str x t) (Dat.str x)
  | bytes (b : Array UInt8) (t : Tok) : Rd h (Value.bytes b t) (Dat.bytes b)
  | tuple {a : Addr} {vs : List Value} {n : Nat} {ds : List Dat} : h.get? a = some (tupO vs n) → vs.length < 1000 → RdA h vs ds → Rd h (Value.ref a) (Dat.tuple ds)
inductive RdA (h : Heap) : List Value → List Dat → Prop
  | nil : RdA h [] []
  | cons {v : Value} {vs : List Value} {d : Dat} {ds : List Dat} : Rd h v d → RdA h vs ds → RdA h (v :: vs) (d :: ds)
end
/-- what a datum's value is -/
inductive TupV (h : Heap) (v : Value) (ds : List Dat) : Prop
  | mk : ∀ (a : Addr) (vs : List Value) (n : Nat), v = .ref a → h.get? a = some (tupO vs n) → vs.length < 1000 → RdA h vs ds → TupV h v ds
theorem Rd.tupI {h : Heap} {v : Value} {ds : List Dat} (r : Rd h v (.tuple ds)) : TupV h v ds := by
  cases r with
  | tuple e l r => exact ⟨_, _, _, rfl, e, l, r⟩
inductive ConsV (h : Heap) (vs : List Value) (d : Dat) (ds : List Dat) : Prop
  | mk : ∀ (v : Value) (ws : List Value), vs = v :: ws → Rd h v d → RdA h ws ds → ConsV h vs d ds
theorem RdA.consI {h : Heap} {vs : List Value} {d : Dat} {ds : List Dat} (r : RdA h vs (d :: ds)) : ConsV h vs d ds := by
  cases r with
  | cons x y => exact ⟨_, _, rfl, x, y⟩
theorem RdA.nilI {h : Heap} {vs : List Value} (r : RdA h vs []) : vs = [] := by cases r; rfl
theorem Rd.strI {h : Heap} {v : Value} {x : Str} (r : Rd h v (.str x)) : ∃ t, v = .str x t := by cases r; exact ⟨_, rfl⟩
/-- a tuple of the ledger -/
theorem Rd.tupN {h₀ h : Heap} {L a : Addr} {news : List (Addr × Obj)} {vs : List Value} {n : Nat} {ds : List Dat} (N : News h₀ L h news) (m : (a, tupO vs n) ∈ news) (hz : Nat.ble (vs.length + 1) 1000 = true) (r : RdA h vs ds) : Rd h (Value.ref a) (Dat.tuple ds) := .tuple (N.get m) (Nat.le_of_ble_eq_true hz) r
/-- the tuples of h stand in h' -/
noncomputable def TLe (h h' : Heap) : Prop := ∀ a vs n, h.get? a = some (tupO vs n) → h'.get? a = some (tupO vs n)
mutual
theorem Rd.mono {h h' : Heap} (k : TLe h h') : ∀ {v : Value} {d : Dat}, Rd h v d → Rd h' v d
  | _, _, .none => .none
  | _, _, .bool b => .bool b
  | _, _, .int i t => .int i t
  | _, _, .str x t => .str x t
  | _, _, .bytes b t => .bytes b t
  | _, _, .tuple e l r => .tuple (k _ _ _ e) l (RdA.mono k r)
theorem RdA.mono {h h' : Heap} (k : TLe h h') : ∀ {vs : List Value} {ds : List Dat}, RdA h vs ds → RdA h' vs ds
  | _, _, .nil => .nil
  | _, _, .cons e r => .cons (Rd.mono k e) (RdA.mono k r)
end
theorem TLe.of {h h' : Heap} (k : ∀ b o, h.get? b = some o → h'.get? b = some o) : TLe h h' := fun _ _ _ e => k _ _ e
theorem Rd.fr {h₀ h : Heap} {L : Addr} {m : Str → Option Value} {v : Value} {d : Dat} (F : Fr h₀ L h m) (r : Rd h₀ v d) : Rd h v d := r.mono (TLe.of F.keep)
theorem RdA.fr {h₀ h : Heap} {L : Addr} {m : Str → Option Value} {v : List Value} {d : List Dat} (F : Fr h₀ L h m) (r : RdA h₀ v d) : RdA h v d := r.mono (TLe.of F.keep)
theorem RdA.get {h : Heap} : ∀ {vs : List Value} {ds : List Dat} {i : Nat} {v : Value}, RdA h vs ds → vs[i]? = some v → ∃ d, ds[i]? = some d ∧ Rd h v d
  | _, _, 0, _, .cons r _, e => by cases e; exact ⟨_, rfl, r⟩
  | _, _, i + 1, _, .cons _ r, e => by simpa using RdA.get (i := i) r (by simpa using e)
theorem RdA.length {h : Heap} : ∀ {vs : List Value} {ds : List Dat}, RdA h vs ds → vs.length = ds.length
  | [], _, e => by cases e; rfl
  | v :: vs, _, e => by cases e with | cons _ r => simp [r.length]
theorem call_sp1 {w : World} {H h₀ : Heap} {f : Addr} {dk uk : Nat} {d : Dat} {Out : Value → Prop} {A : Around} {E : Value → Shared → Prop} {Q : Value → Shared → Prop} {s : Shared} {v : Value} {L : Addr} {m : Str → Option Value} {news : List (Addr × Obj)}
    (r : Rd h₀ v d) (S : Sp w H f dk uk (fun h args => ∃ v, args = [v] ∧ Rd h v d) (fun h _ h' r => Out r ∧ But [] h h')) (F : Fr h₀ L s.heap m) (N : News h₀ L s.heap news) (hst : H.StaysIn h₀) (hh : A.handled = none) (hg : A.guards = some []) (hd : A.depth + dk < recursionLimit) (hu : A.units + uk < cLine)
    (h : ∀ r h' tk', Fr h₀ L h' m → News h₀ L h' news → But [] s.heap h' → Out r ∧ But [] s.heap h' → Q r { s with heap := h', toks := tk' }) :
    wpAny (model PySem.Challenge.rw_on0012_01.row.prog w) A (call (.ref f) [v]) Q E s :=
  call_sp S F N hst hh hg hd hu ⟨_, rfl, r.fr F⟩ (fun _ _ p => p.2) h
section
variable {prog : Program} {w : World} {A : Around} {E : Value → Shared → Prop} {s : Shared} {h₀ : Heap} {L a : Addr} {m : Str → Option Value} {vs : List Value} {n : Nat} {news : List (Addr × Obj)}
theorem T_isi {Q : Value → Shared → Prop} (F : Fr h₀ L s.heap m) (e : h₀.get? a = some (tupO vs n)) (h : Q (.bool true) s) : wpAny (model prog w) A (call (.builtin "isinstance") [.ref a, .type "tuple"]) Q E s :=
  IsiPair.isTuple_tuple ⟨_, e, rfl, n, rfl⟩ F.keep h
theorem T_isi_bool {Q : Value → Shared → Prop} (F : Fr h₀ L s.heap m) (e : h₀.get? a = some (tupO vs n)) (h : Q (.bool false) { s with toks := s.toks + 1 }) : wpAny (model prog w) A (call (.builtin "isinstance") [.ref a, .type "bool"]) Q E s :=
  IsiPair.isTuple_bool ⟨_, e, rfl, n, rfl⟩ F.keep h
theorem T_isi_bytes {Q : Value → Shared → Prop} (F : Fr h₀ L s.heap m) (e : h₀.get? a = some (tupO vs n)) (h : Q (.bool false) { s with toks := s.toks + 1 }) : wpAny (model prog w) A (call (.builtin "isinstance") [.ref a, .type "bytes"]) Q E s :=
  IsiPair.isTuple_bytes ⟨_, e, rfl, n, rfl⟩ F.keep h
theorem T_isi_int {Q : Value → Shared → Prop} (F : Fr h₀ L s.heap m) (e : h₀.get? a = some (tupO vs n)) (h : Q (.bool false) { s with toks := s.toks + 1 }) : wpAny (model prog w) A (call (.builtin "isinstance") [.ref a, .type "int"]) Q E s :=
  IsiPair.isTuple_int ⟨_, e, rfl, n, rfl⟩ F.keep h
theorem T_isi_str {Q : Value → Shared → Prop} (F : Fr h₀ L s.heap m) (e : h₀.get? a = some (tupO vs n)) (h : Q (.bool false) { s with toks := s.toks + 1 }) : wpAny (model prog w) A (call (.builtin "isinstance") [.ref a, .type "str"]) Q E s :=
  IsiPair.isTuple_str ⟨_, e, rfl, n, rfl⟩ F.keep h
theorem T_item {value slice : Expr} {k : Int} {u : Tok} {j : Nat} {v : Value} {Q : Value → Shared → Prop} (F : Fr h₀ L s.heap m) (e : h₀.get? a = some (tupO vs n))
    (hlo : -(2 ^ 63) ≤ k) (hhi : k < 2 ^ 63) (hj : seqIndex? k vs.length = some j) (hx : vs[j]? = some v) (h : Q v s)
    (hs : subscripted slice false (.ref a) (.int k u) = operate [.ref a, .int k u] (getItem (.ref a) (.int k u)) := by with_unfolding_all rfl) :
    wpAny (model prog w) A (subscriptTail value slice (.ref a) (.int k u)) Q E s := item_tupleT ⟨_, F.keep _ _ e, rfl, n, rfl⟩ hlo hhi hj hx h hs
theorem T_item0 {value slice : Expr} {u : Tok} {v : Value} {Q : Value → Shared → Prop} (F : Fr h₀ L s.heap m) (e : h₀.get? a = some (tupO (v :: vs) n)) (h : Q v s)
    (hs : subscripted slice false (.ref a) (.int 0 u) = operate [.ref a, .int 0 u] (getItem (.ref a) (.int 0 u)) := by with_unfolding_all rfl) :
    wpAny (model prog w) A (subscriptTail value slice (.ref a) (.int 0 u)) Q E s := item_tupleT ⟨_, F.keep _ _ e, rfl, n, rfl⟩ (by decide) (by decide) (show seqIndex? 0 (v :: vs).length = some 0 by simp [seqIndex?]) rfl h hs
theorem T_item1 {value slice : Expr} {u : Tok} {v v0 : Value} {Q : Value → Shared → Prop} (F : Fr h₀ L s.heap m) (e : h₀.get? a = some (tupO (v0 :: v :: vs) n)) (h : Q v s)
    (hs : subscripted slice false (.ref a) (.int 1 u) = operate [.ref a, .int 1 u] (getItem (.ref a) (.int 1 u)) := by with_unfolding_all rfl) :
    wpAny (model prog w) A (subscriptTail value slice (.ref a) (.int 1 u)) Q E s := item_tupleT ⟨_, F.keep _ _ e, rfl, n, rfl⟩ (by decide) (by decide) (show seqIndex? 1 (v0 :: v :: vs).length = some 1 by simp [seqIndex?]; omega) rfl h hs
theorem T_item2 {value slice : Expr} {u : Tok} {v v0 v1 : Value} {Q : Value → Shared → Prop} (F : Fr h₀ L s.heap m) (e : h₀.get? a = some (tupO (v0 :: v1 :: v :: vs) n)) (h : Q v s)
    (hs : subscripted slice false (.ref a) (.int 2 u) = operate [.ref a, .int 2 u] (getItem (.ref a) (.int 2 u)) := by with_unfolding_all rfl) :
    wpAny (model prog w) A (subscriptTail value slice (.ref a) (.int 2 u)) Q E s := item_tupleT ⟨_, F.keep _ _ e, rfl, n, rfl⟩ (by decide) (by decide) (show seqIndex? 2 (v0 :: v1 :: v :: vs).length = some 2 by simp [seqIndex?]; omega) rfl h hs
theorem T_len {Q : Value → Shared → Prop} (F : Fr h₀ L s.heap m) (e : h₀.get? a = some (tupO vs n)) (hl : vs.length < 1000) (h : Q (.int vs.length (s.toks + 1)) { s with toks := s.toks + 1 + 1 }) :
    wpAny (model prog w) A (call (.builtin "len") [.ref a]) Q E s := len_tuple ⟨_, F.keep _ _ e, rfl, n, rfl⟩ (by simp; omega) (by simpa using h)
theorem T_eq_nil {b : Addr} {k : Nat} {Q : Value → Shared → Prop} (F : Fr h₀ L s.heap m) (e : h₀.get? a = some (tupO vs n)) (N : News h₀ L s.heap news) (hb : (b, tupO [] k) ∈ news) (hu : A.units < cLine) (h : Q (.bool vs.isEmpty) s) :
    wpAny (model prog w) A (compareOp .Eq (.ref a) (.ref b)) Q E s := by
  refine cmp_ofEq (RcAt.tuples (e := fun _ => true) (items := vs.toArray) (items2 := #[]) ⟨_, F.keep _ _ e, rfl, n, rfl⟩ ⟨_, N.get hb, rfl, k, rfl⟩ hu (fun j _ h2 => absurd h2 (by simp)) prog w E Q ?_)
  cases vs with
  | nil => simpa using h
  | cons v vs => simpa using h
theorem T_eq_str {x : Str} {t : Tok} {Q : Value → Shared → Prop} (F : Fr h₀ L s.heap m) (e : h₀.get? a = some (tupO vs n)) (hu : A.units < cLine) (h : Q (.bool false) s) :
    wpAny (model prog w) A (compareOp .Eq (.ref a) (.str x t)) Q E s :=
  cmp_ofEq (RcAt.tuple_str x t ⟨_, F.keep _ _ e, rfl, n, rfl⟩ hu prog w E Q h)
end
theorem fill_ (w : World) (h : Heap) (x : (hd.heap_1 w.params).In h ∧ PySem.Challenge.rw_on0012_01.row.prog = PySem.Challenge.rw_on0012_01.row.prog) : (hd.heap_1 w.params).In h ∧ PySem.Challenge.rw_on0012_01.row.prog = PySem.Challenge.rw_on0012_01.row.prog := by
  k_fill
  exact x
end Mine
-- B2
namespace Mine
/-- what stands through a block: what was there ahead of it (below n), and every tuple; not what is in X -/
noncomputable def Stay (n : Nat) (X : List Addr) (h h' : Heap) : Prop := ∀ b o, h.get? b = some o → b ∉ X → (b < n ∨ ∃ vs k, o = tupO vs k) → h'.get? b = some o
theorem Stay.trans {n : Nat} {X : List Addr} {h h' h'' : Heap} (a : Stay n X h h') (b : Stay n X h' h'') : Stay n X h h'' := fun x o e n c => b x o (a x o e n c) n c
/-- what stands at each turn of a block: the list at D, the frame at C -/
inductive BlkI (s₂ : Shared) (St : Nat → Heap → Prop) (D C : Addr) (Inv : Nat → List Value → Heap → Prop) (n : Nat) (K : Heap → Prop) (k : Nat) (s' : Shared) : Prop
  | mk : ∀ (h' : Heap) (tk : Nat) (m' : Str → Option Value) (ys : List Value), s' = { s₂ with heap := h', toks := tk } → St ys.length h' → h'.PlainList D ys.toArray → h'.Ns C m' → Inv ys.length ys h' → ys.length ≤ n → k = n + 1 - ys.length → K h' → BlkI s₂ St D C Inv n K k s'
inductive BlkT (s₂ : Shared) (St : Nat → Heap → Prop) (D C : Addr) (I : Nat → List Value → Prop) (n : Nat) (K : Heap → Prop) (k : Nat) (s' : Shared) : Prop
  | mk : ∀ (i : Nat) (h' : Heap) (tk : Nat) (m' : Str → Option Value) (ys : List Value), s' = { s₂ with heap := h', toks := tk } → St i h' → h'.PlainList D ys.toArray → h'.Ns C m' → I i ys → i ≤ n → k = n + 1 - i → K h' → BlkT s₂ St D C I n K k s'
/-- a block's ground: what is walked, what may turn, the invariant -/
inductive GenP (prog : Program) (w : World) (A : Around) (env : Env) (scope : Scope) (cl : List (Str × Addr)) (x : Str) (elt : Expr) (Q : Value → Shared → Prop) (it : Value) (s₂ : Shared) : Prop
  | mk : ∀ I fp wr n P St, ∀ (X : List Addr) (Inv : Nat → List Value → Heap → Prop) (n₁ : Nat), (it = .ref I) → (Walks prog w A I fp wr n P St) → (n₁ ≤ s₂.heap.objs.size) → ((∀ b ∈ wr, n₁ ≤ b)) → ((∀ i h, St i h → ∀ b ∈ wr, ∀ vs k, h.get? b ≠ some (tupO vs k))) → (n ≤ sizeLine) → (St 0 s₂.heap) → ((∀ b ∈ fp, b < s₂.heap.objs.size)) → ((∀ b ∈ X, b < s₂.heap.objs.size ∧ b ∉ fp)) → (Inv 0 [] s₂.heap) → ((∀ i ys h h', Stay n₁ [] h h' → Inv i ys h → Inv i ys h')) → ((∀ C i v ys s₃ m₃ E', i < n → P i v → ys.length = i → Inv i ys s₃.heap → s₃.heap.Ns C m₃ → m₃ x = some v → s₂.heap.objs.size ≤ C → (∀ b o, b ∉ wr → b ∉ X → s₂.heap.get? b = some o → s₃.heap.get? b = some o) → wpAny (model prog w) A (eval elt (compEnvC scope cl C env)) (fun y s₄ => (∃ h' tk', s₄ = { s₃ with heap := h', toks := tk' }) ∧ But X s₃.heap s₄.heap ∧ Inv (i + 1) (ys ++ [y]) s₄.heap) E' s₃)) → ((∀ D h' tk ys k, s₂.heap.get? D = none → h'.get? D = some (listOf ys.toArray k) → ys.length = n → Inv n ys h' → (∀ b o, b ∉ wr → b ∉ X → s₂.heap.get? b = some o → h'.get? b = some o) → Q (.ref D) { s₂ with heap := h', toks := tk })) → GenP prog w A env scope cl x elt Q it s₂
section
variable {prog : Program} {w : World} {A : Around} {E : Value → Shared → Prop} {env : Env}
theorem comp_gen {s : Shared} {elt iter : Expr} {x : Str} {px : Pos} {scope : Scope} {cl : List (Str × Addr)} {pos : Pos} {Q : Value → Shared → Prop}
    (hclos : closureFor scope env = pure cl) (hcell : ∀ y ∈ scope.names, y.2 ≠ .cell) (hkind : scope.kind = .function)
    (hnames : ∀ y ∈ scope.names, y.2 = .local → scope.names.lookup y.1 = some .local) (hx : scope.names.lookup x = some .local)
    (h : wpAny (model prog w) A (eval iter env) (fun xv s₁ => wpAny (model prog w) A (pyIter xv) (GenP prog w A env scope cl x elt Q) E s₁) E s)
    (hs : ∀ x, foldedSetIterable iter env x = pure x := by intro _; rfl) :
    wpAny (model prog w) A (eval (.ListComp elt [⟨.Name x px, iter, [], 0⟩] scope pos) env) Q E s := by
  rw [eval_ListComp]
  refine wpAny_comprehension_free (use := none) rfl hs hclos hkind hnames (wpAny_mono h (fun xv s₁ h₁ => wpAny_mono h₁ (fun it s₂ h₂ => ?_) fun _ _ e => e) fun _ _ e => e)
  obtain ⟨I, fp, wr, n, P, St, X, Inv, n₁, rfl, W, hn1, hwn, hnt, hsz, hst, hfp, hX, hi0, hstab, helt, hQ⟩ := h₂
  refine wpAny_newObj_type (wpAny_newFunctionEnv hcell (by intro y hy; simp at hy) (fun h₁ hns₁ hsb₁ => ?_) hkind)
  dsimp only at hns₁ hsb₁ ⊢
  generalize hH2 : s₂.heap.push { cls := .type "list", dict := none, data := .seq ([] : List Value).toArray } = H2 at hns₁ hsb₁ ⊢
  have hC : H2.objs.size = s₂.heap.objs.size + 1 := by rw [← hH2, Heap.size_push]
  have hDC : s₂.heap.objs.size ≠ H2.objs.size := by rw [hC]; exact Nat.ne_of_lt (Nat.lt_succ_self _)
  have hCle : s₂.heap.objs.size ≤ H2.objs.size := by rw [hC]; exact Nat.le_succ _
  have below : ∀ b, b < s₂.heap.objs.size → b ≠ H2.objs.size ∧ b ≠ s₂.heap.objs.size := fun b hb => ⟨by rw [hC]; exact Nat.ne_of_lt (Nat.lt_succ_of_lt hb), Nat.ne_of_lt hb⟩
  have hDf : s₂.heap.objs.size ∉ fp := fun hm => Nat.lt_irrefl _ (hfp _ hm)
  have hCf : H2.objs.size ∉ fp := fun hm => by have := hfp _ hm; rw [hC] at this; exact Nat.lt_irrefl _ (Nat.lt_of_succ_lt this)
  have hDX : s₂.heap.objs.size ∉ X := fun hm => Nat.lt_irrefl _ (hX _ hm).1
  have hCX : H2.objs.size ∉ X := fun hm => by have := (hX _ hm).1; rw [hC] at this; exact Nat.lt_irrefl _ (Nat.lt_of_succ_lt this)
  have hfX : ∀ b ∈ fp, b ∉ X := fun b hb hm => (hX b hm).2 hb
  have old : ∀ b o, s₂.heap.get? b = some o → h₁.get? b = some o := fun b o e => hsb₁.extBut b o (below b (Heap.lt_size e)).1 (Heap.get?_push_of_some _ (hH2 ▸ Heap.get?_push_of_some _ e))
  have hacc : h₁.PlainList s₂.heap.objs.size #[] := ⟨_, hsb₁.extBut _ _ hDC (Heap.get?_push_of_some _ (hH2 ▸ Heap.get?_push_size _ rfl))⟩
  have hst₁ : St 0 h₁ := W.frame _ _ _ hst fun b _ o e => old b o e
  have fresh : ∀ a, s₂.heap.objs.size ≤ a → s₂.heap.get? a = none := fun a ha => by
    cases e : s₂.heap.get? a with
    | none => rfl
    | some o' => exact absurd (Heap.lt_size e) (Nat.not_lt.mpr ha)
  have hi1 : Inv 0 [] h₁ := hstab 0 [] _ _ (fun b o e _ _ => old b o e) hi0
  refine codeAny_compStart_list ?key (W.self 0 _ _ _ hst₁ ?key)
  all_goals (
    show codeAny _ _ (.compLoop _ _ _ _ (compEnvC scope cl H2.objs.size env)) _ _
    refine codeAny_compLoop_tests
      (BlkI s₂ St s₂.heap.objs.size H2.objs.size Inv n (fun h' => ∀ b o, b < s₂.heap.objs.size → b ∉ wr → b ∉ X → s₂.heap.get? b = some o → h'.get? b = some o)) ?_ (n + 1)
      ⟨h₁, _, _, [], rfl, hst₁, hacc, hns₁, hi1, Nat.zero_le _, rfl, fun b o _ _ _ e => old b o e⟩
    rintro k s' ⟨H, tk, m', ys, rfl, hst', hacc', hn', hI, hi, rfl, hk⟩
    have hCw : H2.objs.size ∉ wr := fun h => hCf (W.sub _ h)
    have hDw : s₂.heap.objs.size ∉ wr := fun h => hDf (W.sub _ h)
    by_cases hlt : ys.length < n
    · refine W.item ys.length _ _ _ hlt hst' fun v h₂ tk₂ hPv hst₂ hk₂ => ?_
      refine wpAny_assign_Name (wpAny_storeName_local (lookup_relabel_local hx) (hn'.at' fun o e => hk₂ _ o hCw e) (fun h₃ hn₃ hs₃ => ?_) (by simp [compEnvC, relabel, hkind]))
      have up₃ : ∀ b o, b ≠ H2.objs.size → b ∉ wr → H.get? b = some o → h₃.get? b = some o := fun b o hbC hbf e => hs₃.extBut b o hbC (hk₂ b o hbf e)
      have hst₃ : St (ys.length + 1) h₃ := W.frame _ _ _ hst₂ fun b hb o e => hs₃.extBut b o (fun (h : b = H2.objs.size) => hCf (h ▸ hb)) e
      refine wpAny_tests_nil ?_
      simp only [if_true]
      obtain ⟨oC, esC, epC, hoC, hcC, _⟩ := id hn'
      have hI₃ : Inv ys.length ys h₃ := by
        refine hstab _ _ _ _ (fun b o e _ hc => ?_) hI
        have hb : b ∉ wr := fun hb => by
          rcases hc with hc | ⟨vs9, k9, rfl⟩
          · exact absurd hc (Nat.not_lt.mpr (hwn b hb))
          · exact hnt _ _ hst' b hb _ _ e
        refine up₃ b o (fun q => ?_) hb e
        subst q
        rcases hc with hc | hc
        · exact absurd (Nat.lt_of_lt_of_le hc hn1) (by rw [hC]; exact Nat.not_lt.mpr (Nat.le_succ _))
        · obtain ⟨vs9, k9, rfl⟩ := hc
          have q9 := hoC.symm.trans e
          rw [Option.some.inj q9] at hcC; cases hcC
      refine wpAny_mono (helt H2.objs.size ys.length v ys _ _ _ hlt hPv rfl hI₃ hn₃ (by simp) hCle (fun b o hbw hbX e => up₃ b o (below b (Heap.lt_size e)).1 hbw (hk b o (Heap.lt_size e) hbw hbX e))) (fun y s₄ h₄ => ?_) fun _ _ e => e
      obtain ⟨⟨h₄, tk₄, rfl⟩, hbut, hI₄⟩ := h₄
      have hacc₃ : h₃.PlainList s₂.heap.objs.size ys.toArray := hacc'.at fun o e => up₃ _ o hDC hDw e
      refine wpAny_list_append_plain (hsz := by simp; omega) (hacc₃.at fun o e => hbut _ o e hDX) fun h₅ hl₅ hs₅ => ?_
      refine ⟨n + 1 - (ys.length + 1), by omega, h₅, tk₄, _, ys ++ [y], rfl, ?_, by simpa using hl₅, (hn₃.at' fun o e => hbut _ o e hCX).sameBut hs₅ (Ne.symm hDC), ?_, by simp; omega, by simp, fun b o hb hbw hbX e => ?_⟩
      · have := W.frame _ _ h₅ hst₃ fun b hb o e => hs₅.extBut b o (fun h => hDf (h ▸ hb)) (hbut b o e (hfX b hb))
        simpa using this
      · rw [List.length_append, List.length_singleton]
        refine hstab _ _ _ _ (fun b o e hb hc => hs₅.extBut b o (fun q => ?_) e) hI₄
        subst q
        rcases hc with hc | hc
        · exact absurd (Nat.lt_of_lt_of_le hc hn1) (Nat.lt_irrefl _)
        · obtain ⟨k5, e5⟩ := hacc₃.at fun o e => hbut _ o e hDX
          obtain ⟨vs9, k9, rfl⟩ := hc
          rw [e5] at e
          exact absurd (congrArg Obj.cls (Option.some.inj e)) (by simp)
      · exact hs₅.extBut b o (below b hb).2 (hbut b o (up₃ b o (below b hb).1 hbw (hk b o hb hbw hbX e)) hbX)
    · have hin : ys.length = n := by omega
      refine W.done _ _ _ (hin ▸ hst') fun h₂ tk₂ hk₂ => ?_
      refine ⟨m', hn'.at' fun o e => hk₂ _ o hCw e, fun h'' hs'' => ?_⟩
      obtain ⟨kd, ed⟩ := hacc'.at fun o e => hk₂ _ o hDw e
      obtain ⟨oC, esC, epC, hoC, hcC, _⟩ := id hn'
      refine hQ _ h'' tk₂ ys kd (fresh _ (Nat.le_refl _)) (hs''.extBut _ _ hDC ed) hin ?_ fun b o hbw hbX e => hs''.extBut b o (below b (Heap.lt_size e)).1 (hk₂ b o hbw (hk b o (Heap.lt_size e) hbw hbX e))
      rw [← hin]
      refine hstab _ _ _ _ (fun b o e _ hc => hs''.extBut b o (fun q => ?_) (hk₂ b o (fun hb => by
          rcases hc with hc | ⟨vs9, k9, rfl⟩
          · exact absurd hc (Nat.not_lt.mpr (hwn b hb))
          · exact hnt _ _ hst' b hb _ _ e) e)) hI
      subst q
      rcases hc with hc | hc
      · exact absurd (Nat.lt_of_lt_of_le hc hn1) (by rw [hC]; exact Nat.not_lt.mpr (Nat.le_succ _))
      · obtain ⟨vs9, k9, rfl⟩ := hc
        have q9 := hoC.symm.trans e
        rw [Option.some.inj q9] at hcC; cases hcC)
/-- xv can be walked: n items, the i-th as P says; only new objects turn -/
noncomputable def IterOk (prog : Program) (w : World) (A : Around) (xv : Value) (n : Nat) (P : Nat → Value → Prop) (base : List Addr) (s₁ : Shared) : Prop :=
  ∀ (Q : Value → Shared → Prop) (E : Value → Shared → Prop),
    (∀ I fp wr St h₂, Walks prog w A I fp wr n P St → St 0 h₂ → (∀ b ∈ fp, b < h₂.objs.size) → (∀ b ∈ wr, s₁.heap.objs.size ≤ b) → s₁.heap.objs.size ≤ h₂.objs.size →
      (∀ b ∈ fp, b ∈ wr ∨ b ∈ base) → (∀ i h, St i h → ∀ b ∈ wr, ∀ vs k, h.get? b ≠ some (tupO vs k)) → (∀ b o, s₁.heap.get? b = some o → h₂.get? b = some o) → Q (.ref I) { s₁ with heap := h₂ }) → wpAny (model prog w) A (pyIter xv) Q E s₁
theorem IterOk.tuple {s : Shared} {a : Addr} {vs : List Value} {n : Nat} (hh : A.handled = none) (e : s.heap.get? a = some (tupO vs n)) : IterOk prog w A (.ref a) vs.length (fun i v => vs[i]? = some v) [a] s := by
  intro Q E h
  have hlt := Heap.lt_size e
  refine wpAny_pyIter_tuple (items := vs.toArray) ⟨_, e, rfl, n, rfl⟩ ?_
  have W := Walks.tuple (prog := prog) (w := w) hh s.heap.objs.size a (Nat.ne_of_lt hlt) vs.toArray
  refine h _ [s.heap.objs.size, a] [s.heap.objs.size] (fun i h => h.IsTupleIter s.heap.objs.size a i ∧ h.IsTuple a vs.toArray) _ (by simpa using W) ⟨⟨_, Heap.get?_push_size _ rfl, rfl, rfl⟩, ⟨_, Heap.get?_push_of_some _ e, rfl, n, rfl⟩⟩ ?_ ?_ ?_ ?_ ?_ fun b o e => Heap.get?_push_of_some _ e
  · intro b hb; rw [Heap.size_push]; simp at hb; rcases hb with rfl | rfl; exact Nat.lt_succ_self _; exact Nat.lt_succ_of_lt hlt
  · intro b hb; simp at hb; subst hb; exact Nat.le_refl _
  · rw [Heap.size_push]; exact Nat.le_succ _
  · intro b hb; simpa using hb
  · rintro i h' ⟨⟨o, ho, hc, _⟩, _⟩ b hb vs k q
    simp at hb; subst hb; rw [ho] at q; rw [Option.some.inj q] at hc; simp at hc
theorem IterOk.list {s : Shared} {a : Addr} {vs : List Value} (hh : A.handled = none) (e : s.heap.IsList a vs.toArray) : IterOk prog w A (.ref a) vs.length (fun i v => vs[i]? = some v) [a] s := by
  intro Q E h
  obtain ⟨o, ho, r⟩ := id e
  have hlt := Heap.lt_size ho
  refine wpAny_pyIter_list (items := vs.toArray) e ?_
  have W := Walks.list (prog := prog) (w := w) hh s.heap.objs.size a (Nat.ne_of_lt hlt) vs.toArray
  refine h _ [s.heap.objs.size, a] [s.heap.objs.size] (fun i h => h.IsListIter s.heap.objs.size a i ∧ h.IsList a vs.toArray) _ (by simpa using W) ⟨⟨_, Heap.get?_push_size _ rfl, rfl, rfl⟩, ⟨_, Heap.get?_push_of_some _ ho, r⟩⟩ ?_ ?_ ?_ ?_ ?_ fun b o e => Heap.get?_push_of_some _ e
  · intro b hb; rw [Heap.size_push]; simp at hb; rcases hb with rfl | rfl; exact Nat.lt_succ_self _; exact Nat.lt_succ_of_lt hlt
  · intro b hb; simp at hb; subst hb; exact Nat.le_refl _
  · rw [Heap.size_push]; exact Nat.le_succ _
  · intro b hb; simpa using hb
  · rintro i h' ⟨⟨o, ho, hc, _⟩, _⟩ b hb vs k q
    simp at hb; subst hb; rw [ho] at q; rw [Option.some.inj q] at hc; simp at hc
theorem IterOk.range {s : Shared} {r : Addr} {k : Nat} {t u v : Tok} (hh : A.handled = none) (hr : IsRange s.heap r 0 (k : Int) 1 t u v) (hk : k < 2 ^ 20) : IterOk prog w A (.ref r) k (fun i v => ∃ t, v = .int (i : Nat) t) [] s := by
  intro Q E h
  have hsz : Builtin.Range.rangeSize 0 (k : Int) 1 = (k : Int) := by unfold Builtin.Range.rangeSize; rw [if_pos (by decide)]; split <;> omega
  refine wpAny_pyIter_range hr ?_ ?_
  · have q : ∀ i : Int, -(2 ^ 21) ≤ i → i ≤ 2 ^ 21 → Builtin.Range.rangeFitsLong i = true := by
      intro i h1 h2
      unfold Builtin.Range.rangeFitsLong
      simp only [Bool.and_eq_true, decide_eq_true_eq]
      constructor <;> omega
    unfold Builtin.Range.small
    rw [hsz, q 0 (by decide) (by decide), q k (by omega) (by omega), q 1 (by decide) (by decide), if_pos (by decide), q ((k : Int) + (1 - 1)) (by omega) (by omega)]
    simp
  rw [hsz]
  have W := Walks.range (prog := prog) (w := w) hh s.heap.objs.size 0 1 k
  refine h _ [s.heap.objs.size] [s.heap.objs.size] _ _ (by simpa only [Int.zero_add, Int.mul_one] using W) ?_ ?_ ?_ ?_ ?_ ?_ fun b o e => Heap.get?_push_of_some _ e
  · have q : (s.heap.push { cls := .type "range_iterator", data := .fields #[rawInt 0, rawInt (k : Int), rawInt 1] }).get? s.heap.objs.size = some _ := Heap.get?_push_size _ rfl
    simpa [IsRangeIter] using q
  · intro b hb; rw [Heap.size_push]; simp at hb; subst hb; exact Nat.lt_succ_self _
  · intro b hb; simp at hb; subst hb; exact Nat.le_refl _
  · rw [Heap.size_push]; exact Nat.le_succ _
  · intro b hb; exact .inl hb
  · intro i h' st b hb vs k q
    simp at hb; subst hb; unfold IsRangeIter at st; rw [st] at q; have q9 := congrArg Obj.cls (Option.some.inj q); simp at q9
noncomputable def EltEnd (X : List Addr) (s₃ : Shared) (G : Value → Heap → Prop) (y : Value) (s₄ : Shared) : Prop := (∃ h' tk', s₄ = { s₃ with heap := h', toks := tk' }) ∧ But X s₃.heap s₄.heap ∧ G y s₄.heap
theorem EltEnd.intro {X : List Addr} {s₃ : Shared} {G : Value → Heap → Prop} {y : Value} {h' : Heap} {tk' : Nat} (b : But X s₃.heap h') (g : G y h') : EltEnd X s₃ G y { s₃ with heap := h', toks := tk' } := ⟨⟨_, _, rfl⟩, b, g⟩
inductive CompP (prog : Program) (w : World) (A : Around) (env : Env) (scope : Scope) (cl : List (Str × Addr)) (x : Str) (elt : Expr) (h₀ : Heap) (L : Addr) (m : Str → Option Value) (X : List Addr) (Q : Value → Shared → Prop) (xv : Value) (s₁ : Shared) : Prop
  | mk : ∀ n P base news, ∀ (Inv : Nat → List Value → Heap → Prop), (IterOk prog w A xv n P base s₁) → (n ≤ sizeLine) → ((∀ b ∈ base, b ∉ X)) → ((∀ b ∈ X, b < s₁.heap.objs.size)) → (L ∉ X) → ((∀ b ∈ X, h₀.get? b = none)) → (Fr h₀ L s₁.heap m) → (News h₀ L s₁.heap news) → ((∀ p ∈ news, p.1 ∉ X)) → (Inv 0 [] s₁.heap) → ((∀ i ys h h', Stay s₁.heap.objs.size [] h h' → Inv i ys h → Inv i ys h')) → ((∀ C i v ys s₃ m₃ E', i < n → P i v → ys.length = i → Inv i ys s₃.heap → s₃.heap.Ns C m₃ → m₃ x = some v → s₁.heap.objs.size ≤ C → But X s₁.heap s₃.heap → Fr h₀ L s₃.heap m → News h₀ L s₃.heap news → wpAny (model prog w) A (eval elt (compEnvC scope cl C env)) (EltEnd X s₃ fun y h' => Inv (i + 1) (ys ++ [y]) h') E' s₃)) → ((∀ D h' tk ys k, (∀ p ∈ news, p.1 ≠ D) → Fr h₀ L h' m → News h₀ L h' ((D, listOf ys.toArray k) :: news) → s₁.heap.get? D = none → ys.length = n → Inv n ys h' → But X s₁.heap h' → Q (.ref D) { s₁ with heap := h', toks := tk })) → CompP prog w A env scope cl x elt h₀ L m X Q xv s₁
theorem comp_K {s : Shared} {elt iter : Expr} {x : Str} {px : Pos} {scope : Scope} {cl : List (Str × Addr)} {pos : Pos} {Q : Value → Shared → Prop} {h₀ : Heap} {L : Addr} {m : Str → Option Value} (X : List Addr)
    (hclos : closureFor scope env = pure cl) (hcell : ∀ y ∈ scope.names, y.2 ≠ .cell) (hkind : scope.kind = .function)
    (hnames : ∀ y ∈ scope.names, y.2 = .local → scope.names.lookup y.1 = some .local) (hx : scope.names.lookup x = some .local)
    (_F : Fr h₀ L s.heap m) (h : wpAny (model prog w) A (eval iter env) (CompP prog w A env scope cl x elt h₀ L m X Q) E s)
    (hs : ∀ x, foldedSetIterable iter env x = pure x := by intro _; rfl) :
    wpAny (model prog w) A (eval (.ListComp elt [⟨.Name x px, iter, [], 0⟩] scope pos) env) Q E s := by
  refine comp_gen hclos hcell hkind hnames hx (wpAny_mono h (fun xv s₁ h₁ => ?_) fun _ _ e => e) hs
  obtain ⟨n, P, base, news, Inv, hit, hn, hbX, hXl, hLX, hX0, F, N, hNX, hi0, hstab, helt, hQ⟩ := h₁
  refine hit _ _ fun I fp wr St h₂ W hst hfp hwr hsz hfb hnt hk => ?_
  have hwl : ∀ b o, s₁.heap.get? b = some o → b ∉ wr := fun b o e q => absurd (Heap.lt_size e) (Nat.not_lt.mpr (hwr b q))
  have lift : ∀ h₃ : Heap, (∀ b o, b ∉ wr → b ∉ X → h₂.get? b = some o → h₃.get? b = some o) → But X s₁.heap h₃ := fun h₃ k b o e hb => k b o (hwl b o e) hb (hk b o e)
  have FX : ∀ h₃ : Heap, But X s₁.heap h₃ → Fr h₀ L h₃ m := fun h₃ k => by
    obtain ⟨oL, es, ep, hL, a3⟩ := F.ns
    refine ⟨⟨oL, es, ep, k _ _ hL hLX, a3⟩, fun b o e => k b o (F.keep b o e) fun q => ?_, F.above⟩
    rw [hX0 b q] at e; cases e
  have NX : ∀ h₃ : Heap, But X s₁.heap h₃ → News h₀ L h₃ news := fun h₃ k p hp => ⟨k _ _ (N p hp).1 (hNX p hp), (N p hp).2⟩
  refine ⟨I, fp, wr, n, P, St, X, Inv, s₁.heap.objs.size, rfl, W, hsz, hwr, hnt, hn, hst, hfp, ?_, hstab 0 [] _ _ (fun b o e _ _ => hk b o e) hi0, hstab, ?_, ?_⟩
  · intro b hb
    refine ⟨Nat.lt_of_lt_of_le (hXl b hb) hsz, fun q => ?_⟩
    rcases hfb b q with q | q
    · exact absurd (hXl b hb) (Nat.not_lt.mpr (hwr b q))
    · exact hbX b q hb
  · intro C i v ys s₃ m₃ E' hi hp hl hI hns hm hC k
    have kb := lift _ k
    exact helt C i v ys s₃ m₃ E' hi hp hl hI hns hm (Nat.le_trans hsz hC) kb (FX _ kb) (NX _ kb)
  · intro D h' tk ys k hD hd hl hI hk'
    have kb := lift _ hk'
    have hD1 : s₁.heap.get? D = none := by
      cases e : s₁.heap.get? D with
      | none => rfl
      | some o => have := hk _ _ e; rw [hD] at this; cases this
    refine hQ D h' tk ys k (fun p hp q => ?_) (FX _ kb) (fun p hp => ?_) hD1 hl hI kb
    · have := (N p hp).1; rw [q, hD1] at this; cases this
    · rcases List.mem_cons.mp hp with rfl | hp
      · refine ⟨hd, fun q => ?_, ?_⟩
        · obtain ⟨oL, _, _, hL, _⟩ := F.ns
          rw [← q, hD1] at hL; cases hL
        · cases e : h₀.get? D with
          | none => rfl
          | some o => have := F.keep _ _ e; rw [hD1] at this; cases this
      · exact NX _ kb p hp
/-- a block that turns nothing: each element tells something of its value -/
theorem CompP.pure {elt : Expr} {x : Str} {scope : Scope} {cl : List (Str × Addr)} {Q : Value → Shared → Prop} {h₀ : Heap} {L : Addr} {m : Str → Option Value} {s₁ : Shared} {xv : Value} {n : Nat} {P : Nat → Value → Prop} {base : List Addr} {news : List (Addr × Obj)} (G : Nat → Value → Prop)
    (it : IterOk prog w A xv n P base s₁) (hl : n < 1000) (F : Fr h₀ L s₁.heap m) (N : News h₀ L s₁.heap news)
    (helt : ∀ C i v s₃ m₃ E', i < n → P i v → s₃.heap.Ns C m₃ → m₃ x = some v → But [] s₁.heap s₃.heap → Fr h₀ L s₃.heap m → News h₀ L s₃.heap news →
      wpAny (model prog w) A (eval elt (compEnvC scope cl C env)) (EltEnd [] s₃ fun y _ => G i y) E' s₃)
    (hQ : ∀ D h' tk (ys : List Value) k', Fr h₀ L h' m → News h₀ L h' ((D, listOf ys.toArray k') :: news) → ys.length = n → (∀ i y, ys[i]? = some y → G i y) → But [] s₁.heap h' → Q (.ref D) { s₁ with heap := h', toks := tk }) :
    CompP prog w A env scope cl x elt h₀ L m [] Q xv s₁ := by
  refine ⟨n, P, base, news, fun (_ : Nat) (ys : List Value) (_ : Heap) => ∀ i y, ys[i]? = some y → G i y, it, Nat.le_trans (Nat.le_of_lt hl) (by decide), by simp, by simp, by simp, by simp, F, N, by simp, by simp, fun _ _ _ _ _ x => x, ?_, ?_⟩
  · intro C i v ys s₃ m₃ E' hi hp hl' hI hn hm _ hb F' N'
    refine wpAny_mono (helt C i v s₃ m₃ E' hi hp hn hm hb F' N') (fun y s₄ h₄ => ⟨h₄.1, h₄.2.1, fun j z hj => ?_⟩) fun _ _ e => e
    rcases Nat.lt_trichotomy j ys.length with q | q | q
    · exact hI j z (by rwa [List.getElem?_append_left q] at hj)
    · subst q; simp at hj; subst hj; rw [hl']; exact h₄.2.2
    · rw [List.getElem?_eq_none (by rw [List.length_append, List.length_singleton]; omega)] at hj; cases hj
  · intro D h' tk ys k' _ F' N' _ hl' hI hb
    exact hQ D h' tk ys k' F' N' hl' hI hb
theorem CompP.pure_tuple {elt : Expr} {x : Str} {scope : Scope} {cl : List (Str × Addr)} {Q : Value → Shared → Prop} {h₀ : Heap} {L : Addr} {m : Str → Option Value} {s₁ : Shared} {a : Addr} {vs : List Value} {k : Nat} {news : List (Addr × Obj)} (G : Nat → Value → Prop)
    (hh : A.handled = none) (e : s₁.heap.get? a = some (tupO vs k)) (hl : vs.length < 1000) (F : Fr h₀ L s₁.heap m) (N : News h₀ L s₁.heap news)
    (helt : ∀ C i v s₃ m₃ E', vs[i]? = some v → s₃.heap.Ns C m₃ → m₃ x = some v → But [] s₁.heap s₃.heap → Fr h₀ L s₃.heap m → News h₀ L s₃.heap news →
      wpAny (model prog w) A (eval elt (compEnvC scope cl C env)) (EltEnd [] s₃ fun y _ => G i y) E' s₃)
    (hQ : ∀ D h' tk (ys : List Value) k', Fr h₀ L h' m → News h₀ L h' ((D, listOf ys.toArray k') :: news) → ys.length = vs.length → (∀ i y, ys[i]? = some y → G i y) → But [] s₁.heap h' → Q (.ref D) { s₁ with heap := h', toks := tk }) :
    CompP prog w A env scope cl x elt h₀ L m [] Q (.ref a) s₁ := CompP.pure G (IterOk.tuple hh e) hl F N (fun C i v s₃ m₃ E' _ hp => helt C i v s₃ m₃ E' hp) hQ
theorem IterOk.bytes {s : Shared} {b : Array UInt8} {t : Tok} (hh : A.handled = none) : IterOk prog w A (.bytes b t) b.size (fun i v => ∃ c u, b[i]? = some c ∧ v = .int (c.toNat : Int) u) [] s := by
  intro Q E h
  refine KBw.pyIter_bytes ?_
  have W := KBw.walks (prog := prog) (w := w) hh s.heap.objs.size b t
  refine h _ [s.heap.objs.size] [s.heap.objs.size] _ _ W ⟨_, Heap.get?_push_size _ rfl, rfl, rfl⟩ ?_ ?_ ?_ ?_ ?_ fun b o e => Heap.get?_push_of_some _ e
  · intro b hb; rw [Heap.size_push]; simp at hb; subst hb; exact Nat.lt_succ_self _
  · intro b hb; simp at hb; subst hb; exact Nat.le_refl _
  · rw [Heap.size_push]; exact Nat.le_succ _
  · intro b hb; exact .inl hb
  · rintro i h' ⟨o, ho, hc, _⟩ b hb vs k q
    simp at hb; subst hb; rw [ho] at q; rw [Option.some.inj q] at hc; simp at hc
theorem strsAre_of {α : Type} {ds : List α} {ys : List Value} (g : α → Str) (hl : ys.length = ds.length) (h : ∀ (i : Nat) (y : Value), ys[i]? = some y → ∃ d t, ds[i]? = some d ∧ y = Value.str (g d) t) : StrsAre ys (ds.map g) := by
  induction ds generalizing ys with
  | nil => cases ys with | nil => exact .nil | cons y ys => simp at hl
  | cons d ds ih => cases ys with
    | nil => simp at hl
    | cons y ys =>
      obtain ⟨d', t, e1, e2⟩ := h 0 y rfl
      simp at e1; subst e1 e2
      exact .cons _ _ (ih (by simpa using hl) fun i y e => by simpa using h (i + 1) y (by simpa using e))
theorem join_eq (x : Str) (l : List Str) : Txt.join x l = Str.join x l := eq_of_beq (join_plain_closes x l)
theorem len_join (x : Str) : ∀ (l : List Str) (B : Nat), (∀ y ∈ l, y.length ≤ B) → (Str.join x l).length ≤ l.length * (B + x.length)
  | [], B, _ => by simp [Str.join, Str.empty, Str.length]
  | [y], B, h => by have := h y (by simp); simp [Str.join]; omega
  | y :: z :: r, B, h => by
    have ih := len_join x (z :: r) B fun u hu => h u (.tail _ hu)
    have h1 := h y (by simp)
    show (y ++ x ++ Str.join x (z :: r)).length ≤ _
    rw [Str.length_append, Str.length_append]
    simp only [List.length_cons, Nat.add_mul] at ih ⊢
    omega
theorem sum_le (f : Str → Nat) : ∀ (l : List Str) (B : Nat), (∀ y ∈ l, f y ≤ B) → (l.map f).sum ≤ l.length * B
  | [], _, _ => by simp
  | y :: l, B, h => by
    have ih := sum_le f l B fun u hu => h u (.tail _ hu)
    have h1 := h y (by simp)
    simp only [List.map_cons, List.sum_cons, List.length_cons, Nat.add_mul]
    omega
noncomputable def JoinOk (x : Str) (xs : List Str) : Prop := ∃ B, (∀ y ∈ xs, y.length ≤ B) ∧ xs.length * (B + x.length) ≤ 1000000
theorem T_join {s : Shared} {h₀ : Heap} {L : Addr} {news : List (Addr × Obj)} {D : Addr} {ys : List Value} {k : Nat} {xs : List Str} {x : Str} {t : Tok} {Q : Value → Shared → Prop} (N : News h₀ L s.heap news) (hm : (D, listOf ys.toArray k) ∈ news) (hi : StrsAre ys xs) (hj : JoinOk x xs)
    (h : ∀ t' k, (Str.join x xs).length ≤ 1000000 → Q (.str (Str.join x xs) t') { s with toks := k }) : wpAny (model prog w) A (call (.builtin "str.join") [.str x t, .ref D]) Q E s := by
  obtain ⟨B, hB, hok⟩ := hj
  have h1 := len_join x xs B hB
  have h2 := sum_le (fun y => y.length) xs B hB
  rw [Nat.mul_add] at hok h1
  exact join_list (items := ys.toArray) ⟨_, N.get hm, rfl, k, rfl⟩ hi (by omega) fun t' k => by rw [join_eq]; exact h t' k (by omega)
theorem nm_comp {s : Shared} {scope : Scope} {cl : List (Str × Addr)} {C : Addr} {m₃ : Str → Option Value} {x : Str} {pos : Pos} {v : Value} {Q : Value → Shared → Prop} (hn : s.heap.Ns C m₃) (hm : m₃ x = some v) (h : Q v s)
    (hk : (compEnvC scope cl C env).scope.kind = .function) (hl : (compEnvC scope cl C env).kindOf x = some .local) (hd : (x == ("__debug__" : Str)) = false) :
    wpAny (model prog w) A (eval (.Name x pos) (compEnvC scope cl C env)) Q E s := wpAny_Name (wpAny_loadName_local hk hl hn hm h) hd
end
section
variable {prog : Program} {w : World} {A : Around} {E : Value → Shared → Prop} {s : Shared} {h₀ : Heap} {L a : Addr} {m : Str → Option Value} {n : Nat}
noncomputable def eqS (x : Str) : Value → Bool
  | .str y _ => y == x
  | _ => false
theorem any_strs {x : Str} : ∀ {l : List Value} {xs : List Str}, StrsAre l xs → l.any (eqS x) = xs.contains x
  | _, _, .nil => rfl
  | _, _, .cons y t r => by simp only [List.any_cons, List.contains_cons, eqS, any_strs r]; rw [show (y == x) = (x == y) from BEq.comm]
theorem T_in_strs {K : Frag} {l : List Value} {xs : List Str} {dd : Option Addr} {sl : Array (Option Value)} {x : Str} {t : Tok} {Q : Value → Shared → Prop} (F : Fr h₀ L s.heap m) (X₀ : K.In h₀) (hl : K.lookup a = some ⟨.type "tuple", dd, .seq l.toArray n, sl⟩) (hx : StrsAre l xs) (h : Q (.bool (xs.contains x)) s) :
    wpAny (model prog w) A (compareOp .In (.str x t) (.ref a)) Q E s := by
  refine in_tupleAt (eqS x) (tupK (X₀.keeps F.keep) hl) (fun y hy => ?_) ?_
  · obtain ⟨y', t', rfl⟩ : ∃ y' t', y = .str y' t' := by
      have hm : y ∈ l := by simpa using hy
      clear hl h hy
      induction hx with
      | nil => cases hm
      | cons y' t' _ ih => rcases List.mem_cons.mp hm with rfl | hm; exact ⟨_, _, rfl⟩; exact ih hm
    exact EqAt.str_str y' t' x t
  · have e : l.toArray.any (eqS x) = xs.contains x := by rw [← any_strs hx]; simp
    rw [e]; exact h
end
section
variable {prog : Program} {w : World} {A : Around} {E : Value → Shared → Prop} {h₀ h : Heap} {L a : Addr} {m : Str → Option Value} {n : Nat} {vs : List Value} {news : List (Addr × Obj)} {g : Array GenState} {dr : Drawn} {tk : Nat} {os : OsState} {u : Tok}
theorem T_tfrom {value slice : Expr} {v0 : Value} {Q : Value → Shared → Prop} (F : Fr h₀ L h m) (N : News h₀ L h news) (e : h₀.get? a = some (tupO (v0 :: vs) n)) (hl : (v0 :: vs).length < 1000)
    (k : ∀ h' q, Fr h₀ L h' m → News h₀ L h' ((q, tupO vs 0) :: news) → (∀ p ∈ news, p.1 < q) → Q (.ref q) ⟨h', g, dr, tk, os⟩)
    (hs : subscripted slice false (.ref a) (.ref h.objs.size) = operate [.ref h.objs.size, .ref a] (getItem (.ref a) (.ref h.objs.size)) := by with_unfolding_all rfl)
    (hg : ∀ r, letTemporaryGo value (.ref a) r = pure () := by intro _; with_unfolding_all rfl) :
    wpAny (model prog w) A (subscriptTail value slice (.ref a) (.ref h.objs.size)) Q E ⟨h.push { cls := .type "slice", data := .fields #[.int 1 u, .none, .none] }, g, dr, tk, os⟩ := by
  refine slice_tuple_from (s := ⟨h, g, dr, tk, os⟩) (a := 1) (items := (v0 :: vs).toArray) F N ⟨_, F.keep _ _ e, rfl, n, rfl⟩ (Nat.le_refl _) (by simp) (fun h' F' N' => ?_) hs hg (Nat.le_trans (show (v0 :: vs).toArray.size ≤ 1000 by simp at hl ⊢; omega) (by decide))
  exact k h' _ F' N' fun p hp => Nat.lt_succ_of_lt (Heap.lt_size (N p hp).1)
end
end Mine
-- B3
namespace Mine
section
variable {prog : Program} {w : World} {A : Around} {E : Value → Shared → Prop}
theorem T_joinA {s : Shared} {h₀ : Heap} {L : Addr} {news : List (Addr × Obj)} {D : Addr} {its : Array Value} {k : Nat} {xs : List Str} {x : Str} {t : Tok} {Q : Value → Shared → Prop} (N : News h₀ L s.heap news) (hm : (D, listOf its k) ∈ news) (hi : StrsAre its.toList xs) (hj : JoinOk x xs)
    (h : ∀ t' k, (Str.join x xs).length ≤ 1000000 → Q (.str (Str.join x xs) t') { s with toks := k }) : wpAny (model prog w) A (call (.builtin "str.join") [.str x t, .ref D]) Q E s :=
  T_join (ys := its.toList) (k := k) N (by simpa using hm) hi hj h
end
end Mine
-- B4
namespace Mine
/-- a turn's end: the invariant at the new letters, or the loop is left -/
noncomputable def ForEnd (h₀ : Heap) (L : Addr) (J : (Str → Option Value) → List (Addr × Obj) → Prop) (own : List (Addr × Obj)) (s₁ : Shared) (Q : Flow → Shared → Prop) (f : Flow) (s₂ : Shared) : Prop :=
  match f with
  | .ret v => Q (.ret v) s₂
  | .brk => Q .next s₂
  | _ => ∃ h' tk' m' news' , s₂ = { s₁ with heap := h', toks := tk' } ∧ Fr h₀ L h' m' ∧ News h₀ L h' (news' ++ own) ∧ J m' news'
theorem ForEnd.intro {h₀ : Heap} {L : Addr} {J : (Str → Option Value) → List (Addr × Obj) → Prop} {own : List (Addr × Obj)} {s₁ : Shared} {Q : Flow → Shared → Prop} {h' : Heap} {tk' : Nat} {m' : Str → Option Value} (news' : List (Addr × Obj))
    (F : Fr h₀ L h' m') (N : News h₀ L h' (news' ++ own)) (j : J m' news') : ForEnd h₀ L J own s₁ Q .next { s₁ with heap := h', toks := tk' } := ⟨h', tk', m', news', rfl, F, N, j⟩
inductive ForP (prog : Program) (w : World) (A : Around) (env : Env) (x : Str) (body : List Stmt) (h₀ : Heap) (L : Addr) (Q : Flow → Shared → Prop) (xv : Value) (s₁ : Shared) : Prop
  | mk : ∀ n P base m₀ news₀, ∀ (J : Nat → (Str → Option Value) → List (Addr × Obj) → Prop), (IterOk prog w A xv n P base s₁) → (L ∉ base) → (Fr h₀ L s₁.heap m₀) → (News h₀ L s₁.heap news₀) → (J 0 m₀ news₀) → ((∀ i m nw, J i m nw → ∀ p ∈ nw, p.1 < s₁.heap.objs.size)) → ((∀ i v m₁ news₁ own s₃ E', i < n → P i v → J i m₁ news₁ → (∀ p ∈ own, p.1 ∈ base ∨ s₁.heap.objs.size ≤ p.1) → Fr h₀ L s₃.heap (fun y => if y = x then some v else m₁ y) → News h₀ L s₃.heap (news₁ ++ own) → (∃ h tk, s₃ = { s₁ with heap := h, toks := tk }) → wpAny (model prog w) A (execs body env) (ForEnd h₀ L (J (i + 1)) own s₃ Q) E' s₃)) → ((∀ m₁ news₁ h tk, J n m₁ news₁ → Fr h₀ L h m₁ → News h₀ L h news₁ → Q .next { s₁ with heap := h, toks := tk })) → ForP prog w A env x body h₀ L Q xv s₁
/-- what stands at each turn of a loop -/
inductive ForI (s₁ : Shared) (n : Nat) (St : Nat → Heap → Prop) (h₀ : Heap) (L : Addr) (J : Nat → (Str → Option Value) → List (Addr × Obj) → Prop) (k : Nat) (s' : Shared) : Prop
  | mk : ∀ (i : Nat) (m₁ : Str → Option Value) (news₁ : List (Addr × Obj)) (h : Heap) (tk : Nat), s' = { s₁ with heap := h, toks := tk } → i ≤ n → k = n + 1 - i → St i h → Fr h₀ L h m₁ → News h₀ L h news₁ → J i m₁ news₁ → ForI s₁ n St h₀ L J k s'
section
variable {prog : Program} {w : World} {A : Around} {E : Value → Shared → Prop} {env : Env}
theorem News.app_left {h₀ h : Heap} {L : Addr} {a b : List (Addr × Obj)} (N : News h₀ L h (a ++ b)) : News h₀ L h a := fun p hp => N p (List.mem_append_left _ hp)
theorem News.app_right {h₀ h : Heap} {L : Addr} {a b : List (Addr × Obj)} (N : News h₀ L h (a ++ b)) : News h₀ L h b := fun p hp => N p (List.mem_append_right _ hp)
theorem for_K {s : Shared} {x : Str} {px pos : Pos} {iter : Expr} {body : List Stmt} {Q : Flow → Shared → Prop} {h₀ : Heap} {L : Addr} (hL : env.locals = L) (hx : env.kindOf x = some .local) (hp : (env.scope.kind == .class || (env.scope.kind == .module && env.locals != env.globals)) = false)
    {m : Str → Option Value} (_F : Fr h₀ L s.heap m) (h : wpAny (model prog w) A (eval iter env) (ForP prog w A env x body h₀ L Q) E s)
    (hs : ∀ x, foldedSetIterable iter env x = pure x := by intro _; rfl) :
    wpAny (model prog w) A (exec (.For (.Name x px) iter body [] pos) env) Q E s := by
  refine wpAny_For (wpAny_mono h (fun xv s₁ h₁ => ?_) fun _ _ e => e) hs
  obtain ⟨n, P, base, m₀, news₀, J, hit, hLb, F, N, hj, hlt, turn, done⟩ := h₁
  subst hL
  refine hit _ _ fun I fp wr St h₂ W hst hfp hwr hsz hfb hnt hk => ?_
  have hLlt : env.locals < s₁.heap.objs.size := F.ns.lt
  have hLw : env.locals ∉ wr := fun q => absurd hLlt (Nat.not_lt.mpr (hwr _ q))
  have hLf : env.locals ∉ fp := fun q => (hfb _ q).elim hLw hLb
  have hh₀ : ∀ b o, h₀.get? b = some o → b ∉ wr := fun b o e q => absurd (Heap.lt_size (F.keep _ _ e)) (Nat.not_lt.mpr (hwr _ q))
  refine codeAny_forLoop (ForI s₁ n St h₀ env.locals J) ?_ (n + 1)
    ⟨0, m₀, news₀, h₂, _, rfl, Nat.zero_le _, rfl, hst, F.keptAll hk, N.grown hk, hj⟩
  rintro k s' ⟨i, m₁, news₁, h, tk, rfl, hi, rfl, hst', F', N', hj'⟩
  by_cases hin : i < n
  · refine W.item i _ _ _ hin hst' fun v h₃ tk₃ hPv hst₃ hk₃ => ?_
    have hnw : ∀ p ∈ news₁, p.1 ∉ wr := fun p hp q => absurd (hlt i m₁ news₁ hj' p hp) (Nat.not_lt.mpr (hwr _ q))
    have F₃ : Fr h₀ env.locals h₃ m₁ := ⟨F'.ns.at' fun o e => hk₃ _ o hLw e, fun b o e => hk₃ b o (hh₀ b o e) (F'.keep b o e), F'.above⟩
    have N₃ : News h₀ env.locals h₃ news₁ := fun p hp => ⟨hk₃ _ _ (hnw p hp) (N' p hp).1, (N' p hp).2⟩
    refine wpAny_assign_Name (wpAny_storeName_local hx F₃.ns (fun h₄ hn₄ hs₄ => ?_) hp)
    have F₄ := F₃.set hn₄ hs₄
    have N₄ := N₃.set hs₄
    have hst₄ : St (i + 1) h₄ := W.frame _ _ _ hst₃ fun b hb o e => hs₄.extBut b o (fun q => hLf (q ▸ hb)) e
    let own : List (Addr × Obj) := (fp.filter fun b => (h₀.get? b).isNone).filterMap fun b => (h₄.get? b).map fun o => (b, o)
    have hown : ∀ p ∈ own, h₄.get? p.1 = some p.2 ∧ p.1 ∈ fp ∧ h₀.get? p.1 = none := by
      intro p hp
      obtain ⟨b, hb, e⟩ := List.mem_filterMap.mp hp
      obtain ⟨hbf, hb0⟩ := List.mem_filter.mp hb
      obtain ⟨o, ho, rfl⟩ := Option.map_eq_some_iff.mp e
      exact ⟨ho, hbf, by simpa using hb0⟩
    have NO : News h₀ env.locals h₄ (news₁ ++ own) := fun p hp => by
      rcases List.mem_append.mp hp with hp | hp
      · exact N₄ p hp
      · exact ⟨(hown p hp).1, fun q => hLf (q ▸ (hown p hp).2.1), (hown p hp).2.2⟩
    refine wpAny_mono (turn i v m₁ news₁ own _ _ hin hPv hj' (fun p hp => (hfb _ (hown p hp).2.1).elim (fun q => .inr (hwr _ q)) .inl) F₄ NO ⟨_, _, rfl⟩) (fun f s₅ h₅ => ?_) fun _ _ e => e
    have fin : (∃ h' tk' m' news' , s₅ = { s₁ with heap := h', toks := tk' } ∧ Fr h₀ env.locals h' m' ∧ News h₀ env.locals h' (news' ++ own) ∧ J (i + 1) m' news') →
        ∃ mm, mm < n + 1 - i ∧ ForI s₁ n St h₀ env.locals J mm s₅ := by
      rintro ⟨h', tk', m', news', e, F5, N5, j5⟩
      refine ⟨n + 1 - (i + 1), by omega, i + 1, m', news', h', tk', e, hin, rfl, W.frame _ _ _ hst₄ fun b hb o e => ?_, F5, News.app_left N5, j5⟩
      cases q : h₀.get? b with
      | some o' =>
        have e1 := F₄.keep _ _ q
        rw [e] at e1; cases e1
        exact F5.keep _ _ q
      | none => exact (News.app_right N5 (b, o) (List.mem_filterMap.mpr ⟨b, List.mem_filter.mpr ⟨hb, by simp [q]⟩, by rw [e]; rfl⟩)).1
    cases f with
    | next => exact fin h₅
    | cont => exact fin h₅
    | brk => exact h₅
    | ret v => exact h₅
  · have hin' : i = n := by omega
    subst hin'
    refine W.done _ _ _ hst' fun h₃ tk₃ hk₃ => ?_
    have hnw : ∀ p ∈ news₁, p.1 ∉ wr := fun p hp q => absurd (hlt i m₁ news₁ hj' p hp) (Nat.not_lt.mpr (hwr _ q))
    refine wpAny_execs_nil ?_
    exact done m₁ news₁ h₃ tk₃ hj' ⟨F'.ns.at' fun o e => hk₃ _ o hLw e, fun b o e => hk₃ b o (hh₀ b o e) (F'.keep b o e), F'.above⟩ fun p hp => ⟨hk₃ _ _ (hnw p hp) (N' p hp).1, (N' p hp).2⟩
end
end Mine
-- B5
namespace Mine
section
variable {prog : Program} {w : World} {A : Around} {E : Value → Shared → Prop} {s : Shared} {h₀ : Heap} {L a : Addr} {m : Str → Option Value} {vs : List Value} {n : Nat} {news : List (Addr × Obj)}
theorem T_llen {Q : Value → Shared → Prop} (F : Fr h₀ L s.heap m) (e : h₀.get? a = some (listOf vs.toArray n)) (hl : vs.length < 1000) (h : Q (.int vs.length (s.toks + 1)) { s with toks := s.toks + 1 + 1 }) :
    wpAny (model prog w) A (call (.builtin "len") [.ref a]) Q E s := len_list (items := vs.toArray) ⟨_, F.keep _ _ e, rfl, n, rfl⟩ (by simp; omega) (by simpa using h)
theorem T_litem {value slice : Expr} {k : Nat} {u : Tok} {v : Value} {Q : Value → Shared → Prop} (F : Fr h₀ L s.heap m) (e : h₀.get? a = some (listOf vs.toArray n)) (hl : vs.length < 1000) (hx : vs[k]? = some v) (h : Q v s)
    (hs : subscripted slice false (.ref a) (.int k u) = operate [.ref a, .int k u] (getItem (.ref a) (.int k u)) := by with_unfolding_all rfl) :
    wpAny (model prog w) A (subscriptTail value slice (.ref a) (.int k u)) Q E s :=
  have hL : s.heap.IsList a vs.toArray := ⟨_, F.keep _ _ e, rfl, n, rfl⟩
  have hk : k < vs.length := (List.getElem?_eq_some_iff.mp hx).1
  tail_any hL.typeIs slot_list_getitem.lookup (wpAny_getItem_list hL (by omega) (by omega) (by simpa using hx) h) hs
theorem T_litemN {value slice : Expr} {k : Nat} {u : Tok} {v : Value} {Q : Value → Shared → Prop} (N : News h₀ L s.heap news) (e : (a, listOf vs.toArray n) ∈ news) (hl : vs.length < 1000) (hx : vs[k]? = some v) (h : Q v s)
    (hs : subscripted slice false (.ref a) (.int k u) = operate [.ref a, .int k u] (getItem (.ref a) (.int k u)) := by with_unfolding_all rfl) :
    wpAny (model prog w) A (subscriptTail value slice (.ref a) (.int k u)) Q E s :=
  have hL : s.heap.IsList a vs.toArray := ⟨_, N.get e, rfl, n, rfl⟩
  have hk : k < vs.length := (List.getElem?_eq_some_iff.mp hx).1
  tail_any hL.typeIs slot_list_getitem.lookup (wpAny_getItem_list hL (by omega) (by omega) (by simpa using hx) h) hs
theorem T_range {k : Nat} {u : Tok} {Q : Value → Shared → Prop} (F : Fr h₀ L s.heap m) (N : News h₀ L s.heap news)
    (h : ∀ h' q tk t1 t2, Fr h₀ L h' m → News h₀ L h' news → IsRange h' q 0 (k : Int) 1 t1 u t2 → (∀ p ∈ news, p.1 < q) → But [] s.heap h' → Q (.ref q) { s with heap := h', toks := tk }) :
    wpAny (model prog w) A (call (.type "range") [.int k u]) Q E s := by
  refine call_range_1 (h _ _ _ _ _ (F.push _) (N.grown fun _ _ e => Heap.get?_push_of_some _ e) (Heap.get?_push_size _ rfl) (fun p hp => Heap.lt_size (N p hp).1) fun _ _ e _ => Heap.get?_push_of_some _ e)
end
end Mine
-- B6
namespace Mine
/-- a turn's end of a loop that grows one list -/
noncomputable def GrowEnd (h₀ : Heap) (L R : Addr) (x : Str) (stored : List Str) (m₀ : Str → Option Value) (keep : List (Addr × Obj)) (Inv : List Value → Prop) (s₁ : Shared) (Q : Flow → Shared → Prop) (f : Flow) (s₂ : Shared) : Prop :=
  match f with
  | .ret v => Q (.ret v) s₂
  | .brk => Q .next s₂
  | _ => ∃ h' tk' m' news' ys k, s₂ = { s₁ with heap := h', toks := tk' } ∧ Fr h₀ L h' m' ∧ News h₀ L h' news' ∧ (R, listOf (ys : List Value).toArray k) ∈ news' ∧ (∀ p ∈ keep, p ∈ news') ∧ (∀ y, y ≠ x → stored.contains y = false → m' y = m₀ y) ∧ Inv ys
theorem GrowEnd.intro {h₀ : Heap} {L R : Addr} {x : Str} {stored : List Str} {m₀ : Str → Option Value} {keep : List (Addr × Obj)} {Inv : List Value → Prop} {s₁ : Shared} {Q : Flow → Shared → Prop} {h' : Heap} {tk' : Nat} {m' : Str → Option Value} {news' : List (Addr × Obj)} {its : Array Value} {k : Nat}
    (F : Fr h₀ L h' m') (N : News h₀ L h' news') (hm : (R, listOf its k) ∈ news') (hk : ∀ p ∈ keep, p ∈ news') (hv : ∀ y, y ≠ x → stored.contains y = false → m' y = m₀ y) (hi : Inv its.toList) : GrowEnd h₀ L R x stored m₀ keep Inv s₁ Q .next { s₁ with heap := h', toks := tk' } :=
  ⟨h', tk', m', news', its.toList, k, rfl, F, N, by simpa using hm, hk, hv, hi⟩
section
variable {prog : Program} {w : World} {A : Around} {E : Value → Shared → Prop} {env : Env}
theorem ForP.grow {x : Str} {body : List Stmt} {Q : Flow → Shared → Prop} {h₀ : Heap} {L R : Addr} {xv : Value} {s₁ : Shared} {n : Nat} {P : Nat → Value → Prop} {base : List Addr} {m₀ : Str → Option Value} {ys₀ : List Value} {k₀ : Nat} {rest : List (Addr × Obj)} (stored : List Str) (Inv : Nat → List Value → Prop)
    (it : IterOk prog w A xv n P base s₁) (hLb : L ∉ base) (hRb : R ∉ base) (F : Fr h₀ L s₁.heap m₀) (N : News h₀ L s₁.heap ((R, listOf ys₀.toArray k₀) :: rest)) (h0 : Inv 0 ys₀)
    (turn : ∀ i v ys k own (u : Str → Option Value) s₃ E', i < n → P i v → Inv i ys → (∀ p ∈ own, p.1 ≠ R) → Fr h₀ L s₃.heap (fun y => if y = x then some v else if stored.contains y then u y else m₀ y) → News h₀ L s₃.heap ((R, listOf ys.toArray k) :: (rest ++ own)) → (∃ h tk, s₃ = { s₁ with heap := h, toks := tk }) →
      wpAny (model prog w) A (execs body env) (GrowEnd h₀ L R x stored m₀ (rest ++ own) (Inv (i + 1)) s₃ Q) E' s₃)
    (done : ∀ ys k (u : Str → Option Value) h tk, Inv n ys → Fr h₀ L h (fun y => if y = x then u y else if stored.contains y then u y else m₀ y) → News h₀ L h ((R, listOf ys.toArray k) :: rest) → Q .next { s₁ with heap := h, toks := tk }) :
    ForP prog w A env x body h₀ L Q xv s₁ := by
  have e0 : m₀ = fun y => if y = x then m₀ y else if stored.contains y then m₀ y else m₀ y := by funext y; split <;> (try split) <;> rfl
  have e1 : ∀ (u : Str → Option Value) (v : Value), (fun y => if y = x then some v else if y = x then u y else if stored.contains y then u y else m₀ y) = fun y => if y = x then some v else if stored.contains y then u y else m₀ y := by intro u v; funext y; by_cases h : y = x <;> simp [h]
  refine ⟨n, P, base, m₀, _, fun i m nw => ∃ (u : Str → Option Value) (ys : List Value) (k : Nat), m = (fun y => if y = x then u y else if stored.contains y then u y else m₀ y) ∧ nw = (R, listOf ys.toArray k) :: rest ∧ Inv i ys, it, hLb, F, N, ⟨m₀, ys₀, k₀, e0, rfl, h0⟩, ?_, ?_, ?_⟩
  · rintro i m nw ⟨u, ys, k, _, rfl, _⟩ p hp
    rcases List.mem_cons.mp hp with rfl | hp
    · exact Heap.lt_size (N (R, listOf ys₀.toArray k₀) (by simp)).1
    · exact Heap.lt_size (N p (by simp [hp])).1
  · rintro i v m₁ news₁ own s₃ E' hi hP ⟨u, ys, k, rfl, rfl, hI⟩ hown F₃ N₃ hs
    have hR : ∀ p ∈ own, p.1 ≠ R := fun p hp q => (hown p hp).elim (fun h => hRb (q ▸ h)) fun h => absurd (Heap.lt_size (N (R, listOf ys₀.toArray k₀) (by simp)).1) (by rw [← q]; exact Nat.not_lt.mpr h)
    rw [e1] at F₃
    refine wpAny_mono (turn i v ys k own u s₃ E' hi hP hI hR F₃ (by simpa using N₃) hs) (fun f s₄ h₄ => ?_) fun _ _ e => e
    cases f with
    | ret v => exact h₄
    | brk => exact h₄
    | next =>
      obtain ⟨h', tk', m', news', ys', k', e, F', N', hm, hk, hv, hI'⟩ := h₄
      refine ⟨h', tk', m', (R, listOf ys'.toArray k') :: rest, e, F', fun p hp => ?_, m', ys', k', ?_, rfl, hI'⟩
      · rcases List.mem_append.mp hp with hp | hp
        · rcases List.mem_cons.mp hp with rfl | hp
          · exact N' _ hm
          · exact N' _ (hk p (List.mem_append_left _ hp))
        · exact N' _ (hk p (List.mem_append_right _ hp))
      · funext y
        by_cases h1 : y = x
        · simp [h1]
        · cases h2 : stored.contains y with
          | true => simp [h1]
          | false => simpa [h1] using hv y h1 h2
    | cont =>
      obtain ⟨h', tk', m', news', ys', k', e, F', N', hm, hk, hv, hI'⟩ := h₄
      refine ⟨h', tk', m', (R, listOf ys'.toArray k') :: rest, e, F', fun p hp => ?_, m', ys', k', ?_, rfl, hI'⟩
      · rcases List.mem_append.mp hp with hp | hp
        · rcases List.mem_cons.mp hp with rfl | hp
          · exact N' _ hm
          · exact N' _ (hk p (List.mem_append_left _ hp))
        · exact N' _ (hk p (List.mem_append_right _ hp))
      · funext y
        by_cases h1 : y = x
        · simp [h1]
        · cases h2 : stored.contains y with
          | true => simp [h1]
          | false => simpa [h1] using hv y h1 h2
  · rintro m₁ news₁ h tk ⟨u, ys, k, rfl, rfl, hI⟩ F' N'
    exact done ys k u h tk hI F' N'
end
end Mine
-- B7
namespace Mine
section
variable {prog : Program} {w : World} {A : Around} {E : Value → Shared → Prop} {s : Shared} {h₀ : Heap} {L R : Addr} {m : Str → Option Value} {news : List (Addr × Obj)}
theorem upd_heap {h h' : Heap} {o : Obj} (F : Fr h₀ L h m) (N : News h₀ L h news) {news' : List (Addr × Obj)} {o' : Obj} (U : Upd R o o' news news') (hs : Heap.SameBut R h h') (hR : h'.get? R = some o') : Fr h₀ L h' m ∧ News h₀ L h' news' := by
  obtain ⟨pre, post, rfl, rfl, h1, h2⟩ := U.split
  have hm := N (R, o) (by simp)
  refine ⟨⟨F.ns.sameBut hs (Ne.symm hm.2.1), fun b ob e => hs.extBut b ob (fun q => ?_) (F.keep b ob e), F.above⟩, fun p hp => ?_⟩
  · rw [q, hm.2.2] at e; cases e
  · rcases List.mem_append.mp hp with hp | hp
    · have P := N p (List.mem_append_left _ hp)
      exact ⟨hs.extBut _ _ (h1 p hp) P.1, P.2⟩
    · rcases List.mem_cons.mp hp with rfl | hp
      · exact ⟨hR, hm.2⟩
      · have P := N p (List.mem_append_right _ (List.mem_cons_of_mem _ hp))
        exact ⟨hs.extBut _ _ (h2 p hp) P.1, P.2⟩
theorem T_append {its : Array Value} {k : Nat} {x : Value} {news' : Nat → List (Addr × Obj)} {Q : Value → Shared → Prop} (F : Fr h₀ L s.heap m) (N : News h₀ L s.heap news) (hm : (R, listOf its k) ∈ news) (U : ∀ k', Upd R (listOf its k) (listOf (its.push x) k') news (news' k')) (hsz : its.size ≤ 100000)
    (h : ∀ h' k', Fr h₀ L h' m → News h₀ L h' (news' k') → Q .none { s with heap := h' }) : wpAny (model prog w) A (call (.builtin "list.append") [.ref R, x]) Q E s := by
  refine wpAny_list_append_plain (hsz := Nat.le_trans hsz (by decide)) ⟨k, N.get hm⟩ fun h' hl hs => ?_
  obtain ⟨k', e⟩ := hl
  have q := upd_heap F N (U k') hs e
  exact h h' k' q.1 q.2
end
section
variable {prog : Program} {w : World} {A : Around} {E : Value → Shared → Prop} {s : Shared} {h₀ : Heap} {L R : Addr} {m : Str → Option Value} {news : List (Addr × Obj)}
theorem T_extend {its its2 : Array Value} {k k2 : Nat} {D : Addr} {news' : Nat → List (Addr × Obj)} {Q : Value → Shared → Prop} (F : Fr h₀ L s.heap m) (N : News h₀ L s.heap news) (hm : (R, listOf its k) ∈ news) (hD : (D, listOf its2 k2) ∈ news) (U : ∀ k', Upd R (listOf its k) (listOf (its ++ its2) k') news (news' k')) (hsz : its.size + its2.size ≤ 100000)
    (h : ∀ h' k', Fr h₀ L h' m → News h₀ L h' (news' k') → Q .none { s with heap := h' }) : wpAny (model prog w) A (call (.builtin "list.extend") [.ref R, .ref D]) Q E s := by
  have hz : its.size + its2.size ≤ sizeLine := Nat.le_trans hsz (by decide)
  refine call_meets PySem.F.slot_list_extend ⟨_, N.get hm, rfl⟩ PySem.F.entry_list_extend (PySem.F.args_list_extend_2 _ _) (PySem.AutoSeq1.list_extend_list_list_0 R its k D its2 k2 ?_ (Nat.le_trans (Nat.le_add_right _ _) hz) (Nat.le_succ_of_le hz)) ⟨N.get hm, N.get hD, ?_⟩
  · simp only [Bool.and_eq_true, Builtin.List.listTooLong, decide_eq_true_eq, not_and]
    intro _; omega
  · have hg : (s.heap.update R (Obj.mapSeq fun x => x ++ its2)).get? R = some (listOf (its ++ its2) (if (its ++ its2).size == its.size then k else k + 1)) := Heap.get?_update_self _ (N.get hm) rfl
    have q := upd_heap F N (U _) (Heap.SameBut.update ..) hg
    exact h _ _ q.1 q.2
end
theorem StrsAre_snoc {z : Str} {t : Tok} : ∀ {ys : List Value} {xs : List Str}, StrsAre ys xs → StrsAre (ys ++ [.str z t]) (xs ++ [z])
  | _, _, .nil => .cons _ _ .nil
  | _, _, .cons y u r => .cons y u (StrsAre_snoc r)
theorem StrsAre_app : ∀ {ys ys' : List Value} {xs xs' : List Str}, StrsAre ys xs → StrsAre ys' xs' → StrsAre (ys ++ ys') (xs ++ xs')
  | _, _, _, _, .nil, r => r
  | _, _, _, _, .cons y u r, r' => .cons y u (StrsAre_app r r')
theorem take_mapIdx {α β : Type} (f : Nat → α → β) {l : List α} {i : Nat} {d : α} (h : l[i]? = some d) : (l.take (i + 1)).mapIdx f = (l.take i).mapIdx f ++ [f i d] := by
  have hl : i < l.length := (List.getElem?_eq_some_iff.mp h).1
  rw [List.take_add_one, h, List.mapIdx_append]
  simp [Nat.min_eq_left (Nat.le_of_lt hl)]
section
variable {prog : Program} {w : World} {A : Around} {E : Value → Shared → Prop} {s : Shared} {h₀ : Heap} {L R : Addr} {m : Str → Option Value} {news : List (Addr × Obj)}
theorem T_lit0 {value slice : Expr} {u : Tok} {v : Value} {rest : List Value} {a n : Nat} {Q : Value → Shared → Prop} (F : Fr h₀ L s.heap m) (e : h₀.get? a = some (listOf (v :: rest).toArray n)) (h : Q v s)
    (hs : subscripted slice false (.ref a) (.int 0 u) = operate [.ref a, .int 0 u] (getItem (.ref a) (.int 0 u)) := by with_unfolding_all rfl) :
    wpAny (model prog w) A (subscriptTail value slice (.ref a) (.int 0 u)) Q E s :=
  have hL : s.heap.IsList a (v :: rest : List Value).toArray := ⟨_, F.keep _ _ e, rfl, n, rfl⟩
  tail_any hL.typeIs slot_list_getitem.lookup (wpAny_getItem_list hL (by decide) (by decide) (by rfl) h) hs
theorem T_litN0 {value slice : Expr} {u : Tok} {v : Value} {rest : List Value} {a n : Nat} {Q : Value → Shared → Prop} (N : News h₀ L s.heap news) (e : (a, listOf (v :: rest).toArray n) ∈ news) (h : Q v s)
    (hs : subscripted slice false (.ref a) (.int 0 u) = operate [.ref a, .int 0 u] (getItem (.ref a) (.int 0 u)) := by with_unfolding_all rfl) :
    wpAny (model prog w) A (subscriptTail value slice (.ref a) (.int 0 u)) Q E s :=
  have hL : s.heap.IsList a (v :: rest : List Value).toArray := ⟨_, N.get e, rfl, n, rfl⟩
  tail_any hL.typeIs slot_list_getitem.lookup (wpAny_getItem_list hL (by decide) (by decide) (by rfl) h) hs
theorem T_lit1 {value slice : Expr} {u : Tok} {v v0 : Value} {rest : List Value} {a n : Nat} {Q : Value → Shared → Prop} (F : Fr h₀ L s.heap m) (e : h₀.get? a = some (listOf (v0 :: v :: rest).toArray n)) (h : Q v s)
    (hs : subscripted slice false (.ref a) (.int 1 u) = operate [.ref a, .int 1 u] (getItem (.ref a) (.int 1 u)) := by with_unfolding_all rfl) :
    wpAny (model prog w) A (subscriptTail value slice (.ref a) (.int 1 u)) Q E s :=
  have hL : s.heap.IsList a (v0 :: v :: rest : List Value).toArray := ⟨_, F.keep _ _ e, rfl, n, rfl⟩
  tail_any hL.typeIs slot_list_getitem.lookup (wpAny_getItem_list hL (by decide) (by decide) (by rfl) h) hs
theorem T_litN1 {value slice : Expr} {u : Tok} {v v0 : Value} {rest : List Value} {a n : Nat} {Q : Value → Shared → Prop} (N : News h₀ L s.heap news) (e : (a, listOf (v0 :: v :: rest).toArray n) ∈ news) (h : Q v s)
    (hs : subscripted slice false (.ref a) (.int 1 u) = operate [.ref a, .int 1 u] (getItem (.ref a) (.int 1 u)) := by with_unfolding_all rfl) :
    wpAny (model prog w) A (subscriptTail value slice (.ref a) (.int 1 u)) Q E s :=
  have hL : s.heap.IsList a (v0 :: v :: rest : List Value).toArray := ⟨_, N.get e, rfl, n, rfl⟩
  tail_any hL.typeIs slot_list_getitem.lookup (wpAny_getItem_list hL (by decide) (by decide) (by rfl) h) hs
end
section
variable {prog : Program} {w : World} {A : Around} {E : Value → Shared → Prop} {env : Env}
theorem CompP.pureD {elt : Expr} {x : Str} {scope : Scope} {cl : List (Str × Addr)} {Q : Value → Shared → Prop} {h₀ : Heap} {L : Addr} {m : Str → Option Value} {s₁ : Shared} {xv : Value} {n : Nat} {P : Nat → Value → Prop} {base : List Addr} {news : List (Addr × Obj)} (G : Nat → Value → Prop)
    (it : IterOk prog w A xv n P base s₁) (hl : n < 1000) (F : Fr h₀ L s₁.heap m) (N : News h₀ L s₁.heap news)
    (helt : ∀ C i v s₃ m₃ E', i < n → P i v → s₃.heap.Ns C m₃ → m₃ x = some v → But [] s₁.heap s₃.heap → Fr h₀ L s₃.heap m → News h₀ L s₃.heap news →
      wpAny (model prog w) A (eval elt (compEnvC scope cl C env)) (EltEnd [] s₃ fun y _ => G i y) E' s₃)
    (hQ : ∀ D h' tk (ys : List Value) k', (∀ p ∈ news, p.1 ≠ D) → Fr h₀ L h' m → News h₀ L h' ((D, listOf ys.toArray k') :: news) → ys.length = n → (∀ i y, ys[i]? = some y → G i y) → But [] s₁.heap h' → s₁.heap.get? D = none → Q (.ref D) { s₁ with heap := h', toks := tk }) :
    CompP prog w A env scope cl x elt h₀ L m [] Q xv s₁ := by
  refine ⟨n, P, base, news, fun (_ : Nat) (ys : List Value) (_ : Heap) => ∀ i y, ys[i]? = some y → G i y, it, Nat.le_trans (Nat.le_of_lt hl) (by decide), by simp, by simp, by simp, by simp, F, N, by simp, by simp, fun _ _ _ _ _ x => x, ?_, ?_⟩
  · intro C i v ys s₃ m₃ E' hi hp hl' hI hn hm _ hb F' N'
    refine wpAny_mono (helt C i v s₃ m₃ E' hi hp hn hm hb F' N') (fun y s₄ h₄ => ⟨h₄.1, h₄.2.1, fun j z hj => ?_⟩) fun _ _ e => e
    rcases Nat.lt_trichotomy j ys.length with q | q | q
    · exact hI j z (by rwa [List.getElem?_append_left q] at hj)
    · subst q; simp at hj; subst hj; rw [hl']; exact h₄.2.2
    · rw [List.getElem?_eq_none (by rw [List.length_append, List.length_singleton]; omega)] at hj; cases hj
  · intro D h' tk ys k' hD F' N' hD0 hl' hI hb
    exact hQ D h' tk ys k' hD F' N' hl' hI hb hD0
end
end Mine
-- F1
namespace Mine
theorem words1 : True := by
  k_with_none
  (k_with "base k_mem" => first | exact Mine.memAt 0 rfl | exact Mine.memAt 1 rfl | exact Mine.memAt 2 rfl | exact Mine.memAt 3 rfl | exact Mine.memAt 4 rfl | exact Mine.memAt 5 rfl | exact Mine.memAt 6 rfl | exact Mine.memAt 7 rfl | (refine Mine.memSkip 8 rfl ?_; k_mem))
  (k_with "base k_all" => first | exact Mine.allNe (by with_reducible assumption) | with_reducible assumption | exact List.forall_mem_nil _ | (with_reducible refine' Mine.allApp ?a ?b; (case a => k_all); (case b => k_all)) | (refine' List.forall_mem_cons.mpr ⟨?a, ?b⟩; (case a => k_ne); (case b => k_all)) | assumption)
  (k_with "base k_ne" => first | with_reducible assumption | (refine Mine.ne_hi ?_; exact Mine.lt_mem (by with_reducible assumption) (by k_mem)) | exact Mine.neAt (by with_reducible assumption) (by k_mem) | exact Mine.neAt' (by with_reducible assumption) (by k_mem) | (refine Mine.ne_hi ?_; with_reducible first | assumption | exact Mine.pj0 (by assumption) | exact Mine.pj1 (by assumption) | exact Mine.pl1 (by assumption) | exact Mine.pj2 (by assumption) | exact Mine.pl2 (by assumption) | exact Mine.pj3 (by assumption) | exact Mine.pl3 (by assumption) | exact Mine.pj4 (by assumption) | exact Mine.pl4 (by assumption) | exact Mine.pj5 (by assumption) | exact Mine.pl5 (by assumption) | exact Mine.pj6 (by assumption) | exact Mine.pl6 (by assumption) | exact Mine.pj7 (by assumption) | exact Mine.pl7 (by assumption) | exact Mine.pj8 (by assumption) | exact Mine.pj9 (by assumption) | exact Mine.pj10 (by assumption) | exact Mine.pj11 (by assumption) | exact Mine.pj12 (by assumption) | exact Mine.pj13 (by assumption) | exact Mine.pj14 (by assumption)) | exact Ne.symm (by with_reducible assumption) | exact Ne.symm (by assumption) | (refine neN ?_; (try dsimp only); omega))
  (k_with "base k_steps" => (try ((fail_if_success (fail_if_success k_fold)); refine (let Q9z : _ → Shared → Prop := _; (?_ : wpAny _ _ _ Q9z _ _)))); (try ((fail_if_success (fail_if_success (conv in (Shared.mk _ _ _ _ _) => skip))); refine (let s9z : Shared := _; (?_ : wpAny _ _ _ _ _ s9z)))); (try ((with_reducible rename News _ _ _ (List.cons _ _) => N9z); refine (let NW9z : List (Addr × Obj) := _; have N8z : News _ _ _ (Mine.Fold NW9z) := N9z; ?_); clear N9z)); (try ((with_reducible rename Fr _ _ _ (fun _ => ite _ _ _) => F9z); refine (let FM9z : Str → Option Value := _; have F8z : Fr _ _ _ (Mine.Fold FM9z) := F9z; ?_); clear F9z)); repeat' (first | ((fail_if_success (fail_if_success k_unfold)); refine (?_ : wpAny _ _ _ _ _ _); (try ((fail_if_success (fail_if_success k_fold)); refine (let Q9z : _ → Shared → Prop := _; (?_ : wpAny _ _ _ Q9z _ _)))); (try ((fail_if_success (fail_if_success (conv in (Shared.mk _ _ _ _ _) => skip))); refine (let s9z : Shared := _; (?_ : wpAny _ _ _ _ _ s9z))))) | (k_unfold; (try dsimp only)) | (k_end; wrow_close) | ((first | walk1 | (dsimp only; walk1)); (try ((fail_if_success (fail_if_success k_fold)); refine (let Q9z : _ → Shared → Prop := _; (?_ : wpAny _ _ _ Q9z _ _)))); (try ((fail_if_success (fail_if_success (conv in (Shared.mk _ _ _ _ _) => skip))); refine (let s9z : Shared := _; (?_ : wpAny _ _ _ _ _ s9z)))); (try ((with_reducible rename News _ _ _ (List.cons _ _) => N9z); refine (let NW9z : List (Addr × Obj) := _; have N8z : News _ _ _ (Mine.Fold NW9z) := N9z; ?_); clear N9z)); (try ((with_reducible rename Fr _ _ _ (fun _ => ite _ _ _) => F9z); refine (let FM9z : Str → Option Value := _; have F8z : Fr _ _ _ (Mine.Fold FM9z) := F9z; ?_); clear F9z))) | (leave1; walk_say "STEP leave1"; try dsimp only) | fail "no step"))
  (k_with "mine env" => refine (let ev9 : Env := _; let A9 : Around := _; (?_ : wpAny _ A9 (execs _ ev9) _ _ _)))
  (k_with "mine sides" => ((case ho => k_is); (case hcd => k_is); (case hroom => (first | assumption | exact room0 (by assumption) rfl | omega | (dsimp only [Ar]; omega))); (case hbind => exact BindsTo.of_eq rfl); (case hloc => exact locs rfl); (case c2 => exact rfl); (case c3 => exact rfl); (case c4 => exact rfl); (case c5 => decide)))
  (k_with "call builtin:isinstance" => (k_here; (with_reducible show wpAny _ _ (PySem.call _ [Value.ref _, Value.type _]) _ _ _); (first | refine' T_isi ?F9w ?e9w ?_ | refine' T_isi_bool ?F9w ?e9w ?_ | refine' T_isi_bytes ?F9w ?e9w ?_ | refine' T_isi_int ?F9w ?e9w ?_ | refine' T_isi_str ?F9w ?e9w ?_); (case F9w => k_asm); (case e9w => assumption); k_whole))
  (k_with "subscriptTail" => (k_here; (with_reducible show wpAny _ _ (subscriptTail _ _ (Value.ref _) (Value.int _ _)) _ _ _); k_dflt (first | (refine' T_item0 ?F9w ?e9w ?_; (case F9w => k_asm); (case e9w => assumption); k_whole) | (refine' T_item ?F9w ?e9w ?a9w ?b9w ?c9w ?d9w ?_; (case F9w => k_asm); (case e9w => assumption); (case a9w => decide); (case b9w => decide); (case c9w => rfl); (case d9w => rfl); k_whole))))
  (k_with "mine units" => (first | assumption | exact room (j := 1) (by assumption) rfl rfl | exact room (j := 3) (by assumption) rfl rfl | exact room (j := 2) (by assumption) rfl rfl | exact room (j := 4) (by assumption) rfl rfl | exact room (j := 5) (by assumption) rfl rfl | exact room (j := 0) (by assumption) rfl rfl | exact roomj (j := 3) (by assumption) rfl rfl | exact roomj (j := 1) (by assumption) rfl rfl | omega | (dsimp +zetaDelta only [Around.deeper, Ar, Around.in1, Around.mark]; omega)))
  (k_with "compareOp Eq ref ref" => (k_here; k_dflt (refine' T_eq_nil ?F9w ?e9w ?N9w ?b9w ?u9w ?_; (case F9w => k_asm); (case e9w => assumption); (case N9w => k_asm); (case b9w => k_mem); (case u9w => walk_at "mine units"); k_whole)))
  (k_with "compareOp Eq ref str" => (k_here; k_dflt (refine' T_eq_str ?F9w ?e9w ?u9w ?_; (case F9w => k_asm); (case e9w => assumption); (case u9w => walk_at "mine units"); k_whole)))
  (k_with "call builtin:len" => (k_here; (with_reducible show wpAny _ _ (PySem.call _ [Value.ref _]) _ _ _); k_dflt (refine' T_len ?F9w ?e9w ?l9w ?_; (case F9w => k_asm); (case e9w => assumption); (case l9w => assumption); k_whole)))
  (k_with "call ref" => (k_here; refine' call_sp ?S9w ?F9w ?N9w ?st9w ?hh9w ?hg9w ?d9w ?u9w ?pre9w ?b9w ?_; (case S9w => assumption); (case F9w => k_asm); (case N9w => k_asm); (case st9w => assumption); (case hh9w => rfl); (case hg9w => rfl); (case d9w => walk_at "mine units"); (case u9w => walk_at "mine units"); (case pre9w => first | exact ⟨_, rfl, Rd.fr (by k_asm) (by assumption)⟩ | exact ⟨_, rfl, by assumption⟩); (case b9w => exact fun _ _ p => p.2); intro r9w11' h9w11' tk9w11' F9w11' N9w11' b9w11' p9w11'; (first | (obtain ⟨⟨t9w11', e9w11'⟩, _⟩ := p9w11'; subst e9w11') | (obtain ⟨e9w11', _⟩ := p9w11'; subst e9w11')); (try k_sweep)))
  (k_with "compareOp In str ref" => (k_here; k_dflt (refine' T_in_strs ?F9w ?X9w ?l9w ?x9w ?_; (case F9w => k_asm); (case X9w => k_asm); (case l9w => k_is); (case x9w => repeat constructor); k_whole)))
  (k_with "spliced" => (k_here; k_dflt (refine' argsM ?a9w ?F9w ?e9w ?_; (case F9w => k_asm); (case a9w => rfl); (case e9w => rfl)); intro s9w13'))
  (k_with "eval Tuple" => (k_here; k_dflt (refine' tupM ?a9w ?F9w ?e9w ?N9w ?z9w ?_; (case F9w => k_asm); (case a9w => rfl); (case e9w => rfl); (case N9w => k_asm); (case z9w => exact Nat.le_of_ble_eq_true rfl)); intro D9w14' h9w14' NW99w14 s9w14' F9w14' N9w14' l19w14; (try k_sweep)))
  (k_with "eval Constant str" => (refine constStrM ?_; intro s9w15'))
  (k_with "eval Constant int" => (refine constIntM ?_; intro s9w16'))
  (k_with "eval Name" => (k_here; k_dflt (first | ((with_reducible show wpAny _ _ (PySem.eval _ (compEnvC _ _ _ _)) _ _ _); first | (refine' nm_comp ?n9w ?m9w ?_ ?k9w ?l9w ?d9w; (case k9w => with_unfolding_all rfl); (case l9w => with_unfolding_all rfl); (case n9w => assumption); (case m9w => assumption); (case d9w => decide)) | (refine' nm_compC ?N9w ?c9w ?m9w ?d9w ?_ ?k9w ?l9w ?e9w; (case k9w => with_unfolding_all rfl); (case l9w => with_unfolding_all rfl); (case N9w => k_asm); (case c9w => with_unfolding_all rfl); (case m9w => k_mem); (case d9w => k_asm); (case e9w => decide))) | ((fail_if_success (with_reducible show wpAny _ _ (PySem.eval _ (compEnvC _ _ _ _)) _ _ _)); first | (refine' nameS ?a9w ?e9w ?F9w ?_; (case F9w => k_asm); (case a9w => rfl); (case e9w => rfl)) | (refine' nameK ?a9w ?g9w ?F9w ?X9w ?T9w ?e9w ?_; (case a9w => rfl); (case g9w => rfl); (case F9w => k_asm); (case X9w => k_asm); (case T9w => k_asm); (case e9w => k_is); k_whole) | (refine' nameB ?a9w ?g9w ?F9w ?X9w ?T9w ?e9w ?v9w ?n9w ?_; (case a9w => rfl); (case g9w => rfl); (case F9w => k_asm); (case X9w => k_asm); (case T9w => k_asm); (case e9w => k_is); (case v9w => boot_fast); (case n9w => decide); k_whole)))))
  trivial
noncomputable def isOp : Dat → Bool
  | .tuple (.str x :: ds) => (x == Str.ofString "reg" && ds.length == 1) || (x == Str.ofString "const" && ds.length == 2)
  | _ => false
theorem n2 (n : Nat) : ((n : Int) + 1 == 2) = (n == 1) := by rw [Bool.eq_iff_iff]; simp; omega
theorem n3 (n : Nat) : ((n : Int) + 1 == 3) = (n == 2) := by rw [Bool.eq_iff_iff]; simp; omega
noncomputable def headOk : Dat → Bool
  | .tuple (.bytes _ :: _) => false
  | _ => true
theorem is_operand_spec {w : World} {mean : ExcName → Option Value} {mg mb : Str → Option Value} {H : Heap} (B : Bs w mean mg mb H) (d : Dat) (hd : headOk d = true) :
    Sp w H 62 2 8 (fun h args => ∃ v, args = [v] ∧ Rd h v d) (fun h _ h' r => r = .bool (isOp d) ∧ But [] h h') := by
  refine Sp.intro ?_
  rintro dp un fr s args R hst hdp hun ⟨v, rfl, hv⟩ hR
  refine' enter0 (binds := [(Str.ofString "thing", v)]) hst B ?ho ?hcd ?hroom ?hbind ?hloc ?h ?c2 ?c3 ?c4 ?c5
  walk_at "mine sides"
  intro L h₁ F N X T
  (try simp only [List.reverse_cons, List.reverse_nil, List.nil_append, List.cons_append] at F)
  (try dsimp only)
  walk_at "mine env"
  have hcL := cLine_is
  cases hv with
  | tuple e l r =>
    cases r with
    | nil => 
      k_steps
      exact hR _ _ _ ⟨rfl, fun b o e _ => Fr.keep (by assumption) b o e⟩
    | @cons v0 vs d0 ds h0 hr =>
      have hlen := hr.length
      cases h0 with
      | bytes => cases hd
      | str x t => 
        k_steps
        all_goals (refine hR _ _ _ ⟨?_, fun b o e _ => Fr.keep (by assumption) b o e⟩)
        all_goals (have e4 : (Str.ofString "reg" == Str.ofString "const") = false := by decide)
        all_goals (clear hR hd hr e T X B hst)
        all_goals (cases q1 : (x == Str.ofString "reg") <;> cases q2 : (x == Str.ofString "const") <;> simp_all [isOp, n2, n3] <;> omega)
      | _ => 
        k_steps
        all_goals exact hR _ _ _ ⟨rfl, fun b o e _ => Fr.keep (by assumption) b o e⟩
  | _ => 
    k_steps
    all_goals exact hR _ _ _ ⟨rfl, fun b o e _ => Fr.keep (by assumption) b o e⟩
noncomputable def tyWords : List Str := [Str.ofString "bool", Str.ofString "int", Str.ofString "string", Str.ofString "ptr", Str.ofString "array", Str.ofString "slice", Str.ofString "map", Str.ofString "chan", Str.ofString "func", Str.ofString "struct", Str.ofString "interface", Str.ofString "named", Str.ofString "tuple"]
noncomputable def isTold : Dat → Bool
  | .tuple (.str x :: ds) => !isOp (.tuple (.str x :: ds)) && tyWords.contains x
  | _ => false
theorem is_told_spec {w : World} {mean : ExcName → Option Value} {mg mb : Str → Option Value} {H : Heap} (B : Bs w mean mg mb H) (d : Dat) (hd : headOk d = true) :
    Sp w H 118 5 16 (fun h args => ∃ v, args = [v] ∧ Rd h v d) (fun h _ h' r => r = .bool (isTold d) ∧ But [] h h') := by
  have S := is_operand_spec B d hd
  refine Sp.intro ?_
  rintro dp un fr s args R hst hdp hun ⟨v, rfl, hv⟩ hR
  refine' enter0 (binds := [(Str.ofString "thing", v)]) hst B ?ho ?hcd ?hroom ?hbind ?hloc ?h ?c2 ?c3 ?c4 ?c5
  walk_at "mine sides"
  intro L h₁ F N X T
  (try simp only [List.reverse_cons, List.reverse_nil, List.nil_append, List.cons_append] at F)
  (try dsimp only)
  walk_at "mine env"
  have hcL := cLine_is
  have hv0 := hv
  cases hv with
  | tuple e l r =>
    cases r with
    | nil => 
      k_steps
      all_goals exact hR _ _ _ ⟨rfl, fun b o e _ => Fr.keep (by assumption) b o e⟩
    | @cons v0 vs d0 ds h0 hr =>
      have hlen := hr.length
      cases h0 with
      | bytes => cases hd
      | str x t => 
        cases hO : isOp (.tuple (.str x :: ds)) with
        | true =>
          rw [hO] at S
          k_steps
          all_goals exact hR _ _ _ ⟨by simp [isTold, hO], fun b o e _ => Fr.keep (by assumption) b o e⟩
        | false =>
          rw [hO] at S
          k_steps
          all_goals (refine hR _ _ _ ⟨?_, fun b o e _ => Fr.keep (by assumption) b o e⟩)
          all_goals (simp only [isTold, hO, Bool.not_false, Bool.true_and])
          all_goals (first | rfl | (simp_all [tyWords]; done))
      | _ => 
        rw [show ∀ d, isOp d = isOp d from fun _ => rfl] at S
        k_steps
        all_goals exact hR _ _ _ ⟨rfl, fun b o e _ => Fr.keep (by assumption) b o e⟩
  | _ => 
    k_steps
    all_goals exact hR _ _ _ ⟨rfl, fun b o e _ => Fr.keep (by assumption) b o e⟩
end Mine
-- F2
namespace Mine
theorem words2 : True := by
  k_with_none
  (k_with "base k_mem" => first | exact Mine.memAt 0 rfl | exact Mine.memAt 1 rfl | exact Mine.memAt 2 rfl | exact Mine.memAt 3 rfl | exact Mine.memAt 4 rfl | exact Mine.memAt 5 rfl | exact Mine.memAt 6 rfl | exact Mine.memAt 7 rfl | (refine Mine.memSkip 8 rfl ?_; k_mem))
  (k_with "base k_all" => first | exact Mine.allNe (by with_reducible assumption) | with_reducible assumption | exact List.forall_mem_nil _ | (with_reducible refine' Mine.allApp ?a ?b; (case a => k_all); (case b => k_all)) | (refine' List.forall_mem_cons.mpr ⟨?a, ?b⟩; (case a => k_ne); (case b => k_all)) | assumption)
  (k_with "base k_ne" => first | with_reducible assumption | (refine Mine.ne_hi ?_; exact Mine.lt_mem (by with_reducible assumption) (by k_mem)) | exact Mine.neAt (by with_reducible assumption) (by k_mem) | exact Mine.neAt' (by with_reducible assumption) (by k_mem) | (refine Mine.ne_hi ?_; with_reducible first | assumption | exact Mine.pj0 (by assumption) | exact Mine.pj1 (by assumption) | exact Mine.pl1 (by assumption) | exact Mine.pj2 (by assumption) | exact Mine.pl2 (by assumption) | exact Mine.pj3 (by assumption) | exact Mine.pl3 (by assumption) | exact Mine.pj4 (by assumption) | exact Mine.pl4 (by assumption) | exact Mine.pj5 (by assumption) | exact Mine.pl5 (by assumption) | exact Mine.pj6 (by assumption) | exact Mine.pl6 (by assumption) | exact Mine.pj7 (by assumption) | exact Mine.pl7 (by assumption) | exact Mine.pj8 (by assumption) | exact Mine.pj9 (by assumption) | exact Mine.pj10 (by assumption) | exact Mine.pj11 (by assumption) | exact Mine.pj12 (by assumption) | exact Mine.pj13 (by assumption) | exact Mine.pj14 (by assumption)) | exact Ne.symm (by with_reducible assumption) | exact Ne.symm (by assumption) | (refine neN ?_; (try dsimp only); omega))
  (k_with "base k_steps" => (try ((fail_if_success (fail_if_success k_fold)); refine (let Q9z : _ → Shared → Prop := _; (?_ : wpAny _ _ _ Q9z _ _)))); (try ((fail_if_success (fail_if_success (conv in (Shared.mk _ _ _ _ _) => skip))); refine (let s9z : Shared := _; (?_ : wpAny _ _ _ _ _ s9z)))); (try ((with_reducible rename News _ _ _ (List.cons _ _) => N9z); refine (let NW9z : List (Addr × Obj) := _; have N8z : News _ _ _ (Mine.Fold NW9z) := N9z; ?_); clear N9z)); (try ((with_reducible rename Fr _ _ _ (fun _ => ite _ _ _) => F9z); refine (let FM9z : Str → Option Value := _; have F8z : Fr _ _ _ (Mine.Fold FM9z) := F9z; ?_); clear F9z)); repeat' (first | ((fail_if_success (fail_if_success k_unfold)); refine (?_ : wpAny _ _ _ _ _ _); (try ((fail_if_success (fail_if_success k_fold)); refine (let Q9z : _ → Shared → Prop := _; (?_ : wpAny _ _ _ Q9z _ _)))); (try ((fail_if_success (fail_if_success (conv in (Shared.mk _ _ _ _ _) => skip))); refine (let s9z : Shared := _; (?_ : wpAny _ _ _ _ _ s9z))))) | (k_unfold; (try dsimp only)) | (k_end; wrow_close) | ((first | walk1 | (dsimp only; walk1)); (try ((fail_if_success (fail_if_success k_fold)); refine (let Q9z : _ → Shared → Prop := _; (?_ : wpAny _ _ _ Q9z _ _)))); (try ((fail_if_success (fail_if_success (conv in (Shared.mk _ _ _ _ _) => skip))); refine (let s9z : Shared := _; (?_ : wpAny _ _ _ _ _ s9z)))); (try ((with_reducible rename News _ _ _ (List.cons _ _) => N9z); refine (let NW9z : List (Addr × Obj) := _; have N8z : News _ _ _ (Mine.Fold NW9z) := N9z; ?_); clear N9z)); (try ((with_reducible rename Fr _ _ _ (fun _ => ite _ _ _) => F9z); refine (let FM9z : Str → Option Value := _; have F8z : Fr _ _ _ (Mine.Fold FM9z) := F9z; ?_); clear F9z))) | (leave1; walk_say "STEP leave1"; try dsimp only) | fail "no step"))
  (k_with "mine env" => refine (let ev9 : Env := _; let A9 : Around := _; (?_ : wpAny _ A9 (execs _ ev9) _ _ _)))
  (k_with "mine sides" => ((case ho => k_is); (case hcd => k_is); (case hroom => (first | assumption | exact room0 (by assumption) rfl | omega | (dsimp only [Ar]; omega))); (case hbind => exact BindsTo.of_eq rfl); (case hloc => exact locs rfl); (case c2 => exact rfl); (case c3 => exact rfl); (case c4 => exact rfl); (case c5 => decide)))
  (k_with "call builtin:isinstance" => (k_here; (with_reducible show wpAny _ _ (PySem.call _ [Value.ref _, Value.type _]) _ _ _); (first | refine' T_isi ?F9w ?e9w ?_ | refine' T_isi_bool ?F9w ?e9w ?_ | refine' T_isi_bytes ?F9w ?e9w ?_ | refine' T_isi_int ?F9w ?e9w ?_ | refine' T_isi_str ?F9w ?e9w ?_); (case F9w => k_asm); (case e9w => assumption); k_whole))
  (k_with "mine units" => (first | assumption | exact room (j := 1) (by assumption) rfl rfl | exact room (j := 3) (by assumption) rfl rfl | exact room (j := 2) (by assumption) rfl rfl | exact room (j := 4) (by assumption) rfl rfl | exact room (j := 5) (by assumption) rfl rfl | exact room (j := 0) (by assumption) rfl rfl | exact roomj (j := 3) (by assumption) rfl rfl | exact roomj (j := 1) (by assumption) rfl rfl | omega | (dsimp +zetaDelta only [Around.deeper, Ar, Around.in1, Around.mark]; omega)))
  (k_with "eval ListComp" => (k_here; refine' comp_K [] ?hclos9w ?hcell9w ?hkind9w ?hnames9w ?hx9w ?F9w ?_ ?hs9w; (case hclos9w => with_unfolding_all rfl); (case hcell9w => decide); (case hkind9w => with_unfolding_all rfl); (case hnames9w => decide); (case hx9w => with_unfolding_all rfl); (case F9w => k_asm); (case hs9w => intro _; with_unfolding_all rfl)))
  (k_with "call ref" => (k_here; refine' call_sp ?S9w ?F9w ?N9w ?st9w ?hh9w ?hg9w ?d9w ?u9w ?pre9w ?b9w ?_; (case S9w => assumption); (case F9w => k_asm); (case N9w => k_asm); (case st9w => assumption); (case hh9w => rfl); (case hg9w => rfl); (case d9w => walk_at "mine units"); (case u9w => walk_at "mine units"); (case pre9w => first | exact ⟨_, rfl, Rd.fr (by k_asm) (by assumption)⟩ | exact ⟨_, rfl, by assumption⟩); (case b9w => exact fun _ _ p => p.2); intro r9w22' h9w22' tk9w22' F9w22' N9w22' b9w22' p9w22'; (first | (obtain ⟨⟨t9w22', e9w22'⟩, _⟩ := p9w22'; subst e9w22') | (obtain ⟨e9w22', _⟩ := p9w22'; subst e9w22')); (try k_sweep)))
  (k_with "call builtin:str.join" => (k_here; refine' T_join ?N9w ?m9w ?i9w ?j9w ?_; (case N9w => k_asm); (case m9w => k_mem); (case i9w => assumption); (case j9w => assumption); intro t9w23' k9w23' l9w23'))
  (k_with "spliced" => (k_here; k_dflt (refine' argsM ?a9w ?F9w ?e9w ?_; (case F9w => k_asm); (case a9w => rfl); (case e9w => rfl)); intro s9w24'))
  (k_with "eval Constant str" => (refine constStrM ?_; intro s9w25'))
  (k_with "eval Name" => (k_here; k_dflt (first | ((with_reducible show wpAny _ _ (PySem.eval _ (compEnvC _ _ _ _)) _ _ _); first | (refine' nm_comp ?n9w ?m9w ?_ ?k9w ?l9w ?d9w; (case k9w => with_unfolding_all rfl); (case l9w => with_unfolding_all rfl); (case n9w => assumption); (case m9w => assumption); (case d9w => decide)) | (refine' nm_compC ?N9w ?c9w ?m9w ?d9w ?_ ?k9w ?l9w ?e9w; (case k9w => with_unfolding_all rfl); (case l9w => with_unfolding_all rfl); (case N9w => k_asm); (case c9w => with_unfolding_all rfl); (case m9w => k_mem); (case d9w => k_asm); (case e9w => decide))) | ((fail_if_success (with_reducible show wpAny _ _ (PySem.eval _ (compEnvC _ _ _ _)) _ _ _)); first | (refine' nameS ?a9w ?e9w ?F9w ?_; (case F9w => k_asm); (case a9w => rfl); (case e9w => rfl)) | (refine' nameK ?a9w ?g9w ?F9w ?X9w ?T9w ?e9w ?_; (case a9w => rfl); (case g9w => rfl); (case F9w => k_asm); (case X9w => k_asm); (case T9w => k_asm); (case e9w => k_is); k_whole) | (refine' nameB ?a9w ?g9w ?F9w ?X9w ?T9w ?e9w ?v9w ?n9w ?_; (case a9w => rfl); (case g9w => rfl); (case F9w => k_asm); (case X9w => k_asm); (case T9w => k_asm); (case e9w => k_is); (case v9w => boot_fast); (case n9w => decide); k_whole)))))
  trivial
noncomputable def celt (f : Dat → Str) : Dat → Str
  | .str x => x
  | d => f d
/-- the words of a constant -/
noncomputable def cw (x : Str) : Bool := decide (x = Str.ofString "struct") || decide (x = Str.ofString "array")
theorem cw_len {x : Str} (h : cw x = true) : x.length ≤ 6 := by
  simp only [cw, Bool.or_eq_true, decide_eq_true_eq] at h
  rcases h with rfl | rfl <;> decide
noncomputable def cokF (f : Dat → Bool) : Dat → Bool
  | .str x => cw x
  | d => f d
/-- a constant's value: how deep, how large -/
noncomputable def cvOk : Nat → Dat → Bool
  | _, .none => true
  | _, .bool _ => true
  | _, .int i => decide (-1000 < i) && decide (i < 1000)
  | _, .bytes b => decide (b.size ≤ 2)
  | n + 1, .tuple ds => decide (ds.length ≤ 2) && ds.all (cokF (cvOk n))
  | _, _ => false
noncomputable def octets (b : Array UInt8) : List Str := b.toList.map fun c => Str.ofString (toString (c.toNat : Int))
noncomputable def ctext : Nat → Dat → Str
  | _, .none => Str.ofString "nil"
  | _, .bool b => if b then Str.ofString "true" else Str.ofString "false"
  | _, .int i => Str.ofString (toString i)
  | _, .bytes b => Str.ofString "[" ++ Str.join (Str.ofString " ") (octets b) ++ Str.ofString "]"
  | n + 1, .tuple ds => Str.ofString "(" ++ Str.join (Str.ofString ", ") (ds.map (celt (ctext n))) ++ Str.ofString ")"
  | _, _ => Str.empty
theorem octet_len (c : UInt8) : (Str.ofString (toString (c.toNat : Int))).length ≤ 4 := by
  have h := c.toNat_lt
  generalize c.toNat = n at h
  revert n
  decide +kernel
noncomputable def clen : Nat → Nat
  | 0 => 12
  | n + 1 => 2 * clen n + 20
theorem clen_le : ∀ n, n < 6 → clen n + 2 ≤ 10000 := by decide
theorem int_len' (i : Int) (h1 : -1000 < i) (h2 : i < 1000) : (Str.ofString (toString i)).length ≤ 4 := by
  have e : (Str.ofString (toString i)).length = (toString i).length := by first | exact PySem.ofString_length _ | exact PyProof.ofString_length _ | exact PyProof.Rows.ofString_length _
  rw [e]
  exact int_text_length_le10 (k := 3) (by decide) (by omega)
theorem ctext_len0 (n : Nat) (b : Array UInt8) (h : b.size ≤ 2) : ∀ x ∈ octets b, x.length ≤ 4 := fun x hx => by
  simp only [octets, List.mem_map] at hx
  obtain ⟨c, _, rfl⟩ := hx
  exact int_len' _ (by omega) (by have := c.toNat_lt; omega)
theorem ctext_len : ∀ (n : Nat) (d : Dat), cvOk n d = true → (ctext n d).length ≤ clen n := by
  have h12 : ∀ n, 12 ≤ clen n := fun n => by induction n with
    | zero => decide
    | succ n ih => simp only [clen]; omega
  have hb : ∀ (n : Nat) (b : Array UInt8), cvOk n (.bytes b) = true → (ctext n (.bytes b)).length ≤ 12 := fun n b h => by
    have h2 : b.size ≤ 2 := by cases n <;> simpa [cvOk] using h
    have h3 := len_join (Str.ofString " ") (octets b) 4 (ctext_len0 n b h2)
    have h4 : (octets b).length = b.size := by simp [octets]
    rw [h4, show (Str.ofString " ").length = 1 from by decide] at h3
    have e : ctext n (.bytes b) = Str.ofString "[" ++ Str.join (Str.ofString " ") (octets b) ++ Str.ofString "]" := by cases n <;> rfl
    rw [e]
    simp only [Str.length_append, show (Str.ofString "[").length = 1 from by decide, show (Str.ofString "]").length = 1 from by decide]
    omega
  have hsc : ∀ (n : Nat) (i : Int), cvOk n (.int i) = true → (ctext n (.int i)).length ≤ 12 := fun n i h => by
    have h2 : -1000 < i ∧ i < 1000 := by cases n <;> simpa [cvOk] using h
    have e : ctext n (.int i) = Str.ofString (toString i) := by cases n <;> rfl
    rw [e]; exact Nat.le_trans (int_len' i h2.1 h2.2) (by decide)
  have hbo : ∀ (n : Nat) (b : Bool), (ctext n (.bool b)).length ≤ 12 := fun n b => by
    cases n <;> cases b <;> simp only [ctext] <;> decide
  have hno : ∀ (n : Nat), (ctext n .none).length ≤ 12 := fun n => by
    cases n <;> simp only [ctext] <;> decide
  intro n
  induction n with
  | zero =>
    intro d h
    cases d with
    | none => exact hno 0
    | bool b => exact hbo 0 b
    | int i => exact hsc 0 i h
    | bytes b => exact hb 0 b h
    | _ => simp [cvOk] at h
  | succ n ih =>
    intro d h
    cases d with
    | none => exact Nat.le_trans (hno _) (h12 _)
    | bool b => exact Nat.le_trans (hbo _ b) (h12 _)
    | int i => exact Nat.le_trans (hsc _ i h) (h12 _)
    | bytes b => exact Nat.le_trans (hb _ b h) (h12 _)
    | tuple ds =>
      simp only [cvOk, Bool.and_eq_true, decide_eq_true_eq, List.all_eq_true] at h
      have h1 : ∀ y ∈ ds.map (celt (ctext n)), y.length ≤ clen n := fun y hy => by
        obtain ⟨d, hd, rfl⟩ := List.mem_map.mp hy
        have hc := h.2 d hd
        cases d with
        | str x => exact Nat.le_trans (cw_len hc) (Nat.le_trans (by decide) (h12 n))
        | _ => exact ih _ hc
      have h3 := len_join (Str.ofString ", ") _ _ h1
      rw [List.length_map, show (Str.ofString ", ").length = 2 from by decide] at h3
      have h4 : ds.length * (clen n + 2) ≤ 2 * (clen n + 2) := Nat.mul_le_mul_right _ h.1
      simp only [ctext, Str.length_append, clen, show (Str.ofString "(").length = 1 from by decide, show (Str.ofString ")").length = 1 from by decide]
      omega
    | _ => simp [cvOk] at h
noncomputable abbrev CtS (w : World) (H : Heap) (n : Nat) (d : Dat) : Prop := Sp w H 104 (4 * n + 4) (16 * n + 16) (fun h args => ∃ v, args = [v] ∧ Rd h v d) (fun h _ h' r => (∃ t, r = .str (ctext n d) t) ∧ But [] h h')
theorem constant_text_step {w : World} {mean : ExcName → Option Value} {mg mb : Str → Option Value} {H : Heap} (B : Bs w mean mg mb H) (n : Nat) (hn : n ≤ 6) (ih : ∀ m, n = m + 1 → ∀ d, cvOk m d = true → CtS w H m d) (d : Dat) (hd : cvOk n d = true) : CtS w H n d := by
  refine Sp.intro ?_
  rintro dp un fr s args R hst hdp hun ⟨v, rfl, hv⟩ hR
  refine' enter0 (binds := [(Str.ofString "value", v)]) hst B ?ho ?hcd ?hroom ?hbind ?hloc ?h ?c2 ?c3 ?c4 ?c5
  walk_at "mine sides"
  intro L h₁ F N X T
  (try simp only [List.reverse_cons, List.reverse_nil, List.nil_append, List.cons_append] at F)
  (try dsimp only)
  walk_at "mine env"
  have hcL := cLine_is
  cases hv with
  | str => cases n <;> cases hd
  | bytes b t => 
    have hb2 : b.size ≤ 2 := by cases n <;> simpa [cvOk] using hd
    k_steps
    refine CompP.pure (G := fun i y => ∃ d t, b.toList[i]? = some d ∧ y = .str (Str.ofString (toString (d.toNat : Int))) t) (IterOk.bytes rfl) (by omega) (by assumption) (by assumption) ?elt ?hQ
    case elt =>
      rintro C i v s₃ m₃ E' _ ⟨c, u, hc, rfl⟩ hn hm hb F' N'
      have hc' := c.toNat_lt
      k_steps
      all_goals exact EltEnd.intro But.refl ⟨_, _, by simpa using hc, rfl⟩
    case hQ =>
      intro D h' tk ys k' F' N' hlen hG hb
      have hS := strsAre_of (fun c : UInt8 => Str.ofString (toString (c.toNat : Int))) (hlen.trans (by simp)) hG
      have hB : ∀ y ∈ b.toList.map (fun c : UInt8 => Str.ofString (toString (c.toNat : Int))), y.length ≤ 4 := by
        intro y hy; obtain ⟨c, _, rfl⟩ := List.mem_map.mp hy; exact octet_len c
      have hO : (b.toList.map (fun c : UInt8 => Str.ofString (toString (c.toNat : Int)))).length * (4 + (Str.ofString " ").length) ≤ 1000000 := by
        rw [show (Str.ofString " ").length = 1 from by decide]; simp; omega
      have hJ : JoinOk (Str.ofString " ") (b.toList.map (fun c : UInt8 => Str.ofString (toString (c.toNat : Int)))) := ⟨_, hB, hO⟩
      k_steps
      have e : ctext n (.bytes b) = Str.ofString "[" ++ Str.join (Str.ofString " ") (octets b) ++ Str.ofString "]" := by cases n <;> rfl
      all_goals exact hR _ _ _ ⟨⟨_, by rw [e]; rfl⟩, fun b o e _ => Fr.keep (by assumption) b o e⟩
  | @tuple a vs k ds e l r =>
    cases n with
    | zero => cases hd
    | succ n =>
    have ih := ih n rfl
    simp only [cvOk, Bool.and_eq_true, decide_eq_true_eq, List.all_eq_true] at hd
    k_steps
    refine CompP.pure_tuple (G := fun i y => ∃ d t, ds[i]? = some d ∧ y = .str (celt (ctext n) d) t) rfl (Fr.keep (by assumption) _ _ e) l (by assumption) (by assumption) ?elt ?hQ
    case elt =>
      intro C i v s₃ m₃ E' hv hn hm hb F' N'
      obtain ⟨d', hd', rd⟩ := r.get hv
      have hcv := hd.2 d' (List.mem_of_getElem? hd')
      have rd0 := rd
      cases rd with
      | str x t =>
        k_steps
        all_goals exact EltEnd.intro But.refl ⟨_, _, hd', rfl⟩
      | tuple e1 l1 r1 =>
        have S := ih _ hcv
        k_steps
        all_goals exact EltEnd.intro (by assumption) ⟨_, _, hd', rfl⟩
      | _ =>
        have S := ih _ hcv
        k_steps
        all_goals exact EltEnd.intro (by assumption) ⟨_, _, hd', rfl⟩
    case hQ =>
      intro D h' tk ys k' F' N' hlen hG hb
      have hS := strsAre_of (celt (ctext n)) (hlen.trans r.length) hG
      have hB : ∀ y ∈ ds.map (celt (ctext n)), y.length ≤ clen n := by
        intro y hy
        obtain ⟨d, hd', rfl⟩ := List.mem_map.mp hy
        have hcv := hd.2 d hd'
        cases d with
        | str x => exact Nat.le_trans (cw_len hcv) (by clear hS hG; induction n with | zero => decide | succ n ih => simp only [clen]; omega)
        | _ => exact ctext_len n _ hcv
      have hO : (ds.map (celt (ctext n))).length * (clen n + (Str.ofString ", ").length) ≤ 1000000 := by
        rw [show (Str.ofString ", ").length = 2 from by decide, List.length_map]
        have h1 : clen n + 2 ≤ 10000 := by
          exact clen_le n (by omega)
        exact Nat.le_trans (Nat.mul_le_mul hd.1 h1) (by decide)
      have hJ : JoinOk (Str.ofString ", ") (ds.map (celt (ctext n))) := ⟨_, hB, hO⟩
      have e9 : ctext (n + 1) (.tuple ds) = Str.ofString "(" ++ Str.join (Str.ofString ", ") (ds.map (celt (ctext n))) ++ Str.ofString ")" := by simp only [ctext]
      k_steps
      all_goals exact hR _ _ _ ⟨⟨_, by rw [e9]⟩, fun b o e _ => Fr.keep (by assumption) b o e⟩
  | int i t =>
    have hd' : -1000 < i ∧ i < 1000 := by cases n <;> simpa [cvOk] using hd
    have e : ctext n (.int i) = Str.ofString (toString i) := by cases n <;> rfl
    obtain ⟨h1, h2⟩ := hd'
    k_steps
    exact hR _ _ _ ⟨⟨_, by rw [e]⟩, fun b o e _ => Fr.keep (by assumption) b o e⟩
  | bool b => 
    have e : ctext n (.bool b) = if b then Str.ofString "true" else Str.ofString "false" := by cases n <;> rfl
    cases b
    all_goals k_steps
    all_goals exact hR _ _ _ ⟨⟨_, by rw [e]; rfl⟩, fun b o e _ => Fr.keep (by assumption) b o e⟩
  | none => 
    have e : ctext n .none = Str.ofString "nil" := by cases n <;> rfl
    k_steps
    exact hR _ _ _ ⟨⟨_, by rw [e]⟩, fun b o e _ => Fr.keep (by assumption) b o e⟩
theorem constant_text_spec {w : World} {mean : ExcName → Option Value} {mg mb : Str → Option Value} {H : Heap} (B : Bs w mean mg mb H) : ∀ (n : Nat) (hn : n ≤ 6) (d : Dat) (hd : cvOk n d = true), CtS w H n d
  | 0, hn => constant_text_step B 0 hn fun m e => by cases e
  | n + 1, hn => constant_text_step B (n + 1) hn fun m e d hd => by cases e; exact constant_text_spec B n (by omega) d hd
end Mine
-- F3
namespace Mine
theorem words3 : True := by
  k_with_none
  (k_with "base k_mem" => first | exact Mine.memAt 0 rfl | exact Mine.memAt 1 rfl | exact Mine.memAt 2 rfl | exact Mine.memAt 3 rfl | exact Mine.memAt 4 rfl | exact Mine.memAt 5 rfl | exact Mine.memAt 6 rfl | exact Mine.memAt 7 rfl | (refine Mine.memSkip 8 rfl ?_; k_mem))
  (k_with "base k_all" => first | exact Mine.allNe (by with_reducible assumption) | with_reducible assumption | exact List.forall_mem_nil _ | (with_reducible refine' Mine.allApp ?a ?b; (case a => k_all); (case b => k_all)) | (refine' List.forall_mem_cons.mpr ⟨?a, ?b⟩; (case a => k_ne); (case b => k_all)) | assumption)
  (k_with "base k_ne" => first | with_reducible assumption | (refine Mine.ne_hi ?_; exact Mine.lt_mem (by with_reducible assumption) (by k_mem)) | exact Mine.neAt (by with_reducible assumption) (by k_mem) | exact Mine.neAt' (by with_reducible assumption) (by k_mem) | (refine Mine.ne_hi ?_; with_reducible first | assumption | exact Mine.pj0 (by assumption) | exact Mine.pj1 (by assumption) | exact Mine.pl1 (by assumption) | exact Mine.pj2 (by assumption) | exact Mine.pl2 (by assumption) | exact Mine.pj3 (by assumption) | exact Mine.pl3 (by assumption) | exact Mine.pj4 (by assumption) | exact Mine.pl4 (by assumption) | exact Mine.pj5 (by assumption) | exact Mine.pl5 (by assumption) | exact Mine.pj6 (by assumption) | exact Mine.pl6 (by assumption) | exact Mine.pj7 (by assumption) | exact Mine.pl7 (by assumption) | exact Mine.pj8 (by assumption) | exact Mine.pj9 (by assumption) | exact Mine.pj10 (by assumption) | exact Mine.pj11 (by assumption) | exact Mine.pj12 (by assumption) | exact Mine.pj13 (by assumption) | exact Mine.pj14 (by assumption)) | exact Ne.symm (by with_reducible assumption) | exact Ne.symm (by assumption) | (refine neN ?_; (try dsimp only); omega))
  (k_with "base k_steps" => (try ((fail_if_success (fail_if_success k_fold)); refine (let Q9z : _ → Shared → Prop := _; (?_ : wpAny _ _ _ Q9z _ _)))); (try ((fail_if_success (fail_if_success (conv in (Shared.mk _ _ _ _ _) => skip))); refine (let s9z : Shared := _; (?_ : wpAny _ _ _ _ _ s9z)))); (try ((with_reducible rename News _ _ _ (List.cons _ _) => N9z); refine (let NW9z : List (Addr × Obj) := _; have N8z : News _ _ _ (Mine.Fold NW9z) := N9z; ?_); clear N9z)); (try ((with_reducible rename Fr _ _ _ (fun _ => ite _ _ _) => F9z); refine (let FM9z : Str → Option Value := _; have F8z : Fr _ _ _ (Mine.Fold FM9z) := F9z; ?_); clear F9z)); repeat' (first | ((fail_if_success (fail_if_success k_unfold)); refine (?_ : wpAny _ _ _ _ _ _); (try ((fail_if_success (fail_if_success k_fold)); refine (let Q9z : _ → Shared → Prop := _; (?_ : wpAny _ _ _ Q9z _ _)))); (try ((fail_if_success (fail_if_success (conv in (Shared.mk _ _ _ _ _) => skip))); refine (let s9z : Shared := _; (?_ : wpAny _ _ _ _ _ s9z))))) | (k_unfold; (try dsimp only)) | (k_end; wrow_close) | ((first | walk1 | (dsimp only; walk1)); (try ((fail_if_success (fail_if_success k_fold)); refine (let Q9z : _ → Shared → Prop := _; (?_ : wpAny _ _ _ Q9z _ _)))); (try ((fail_if_success (fail_if_success (conv in (Shared.mk _ _ _ _ _) => skip))); refine (let s9z : Shared := _; (?_ : wpAny _ _ _ _ _ s9z)))); (try ((with_reducible rename News _ _ _ (List.cons _ _) => N9z); refine (let NW9z : List (Addr × Obj) := _; have N8z : News _ _ _ (Mine.Fold NW9z) := N9z; ?_); clear N9z)); (try ((with_reducible rename Fr _ _ _ (fun _ => ite _ _ _) => F9z); refine (let FM9z : Str → Option Value := _; have F8z : Fr _ _ _ (Mine.Fold FM9z) := F9z; ?_); clear F9z))) | (leave1; walk_say "STEP leave1"; try dsimp only) | fail "no step"))
  (k_with "mine env" => refine (let ev9 : Env := _; let A9 : Around := _; (?_ : wpAny _ A9 (execs _ ev9) _ _ _)))
  (k_with "mine sides" => ((case ho => k_is); (case hcd => k_is); (case hroom => (first | assumption | exact room0 (by assumption) rfl | omega | (dsimp only [Ar]; omega))); (case hbind => exact BindsTo.of_eq rfl); (case hloc => exact locs rfl); (case c2 => exact rfl); (case c3 => exact rfl); (case c4 => exact rfl); (case c5 => decide)))
  (k_with "subscriptTail" => (k_here; k_dflt (first
  | ((with_reducible show wpAny _ _ (subscriptTail _ _ (Value.ref _) (Value.int 0 _)) _ _ _); refine' T_item0 ?F9w ?e9w ?_; (case F9w => k_asm); (case e9w => assumption); k_whole)
  | ((with_reducible show wpAny _ _ (subscriptTail _ _ (Value.ref _) (Value.int 1 _)) _ _ _); refine' T_item1 ?F9w ?e9w ?_; (case F9w => k_asm); (case e9w => assumption); k_whole)
  | ((with_reducible show wpAny _ _ (subscriptTail _ _ (Value.ref _) (Value.int 2 _)) _ _ _); refine' T_item2 ?F9w ?e9w ?_; (case F9w => k_asm); (case e9w => assumption); k_whole))))
  (k_with "mine units" => (first | assumption | exact room (j := 1) (by assumption) rfl rfl | exact room (j := 3) (by assumption) rfl rfl | exact room (j := 2) (by assumption) rfl rfl | exact room (j := 4) (by assumption) rfl rfl | exact room (j := 5) (by assumption) rfl rfl | exact room (j := 0) (by assumption) rfl rfl | exact roomj (j := 3) (by assumption) rfl rfl | exact roomj (j := 1) (by assumption) rfl rfl | omega | (dsimp +zetaDelta only [Around.deeper, Ar, Around.in1, Around.mark]; omega)))
  (k_with "call ref" => (k_here; refine' call_sp1 ?r9w ?S9w ?F9w ?N9w ?st9w ?hh9w ?hg9w ?d9w ?u9w ?_; (case r9w => assumption); (case S9w => assumption); (case F9w => k_asm); (case N9w => k_asm); (case st9w => assumption); (case hh9w => rfl); (case hg9w => rfl); (case d9w => walk_at "mine units"); (case u9w => walk_at "mine units"); intro r9w30' h9w30' tk9w30' F9w30' N9w30' b9w30' p9w30'; (first | (obtain ⟨⟨t9w30', e9w30'⟩, _⟩ := p9w30'; subst e9w30') | (obtain ⟨e9w30', _⟩ := p9w30'; subst e9w30')); (try k_sweep)))
  (k_with "spliced" => (k_here; k_dflt (refine' argsM ?a9w ?F9w ?e9w ?_; (case F9w => k_asm); (case a9w => rfl); (case e9w => rfl)); intro s9w31'))
  (k_with "eval Constant str" => (refine constStrM ?_; intro s9w32'))
  (k_with "eval Constant int" => (refine constIntM ?_; intro s9w33'))
  (k_with "eval Name" => (k_here; k_dflt (first | ((with_reducible show wpAny _ _ (PySem.eval _ (compEnvC _ _ _ _)) _ _ _); first | (refine' nm_comp ?n9w ?m9w ?_ ?k9w ?l9w ?d9w; (case k9w => with_unfolding_all rfl); (case l9w => with_unfolding_all rfl); (case n9w => assumption); (case m9w => assumption); (case d9w => decide)) | (refine' nm_compC ?N9w ?c9w ?m9w ?d9w ?_ ?k9w ?l9w ?e9w; (case k9w => with_unfolding_all rfl); (case l9w => with_unfolding_all rfl); (case N9w => k_asm); (case c9w => with_unfolding_all rfl); (case m9w => k_mem); (case d9w => k_asm); (case e9w => decide))) | ((fail_if_success (with_reducible show wpAny _ _ (PySem.eval _ (compEnvC _ _ _ _)) _ _ _)); first | (refine' nameS ?a9w ?e9w ?F9w ?_; (case F9w => k_asm); (case a9w => rfl); (case e9w => rfl)) | (refine' nameK ?a9w ?g9w ?F9w ?X9w ?T9w ?e9w ?_; (case a9w => rfl); (case g9w => rfl); (case F9w => k_asm); (case X9w => k_asm); (case T9w => k_asm); (case e9w => k_is); k_whole) | (refine' nameB ?a9w ?g9w ?F9w ?X9w ?T9w ?e9w ?v9w ?n9w ?_; (case a9w => rfl); (case g9w => rfl); (case F9w => k_asm); (case X9w => k_asm); (case T9w => k_asm); (case e9w => k_is); (case v9w => boot_fast); (case n9w => decide); k_whole)))))
  (k_with "storeName" => (k_here; k_dflt (refine' storeM ?a9w ?b9w ?F9w ?N9w ?_; (case a9w => rfl); (case b9w => rfl); (case F9w => k_asm); (case N9w => k_asm)); intro h9w35' FM99w35 s9w35' F9w35' N9w35'; (try k_sweep)))
  trivial
noncomputable def dInt8 : Dat := .tuple [.str (Str.ofString "int"), .str (Str.ofString "int8")]
noncomputable def dBool : Dat := .tuple [.str (Str.ofString "bool")]
noncomputable def dIntInt : Dat := .tuple [.str (Str.ofString "int"), .str (Str.ofString "int")]
noncomputable def dSlice : Dat := .tuple [.str (Str.ofString "slice"), dIntInt]
noncomputable def dString : Dat := .tuple [.str (Str.ofString "string")]
noncomputable def dNamed : Dat := .tuple [.str (Str.ofString "named"), .str (Str.ofString "main.T")]
noncomputable def dPtr : Dat := .tuple [.str (Str.ofString "ptr"), dNamed]
noncomputable def dMap : Dat := .tuple [.str (Str.ofString "map"), dString, dPtr]
noncomputable abbrev TyS (w : World) (H : Heap) (dk uk : Nat) (d : Dat) (x : Str) : Prop := Sp w H 98 dk uk (fun h args => ∃ v, args = [v] ∧ Rd h v d) (fun h _ h' r => (∃ t, r = .str x t) ∧ But [] h h')
section
variable {w : World} {mean : ExcName → Option Value} {mg mb : Str → Option Value} {H : Heap}
theorem ty_int8 (B : Bs w mean mg mb H) : TyS w H 2 8 dInt8 (Str.ofString "int8") := by
  refine Sp.intro ?_
  rintro dp un fr s args R hst hdp hun ⟨v, rfl, hv⟩ hR
  obtain ⟨a0, vs0, n0, rfl, e, l, q⟩ := Rd.tupI hv
  obtain ⟨w0, ws0, rfl, r0, q0⟩ := q.consI
  obtain ⟨w1, ws1, rfl, r1, q1⟩ := q0.consI
  obtain rfl := q1.nilI
  obtain ⟨t0, rfl⟩ := r0.strI
  obtain ⟨t1, rfl⟩ := r1.strI
  refine' enter0 (binds := [(Str.ofString "T", .ref a0)]) hst B ?ho ?hcd ?hroom ?hbind ?hloc ?h ?c2 ?c3 ?c4 ?c5
  walk_at "mine sides"
  intro L h₁ F N X T
  (try simp only [List.reverse_cons, List.reverse_nil, List.nil_append, List.cons_append] at F)
  (try dsimp only)
  walk_at "mine env"
  have hcL := cLine_is
  k_steps
  all_goals exact hR _ _ _ ⟨⟨_, rfl⟩, fun b o e _ => Fr.keep (by assumption) b o e⟩
theorem ty_bool (B : Bs w mean mg mb H) : TyS w H 2 8 dBool (Str.ofString "bool") := by
  refine Sp.intro ?_
  rintro dp un fr s args R hst hdp hun ⟨v, rfl, hv⟩ hR
  obtain ⟨a0, vs0, n0, rfl, e, l, q⟩ := Rd.tupI hv
  obtain ⟨w0, ws0, rfl, r0, q0⟩ := q.consI
  obtain rfl := q0.nilI
  obtain ⟨t0, rfl⟩ := r0.strI
  refine' enter0 (binds := [(Str.ofString "T", .ref a0)]) hst B ?ho ?hcd ?hroom ?hbind ?hloc ?h ?c2 ?c3 ?c4 ?c5
  walk_at "mine sides"
  intro L h₁ F N X T
  (try simp only [List.reverse_cons, List.reverse_nil, List.nil_append, List.cons_append] at F)
  (try dsimp only)
  walk_at "mine env"
  have hcL := cLine_is
  k_steps
  all_goals exact hR _ _ _ ⟨⟨_, rfl⟩, fun b o e _ => Fr.keep (by assumption) b o e⟩
theorem ty_int (B : Bs w mean mg mb H) : TyS w H 2 8 dIntInt (Str.ofString "int") := by
  refine Sp.intro ?_
  rintro dp un fr s args R hst hdp hun ⟨v, rfl, hv⟩ hR
  obtain ⟨a0, vs0, n0, rfl, e, l, q⟩ := Rd.tupI hv
  obtain ⟨w0, ws0, rfl, r0, q0⟩ := q.consI
  obtain ⟨w1, ws1, rfl, r1, q1⟩ := q0.consI
  obtain rfl := q1.nilI
  obtain ⟨t0, rfl⟩ := r0.strI
  obtain ⟨t1, rfl⟩ := r1.strI
  refine' enter0 (binds := [(Str.ofString "T", .ref a0)]) hst B ?ho ?hcd ?hroom ?hbind ?hloc ?h ?c2 ?c3 ?c4 ?c5
  walk_at "mine sides"
  intro L h₁ F N X T
  (try simp only [List.reverse_cons, List.reverse_nil, List.nil_append, List.cons_append] at F)
  (try dsimp only)
  walk_at "mine env"
  have hcL := cLine_is
  k_steps
  all_goals exact hR _ _ _ ⟨⟨_, rfl⟩, fun b o e _ => Fr.keep (by assumption) b o e⟩
theorem ty_string (B : Bs w mean mg mb H) : TyS w H 2 8 dString (Str.ofString "string") := by
  refine Sp.intro ?_
  rintro dp un fr s args R hst hdp hun ⟨v, rfl, hv⟩ hR
  obtain ⟨a0, vs0, n0, rfl, e, l, q⟩ := Rd.tupI hv
  obtain ⟨w0, ws0, rfl, r0, q0⟩ := q.consI
  obtain rfl := q0.nilI
  obtain ⟨t0, rfl⟩ := r0.strI
  refine' enter0 (binds := [(Str.ofString "T", .ref a0)]) hst B ?ho ?hcd ?hroom ?hbind ?hloc ?h ?c2 ?c3 ?c4 ?c5
  walk_at "mine sides"
  intro L h₁ F N X T
  (try simp only [List.reverse_cons, List.reverse_nil, List.nil_append, List.cons_append] at F)
  (try dsimp only)
  walk_at "mine env"
  have hcL := cLine_is
  k_steps
  all_goals exact hR _ _ _ ⟨⟨_, rfl⟩, fun b o e _ => Fr.keep (by assumption) b o e⟩
theorem ty_named (B : Bs w mean mg mb H) : TyS w H 2 8 dNamed (Str.ofString "main.T") := by
  refine Sp.intro ?_
  rintro dp un fr s args R hst hdp hun ⟨v, rfl, hv⟩ hR
  obtain ⟨a0, vs0, n0, rfl, e, l, q⟩ := Rd.tupI hv
  obtain ⟨w0, ws0, rfl, r0, q0⟩ := q.consI
  obtain ⟨w1, ws1, rfl, r1, q1⟩ := q0.consI
  obtain rfl := q1.nilI
  obtain ⟨t0, rfl⟩ := r0.strI
  obtain ⟨t1, rfl⟩ := r1.strI
  refine' enter0 (binds := [(Str.ofString "T", .ref a0)]) hst B ?ho ?hcd ?hroom ?hbind ?hloc ?h ?c2 ?c3 ?c4 ?c5
  walk_at "mine sides"
  intro L h₁ F N X T
  (try simp only [List.reverse_cons, List.reverse_nil, List.nil_append, List.cons_append] at F)
  (try dsimp only)
  walk_at "mine env"
  have hcL := cLine_is
  k_steps
  all_goals exact hR _ _ _ ⟨⟨_, rfl⟩, fun b o e _ => Fr.keep (by assumption) b o e⟩
theorem ty_ptr (B : Bs w mean mg mb H) : TyS w H 5 20 dPtr (Str.ofString "*main.T") := by
  have S0 := ty_named B
  refine Sp.intro ?_
  rintro dp un fr s args R hst hdp hun ⟨v, rfl, hv⟩ hR
  obtain ⟨a0, vs0, n0, rfl, e, l, q⟩ := Rd.tupI hv
  obtain ⟨w0, ws0, rfl, r0, q0⟩ := q.consI
  obtain ⟨w1, ws1, rfl, r1, q1⟩ := q0.consI
  obtain rfl := q1.nilI
  obtain ⟨t0, rfl⟩ := r0.strI
  refine' enter0 (binds := [(Str.ofString "T", .ref a0)]) hst B ?ho ?hcd ?hroom ?hbind ?hloc ?h ?c2 ?c3 ?c4 ?c5
  walk_at "mine sides"
  intro L h₁ F N X T
  (try simp only [List.reverse_cons, List.reverse_nil, List.nil_append, List.cons_append] at F)
  (try dsimp only)
  walk_at "mine env"
  have hcL := cLine_is
  k_steps
  all_goals exact hR _ _ _ ⟨⟨_, rfl⟩, fun b o e _ => Fr.keep (by assumption) b o e⟩
theorem ty_slice (B : Bs w mean mg mb H) : TyS w H 5 20 dSlice (Str.ofString "[]int") := by
  have S0 := ty_int B
  refine Sp.intro ?_
  rintro dp un fr s args R hst hdp hun ⟨v, rfl, hv⟩ hR
  obtain ⟨a0, vs0, n0, rfl, e, l, q⟩ := Rd.tupI hv
  obtain ⟨w0, ws0, rfl, r0, q0⟩ := q.consI
  obtain ⟨w1, ws1, rfl, r1, q1⟩ := q0.consI
  obtain rfl := q1.nilI
  obtain ⟨t0, rfl⟩ := r0.strI
  refine' enter0 (binds := [(Str.ofString "T", .ref a0)]) hst B ?ho ?hcd ?hroom ?hbind ?hloc ?h ?c2 ?c3 ?c4 ?c5
  walk_at "mine sides"
  intro L h₁ F N X T
  (try simp only [List.reverse_cons, List.reverse_nil, List.nil_append, List.cons_append] at F)
  (try dsimp only)
  walk_at "mine env"
  have hcL := cLine_is
  k_steps
  all_goals exact hR _ _ _ ⟨⟨_, rfl⟩, fun b o e _ => Fr.keep (by assumption) b o e⟩
theorem ty_map (B : Bs w mean mg mb H) : TyS w H 9 40 dMap (Str.ofString "map[string]*main.T") := by
  have S0 := ty_string B
  have S1 := ty_ptr B
  refine Sp.intro ?_
  rintro dp un fr s args R hst hdp hun ⟨v, rfl, hv⟩ hR
  obtain ⟨a0, vs0, n0, rfl, e, l, q⟩ := Rd.tupI hv
  obtain ⟨w0, ws0, rfl, r0, q0⟩ := q.consI
  obtain ⟨w1, ws1, rfl, r1, q1⟩ := q0.consI
  obtain ⟨w2, ws2, rfl, r2, q2⟩ := q1.consI
  obtain rfl := q2.nilI
  obtain ⟨t0, rfl⟩ := r0.strI
  refine' enter0 (binds := [(Str.ofString "T", .ref a0)]) hst B ?ho ?hcd ?hroom ?hbind ?hloc ?h ?c2 ?c3 ?c4 ?c5
  walk_at "mine sides"
  intro L h₁ F N X T
  (try simp only [List.reverse_cons, List.reverse_nil, List.nil_append, List.cons_append] at F)
  (try dsimp only)
  walk_at "mine env"
  have hcL := cLine_is
  k_steps
  all_goals exact hR _ _ _ ⟨⟨_, rfl⟩, fun b o e _ => Fr.keep (by assumption) b o e⟩
end
noncomputable def kinds : List Dat := [dInt8, dBool, dSlice, dMap]
noncomputable def tyText : Dat → Str
  | .tuple [.str x, .str y] => y
  | .tuple [.str x] => x
  | .tuple [.str x, _] => Str.ofString "[]int"
  | _ => Str.ofString "map[string]*main.T"
theorem type_text_spec {w : World} {mean : ExcName → Option Value} {mg mb : Str → Option Value} {H : Heap} (B : Bs w mean mg mb H) (d : Dat) (hd : d ∈ kinds) : TyS w H 9 40 d (tyText d) := by
  have up : ∀ {dk uk : Nat} {d : Dat} {x : Str}, dk ≤ 9 → uk ≤ 40 → TyS w H dk uk d x → TyS w H 9 40 d x := fun h1 h2 S A s args R a b c d e => S A s args R a b c (Nat.lt_of_le_of_lt (Nat.add_le_add_left h1 _) d) (Nat.lt_of_le_of_lt (Nat.add_le_add_left h2 _) e)
  simp only [kinds, List.mem_cons, List.not_mem_nil, or_false] at hd
  rcases hd with rfl | rfl | rfl | rfl
  · exact up (by decide) (by decide) (ty_int8 B)
  · exact up (by decide) (by decide) (ty_bool B)
  · exact up (by decide) (by decide) (ty_slice B)
  · exact up (by decide) (by decide) (ty_map B)
end Mine
-- F4
namespace Mine
theorem words4 : True := by
  k_with_none
  (k_with "base k_mem" => first | exact Mine.memAt 0 rfl | exact Mine.memAt 1 rfl | exact Mine.memAt 2 rfl | exact Mine.memAt 3 rfl | exact Mine.memAt 4 rfl | exact Mine.memAt 5 rfl | exact Mine.memAt 6 rfl | exact Mine.memAt 7 rfl | (refine Mine.memSkip 8 rfl ?_; k_mem))
  (k_with "base k_all" => first | exact Mine.allNe (by with_reducible assumption) | with_reducible assumption | exact List.forall_mem_nil _ | (with_reducible refine' Mine.allApp ?a ?b; (case a => k_all); (case b => k_all)) | (refine' List.forall_mem_cons.mpr ⟨?a, ?b⟩; (case a => k_ne); (case b => k_all)) | assumption)
  (k_with "base k_ne" => first | with_reducible assumption | (refine Mine.ne_hi ?_; exact Mine.lt_mem (by with_reducible assumption) (by k_mem)) | exact Mine.neAt (by with_reducible assumption) (by k_mem) | exact Mine.neAt' (by with_reducible assumption) (by k_mem) | (refine Mine.ne_hi ?_; with_reducible first | assumption | exact Mine.pj0 (by assumption) | exact Mine.pj1 (by assumption) | exact Mine.pl1 (by assumption) | exact Mine.pj2 (by assumption) | exact Mine.pl2 (by assumption) | exact Mine.pj3 (by assumption) | exact Mine.pl3 (by assumption) | exact Mine.pj4 (by assumption) | exact Mine.pl4 (by assumption) | exact Mine.pj5 (by assumption) | exact Mine.pl5 (by assumption) | exact Mine.pj6 (by assumption) | exact Mine.pl6 (by assumption) | exact Mine.pj7 (by assumption) | exact Mine.pl7 (by assumption) | exact Mine.pj8 (by assumption) | exact Mine.pj9 (by assumption) | exact Mine.pj10 (by assumption) | exact Mine.pj11 (by assumption) | exact Mine.pj12 (by assumption) | exact Mine.pj13 (by assumption) | exact Mine.pj14 (by assumption)) | exact Ne.symm (by with_reducible assumption) | exact Ne.symm (by assumption) | (refine neN ?_; (try dsimp only); omega))
  (k_with "base k_steps" => (try ((fail_if_success (fail_if_success k_fold)); refine (let Q9z : _ → Shared → Prop := _; (?_ : wpAny _ _ _ Q9z _ _)))); (try ((fail_if_success (fail_if_success (conv in (Shared.mk _ _ _ _ _) => skip))); refine (let s9z : Shared := _; (?_ : wpAny _ _ _ _ _ s9z)))); (try ((with_reducible rename News _ _ _ (List.cons _ _) => N9z); refine (let NW9z : List (Addr × Obj) := _; have N8z : News _ _ _ (Mine.Fold NW9z) := N9z; ?_); clear N9z)); (try ((with_reducible rename Fr _ _ _ (fun _ => ite _ _ _) => F9z); refine (let FM9z : Str → Option Value := _; have F8z : Fr _ _ _ (Mine.Fold FM9z) := F9z; ?_); clear F9z)); repeat' (first | ((fail_if_success (fail_if_success k_unfold)); refine (?_ : wpAny _ _ _ _ _ _); (try ((fail_if_success (fail_if_success k_fold)); refine (let Q9z : _ → Shared → Prop := _; (?_ : wpAny _ _ _ Q9z _ _)))); (try ((fail_if_success (fail_if_success (conv in (Shared.mk _ _ _ _ _) => skip))); refine (let s9z : Shared := _; (?_ : wpAny _ _ _ _ _ s9z))))) | (k_unfold; (try dsimp only)) | (k_end; wrow_close) | ((first | walk1 | (dsimp only; walk1)); (try ((fail_if_success (fail_if_success k_fold)); refine (let Q9z : _ → Shared → Prop := _; (?_ : wpAny _ _ _ Q9z _ _)))); (try ((fail_if_success (fail_if_success (conv in (Shared.mk _ _ _ _ _) => skip))); refine (let s9z : Shared := _; (?_ : wpAny _ _ _ _ _ s9z)))); (try ((with_reducible rename News _ _ _ (List.cons _ _) => N9z); refine (let NW9z : List (Addr × Obj) := _; have N8z : News _ _ _ (Mine.Fold NW9z) := N9z; ?_); clear N9z)); (try ((with_reducible rename Fr _ _ _ (fun _ => ite _ _ _) => F9z); refine (let FM9z : Str → Option Value := _; have F8z : Fr _ _ _ (Mine.Fold FM9z) := F9z; ?_); clear F9z))) | (leave1; walk_say "STEP leave1"; try dsimp only) | fail "no step"))
  (k_with "mine env" => refine (let ev9 : Env := _; let A9 : Around := _; (?_ : wpAny _ A9 (execs _ ev9) _ _ _)))
  (k_with "mine sides" => ((case ho => k_is); (case hcd => k_is); (case hroom => (first | assumption | exact room0 (by assumption) rfl | omega | (dsimp only [Ar]; omega))); (case hbind => exact BindsTo.of_eq rfl); (case hloc => exact locs rfl); (case c2 => exact rfl); (case c3 => exact rfl); (case c4 => exact rfl); (case c5 => decide)))
  (k_with "call builtin:isinstance" => (k_here; (with_reducible show wpAny _ _ (PySem.call _ [Value.ref _, Value.type _]) _ _ _); (first | refine' T_isi ?F9w ?e9w ?_ | refine' T_isi_bool ?F9w ?e9w ?_ | refine' T_isi_bytes ?F9w ?e9w ?_ | refine' T_isi_int ?F9w ?e9w ?_ | refine' T_isi_str ?F9w ?e9w ?_); (case F9w => k_asm); (case e9w => assumption); k_whole))
  (k_with "subscriptTail" => (k_here; k_dflt (first
  | ((with_reducible show wpAny _ _ (subscriptTail _ _ (Value.ref _) (Value.int 0 _)) _ _ _); refine' T_item0 ?F9w ?e9w ?_; (case F9w => k_asm); (case e9w => assumption); k_whole)
  | ((with_reducible show wpAny _ _ (subscriptTail _ _ (Value.ref _) (Value.int 1 _)) _ _ _); refine' T_item1 ?F9w ?e9w ?_; (case F9w => k_asm); (case e9w => assumption); k_whole)
  | ((with_reducible show wpAny _ _ (subscriptTail _ _ (Value.ref _) (Value.int 2 _)) _ _ _); refine' T_item2 ?F9w ?e9w ?_; (case F9w => k_asm); (case e9w => assumption); k_whole))))
  (k_with "mine units" => (first | assumption | exact room (j := 1) (by assumption) rfl rfl | exact room (j := 3) (by assumption) rfl rfl | exact room (j := 2) (by assumption) rfl rfl | exact room (j := 4) (by assumption) rfl rfl | exact room (j := 5) (by assumption) rfl rfl | exact room (j := 0) (by assumption) rfl rfl | exact roomj (j := 3) (by assumption) rfl rfl | exact roomj (j := 1) (by assumption) rfl rfl | omega | (dsimp +zetaDelta only [Around.deeper, Ar, Around.in1, Around.mark]; omega)))
  (k_with "eval ListComp" => (k_here; refine' comp_K [] ?hclos9w ?hcell9w ?hkind9w ?hnames9w ?hx9w ?F9w ?_ ?hs9w; (case hclos9w => with_unfolding_all rfl); (case hcell9w => decide); (case hkind9w => with_unfolding_all rfl); (case hnames9w => decide); (case hx9w => with_unfolding_all rfl); (case F9w => k_asm); (case hs9w => intro _; with_unfolding_all rfl)))
  (k_with "call builtin:str.join" => (k_here; refine' T_join ?N9w ?m9w ?i9w ?j9w ?_; (case N9w => k_asm); (case m9w => k_mem); (case i9w => assumption); (case j9w => assumption); intro t9w41' k9w41' l9w41'))
  (k_with "call ref" => (k_here; refine' call_sp1 ?r9w ?S9w ?F9w ?N9w ?st9w ?hh9w ?hg9w ?d9w ?u9w ?_; (case r9w => assumption); (case S9w => assumption); (case F9w => k_asm); (case N9w => k_asm); (case st9w => assumption); (case hh9w => rfl); (case hg9w => rfl); (case d9w => walk_at "mine units"); (case u9w => walk_at "mine units"); intro r9w42' h9w42' tk9w42' F9w42' N9w42' b9w42' p9w42'; (first | (obtain ⟨⟨t9w42', e9w42'⟩, _⟩ := p9w42'; subst e9w42') | (obtain ⟨e9w42', _⟩ := p9w42'; subst e9w42')); (try k_sweep)))
  (k_with "spliced" => (k_here; k_dflt (refine' argsM ?a9w ?F9w ?e9w ?_; (case F9w => k_asm); (case a9w => rfl); (case e9w => rfl)); intro s9w43'))
  (k_with "eval Constant str" => (refine constStrM ?_; intro s9w44'))
  (k_with "eval Constant int" => (refine constIntM ?_; intro s9w45'))
  (k_with "eval Name" => (k_here; k_dflt (first | ((with_reducible show wpAny _ _ (PySem.eval _ (compEnvC _ _ _ _)) _ _ _); first | (refine' nm_comp ?n9w ?m9w ?_ ?k9w ?l9w ?d9w; (case k9w => with_unfolding_all rfl); (case l9w => with_unfolding_all rfl); (case n9w => assumption); (case m9w => assumption); (case d9w => decide)) | (refine' nm_compC ?N9w ?c9w ?m9w ?d9w ?_ ?k9w ?l9w ?e9w; (case k9w => with_unfolding_all rfl); (case l9w => with_unfolding_all rfl); (case N9w => k_asm); (case c9w => with_unfolding_all rfl); (case m9w => k_mem); (case d9w => k_asm); (case e9w => decide))) | ((fail_if_success (with_reducible show wpAny _ _ (PySem.eval _ (compEnvC _ _ _ _)) _ _ _)); first | (refine' nameS ?a9w ?e9w ?F9w ?_; (case F9w => k_asm); (case a9w => rfl); (case e9w => rfl)) | (refine' nameK ?a9w ?g9w ?F9w ?X9w ?T9w ?e9w ?_; (case a9w => rfl); (case g9w => rfl); (case F9w => k_asm); (case X9w => k_asm); (case T9w => k_asm); (case e9w => k_is); k_whole) | (refine' nameB ?a9w ?g9w ?F9w ?X9w ?T9w ?e9w ?v9w ?n9w ?_; (case a9w => rfl); (case g9w => rfl); (case F9w => k_asm); (case X9w => k_asm); (case T9w => k_asm); (case e9w => k_is); (case v9w => boot_fast); (case n9w => decide); k_whole)))))
  trivial
inductive OpOk : Dat → Prop
  | reg (i : Int) : 0 ≤ i → i < 100 → OpOk (.tuple [.str (Str.ofString "reg"), .int i])
  | const (k c : Dat) : k ∈ kinds → cvOk 4 c = true → OpOk (.tuple [.str (Str.ofString "const"), k, c])
noncomputable def opText : Dat → Str
  | .tuple [_, .int i] => Str.ofString "r" ++ Str.ofString (toString i)
  | .tuple [_, k, c] => ctext 4 c ++ Str.ofString ": " ++ tyText k
  | _ => Str.empty
theorem tyText_len {d : Dat} (h : d ∈ kinds) : (tyText d).length ≤ 18 := by
  simp only [kinds, List.mem_cons, List.not_mem_nil, or_false] at h
  rcases h with rfl | rfl | rfl | rfl <;> decide
theorem operand_text_spec {w : World} {mean : ExcName → Option Value} {mg mb : Str → Option Value} {H : Heap} (B : Bs w mean mg mb H) (d : Dat) (hd : OpOk d) :
    Sp w H 111 24 100 (fun h args => ∃ v, args = [v] ∧ Rd h v d) (fun h _ h' r => (∃ t, r = .str (opText d) t) ∧ But [] h h') := by
  refine Sp.intro ?_
  rintro dp un fr s args R hst hdp hun ⟨v, rfl, hv⟩ hR
  refine' enter0 (binds := [(Str.ofString "operand", v)]) hst B ?ho ?hcd ?hroom ?hbind ?hloc ?h ?c2 ?c3 ?c4 ?c5
  walk_at "mine sides"
  intro L h₁ F N X T
  (try simp only [List.reverse_cons, List.reverse_nil, List.nil_append, List.cons_append] at F)
  (try dsimp only)
  walk_at "mine env"
  have hcL := cLine_is
  cases hd with
  | reg i h1 h2 =>
    cases hv with
    | tuple e l r =>
    cases r with
    | cons r0 r =>
    cases r with
    | cons r1 r =>
    cases r
    cases r0
    cases r1
    have hlen : (Str.ofString (toString i)).length ≤ 10 := Nat.le_trans (int_len' i (by omega) (by omega)) (by decide)
    k_steps
    all_goals exact hR _ _ _ ⟨⟨_, rfl⟩, fun b o e _ => Fr.keep (by assumption) b o e⟩
  | const k c hk hc =>
    have S0 := constant_text_spec B 4 (by decide) c hc
    have S1 := type_text_spec B k hk
    have l0 := ctext_len 4 c hc
    have l1 := tyText_len hk
    simp only [clen] at l0
    have e9 : opText (.tuple [.str (Str.ofString "const"), k, c]) = ctext 4 c ++ Str.ofString ": " ++ tyText k := by cases k <;> first | rfl | (exfalso; revert hk; simp [kinds, dInt8, dBool, dSlice, dMap])
    cases hv with
    | tuple e l r =>
    cases r with
    | cons r0 r =>
    cases r with
    | cons r1 r =>
    cases r with
    | cons r2 r =>
    cases r
    cases r0
    k_steps
    all_goals exact hR _ _ _ ⟨⟨_, by rw [e9]⟩, fun b o e _ => Fr.keep (by assumption) b o e⟩
inductive PartOk : Nat → Dat → Prop
  | none (n : Nat) : PartOk n .none
  | bool (n : Nat) (b : Bool) : PartOk n (.bool b)
  | int (n : Nat) (i : Int) : -1000 < i → i < 1000 → PartOk n (.int i)
  | str (n : Nat) (x : Str) : x.length ≤ 20 → PartOk n (.str x)
  | op (n : Nat) (d : Dat) : OpOk d → PartOk n d
  | kind (n : Nat) (d : Dat) : d ∈ kinds → PartOk n d
  | tup (n : Nat) (ds : List Dat) : isOp (.tuple ds) = false → isTold (.tuple ds) = false → headOk (.tuple ds) = true → ds.length ≤ 6 → (∀ d ∈ ds, PartOk n d) → PartOk (n + 1) (.tuple ds)
noncomputable def ptext : Nat → Dat → Str
  | _, .none => Str.ofString "none"
  | _, .bool b => if b then Str.ofString "True" else Str.ofString "False"
  | _, .int i => Str.ofString (toString i)
  | _, .str x => x
  | 0, .tuple ds => if isOp (.tuple ds) then opText (.tuple ds) else tyText (.tuple ds)
  | n + 1, .tuple ds => if isOp (.tuple ds) then opText (.tuple ds) else if isTold (.tuple ds) then tyText (.tuple ds) else Str.ofString "(" ++ Str.join (Str.ofString ", ") (ds.map (ptext n)) ++ Str.ofString ")"
  | _, _ => Str.empty
theorem op_isOp {d : Dat} (h : OpOk d) : isOp d = true := by cases h <;> (simp [isOp]; try decide)
theorem op_head {d : Dat} (h : OpOk d) : headOk d = true := by cases h <;> rfl
theorem kind_isOp {d : Dat} (h : d ∈ kinds) : isOp d = false := by
  simp only [kinds, List.mem_cons, List.not_mem_nil, or_false] at h
  rcases h with rfl | rfl | rfl | rfl <;> decide
theorem kind_told {d : Dat} (h : d ∈ kinds) : isTold d = true := by
  simp only [kinds, List.mem_cons, List.not_mem_nil, or_false] at h
  rcases h with rfl | rfl | rfl | rfl <;> decide
theorem kind_head {d : Dat} (h : d ∈ kinds) : headOk d = true := by
  simp only [kinds, List.mem_cons, List.not_mem_nil, or_false] at h
  rcases h with rfl | rfl | rfl | rfl <;> decide
theorem ptext_op (n : Nat) {d : Dat} (h : OpOk d) : ptext n d = opText d := by
  have q := op_isOp h
  cases h <;> cases n <;> (simp only [ptext, q, if_true])
theorem ptext_kind (n : Nat) {d : Dat} (h : d ∈ kinds) : ptext n d = tyText d := by
  have q := kind_isOp h
  have q2 := kind_told h
  simp only [kinds, List.mem_cons, List.not_mem_nil, or_false] at h
  rcases h with rfl | rfl | rfl | rfl <;> cases n <;> (simp only [dInt8, dBool, dSlice, dMap] at q q2 ⊢; simp only [ptext, q, q2, if_true, Bool.false_eq_true, if_false])
noncomputable def plen : Nat → Nat
  | 0 => 600
  | n + 1 => 6 * (plen n + 2) + 10
theorem opText_len {d : Dat} (h : OpOk d) : (opText d).length ≤ 600 := by
  cases h with
  | reg i h0 h1 =>
    have := int_len' i (by omega) (by omega)
    simp only [opText, Str.length_append, show (Str.ofString "r").length = 1 from by decide]
    omega
  | const k c hk hc =>
    have h1 := ctext_len 4 c hc
    have h2 := tyText_len hk
    have e : opText (.tuple [.str (Str.ofString "const"), k, c]) = ctext 4 c ++ Str.ofString ": " ++ tyText k := by cases k <;> rfl
    rw [e]
    simp only [Str.length_append, show (Str.ofString ": ").length = 2 from by decide]
    simp only [clen] at h1
    omega
theorem ptext_len : ∀ (n : Nat) (d : Dat), PartOk n d → (ptext n d).length ≤ plen n := by
  have hp : ∀ n, 600 ≤ plen n := fun n => by induction n with
    | zero => decide
    | succ n ih => simp only [plen]; omega
  intro n
  induction n with
  | zero =>
    intro d h
    cases h with
    | none => decide
    | bool _ b => cases b <;> decide
    | int _ i h1 h2 => exact Nat.le_trans (int_len' i h1 h2) (by decide)
    | str _ x h => exact Nat.le_trans h (by decide)
    | op _ _ h => rw [ptext_op _ h]; exact opText_len h
    | kind _ _ h => rw [ptext_kind _ h]; exact Nat.le_trans (tyText_len h) (by decide)
  | succ n ih =>
    intro d h
    have hq := hp (n + 1)
    cases h with
    | none => exact Nat.le_trans (by decide : (Str.ofString "none").length ≤ 600) hq
    | bool _ b => exact Nat.le_trans (by cases b <;> decide : (if b then Str.ofString "True" else Str.ofString "False").length ≤ 600) hq
    | int _ i h1 h2 => exact Nat.le_trans (int_len' i h1 h2) (Nat.le_trans (by decide) hq)
    | str _ x h => exact Nat.le_trans h (Nat.le_trans (by decide) hq)
    | op _ _ h => rw [ptext_op _ h]; exact Nat.le_trans (opText_len h) hq
    | kind _ _ h => rw [ptext_kind _ h]; exact Nat.le_trans (tyText_len h) (Nat.le_trans (by decide) hq)
    | tup _ ds h1 h2 h3 h4 h5 =>
      have k1 : ∀ y ∈ ds.map (ptext n), y.length ≤ plen n := fun y hy => by
        obtain ⟨d, hd, rfl⟩ := List.mem_map.mp hy
        exact ih d (h5 d hd)
      have k2 := len_join (Str.ofString ", ") _ _ k1
      rw [List.length_map, show (Str.ofString ", ").length = 2 from by decide] at k2
      have k3 : ds.length * (plen n + 2) ≤ 6 * (plen n + 2) := Nat.mul_le_mul_right _ h4
      simp only [ptext, h1, h2, Str.length_append, plen, show (Str.ofString "(").length = 1 from by decide, show (Str.ofString ")").length = 1 from by decide, Bool.false_eq_true, if_false]
      omega
noncomputable abbrev PtS (w : World) (H : Heap) (n : Nat) (d : Dat) : Prop := Sp w H 123 (6 * n + 32) (20 * n + 130) (fun h args => ∃ v, args = [v] ∧ Rd h v d) (fun h _ h' r => (∃ t, r = .str (ptext n d) t) ∧ But [] h h')
theorem part_text_step {w : World} {mean : ExcName → Option Value} {mg mb : Str → Option Value} {H : Heap} (B : Bs w mean mg mb H) (n : Nat) (hn : n ≤ 3) (ih : ∀ m, n = m + 1 → ∀ d, PartOk m d → PtS w H m d) (d : Dat) (hd : PartOk n d) : PtS w H n d := by
  refine Sp.intro ?_
  rintro dp un fr s args R hst hdp hun ⟨v, rfl, hv⟩ hR
  refine' enter0 (binds := [(Str.ofString "thing", v)]) hst B ?ho ?hcd ?hroom ?hbind ?hloc ?h ?c2 ?c3 ?c4 ?c5
  walk_at "mine sides"
  intro L h₁ F N X T
  (try simp only [List.reverse_cons, List.reverse_nil, List.nil_append, List.cons_append] at F)
  (try dsimp only)
  walk_at "mine env"
  have hcL := cLine_is
  have hv0 := hv
  cases hd with
  | none =>
    have S0 := is_operand_spec B .none rfl
    have S1 := is_told_spec B .none rfl
    have e : ptext n .none = Str.ofString "none" := by cases n <;> rfl
    cases hv
    k_steps
    all_goals exact hR _ _ _ ⟨⟨_, by rw [e]⟩, fun b o e _ => Fr.keep (by assumption) b o e⟩
  | bool _ b =>
    have S0 := is_operand_spec B (.bool b) rfl
    have S1 := is_told_spec B (.bool b) rfl
    have e : ptext n (.bool b) = if b then Str.ofString "True" else Str.ofString "False" := by cases n <;> rfl
    cases hv
    cases b
    all_goals k_steps
    all_goals exact hR _ _ _ ⟨⟨_, by (rw [e]; try rfl)⟩, fun b o e _ => Fr.keep (by assumption) b o e⟩
  | int _ i h1 h2 =>
    have S0 := is_operand_spec B (.int i) rfl
    have S1 := is_told_spec B (.int i) rfl
    simp only [isOp, isTold] at S0 S1
    have e : ptext n (.int i) = Str.ofString (toString i) := by cases n <;> rfl
    cases hv
    k_steps
    all_goals exact hR _ _ _ ⟨⟨_, by rw [e]⟩, fun b o e _ => Fr.keep (by assumption) b o e⟩
  | str _ x h1 =>
    have S0 := is_operand_spec B (.str x) rfl
    have S1 := is_told_spec B (.str x) rfl
    simp only [isOp, isTold] at S0 S1
    have e : ptext n (.str x) = x := by cases n <;> rfl
    cases hv
    k_steps
    all_goals exact hR _ _ _ ⟨⟨_, by rw [e]⟩, fun b o e _ => Fr.keep (by assumption) b o e⟩
  | op _ _ ho =>
    have S0 := is_operand_spec B d (op_head ho)
    rw [op_isOp ho] at S0
    have S1 := operand_text_spec B d ho
    have e9 := ptext_op n ho
    cases ho
    all_goals
      cases hv
      k_steps
      all_goals exact hR _ _ _ ⟨⟨_, by rw [e9]⟩, fun b o e _ => Fr.keep (by assumption) b o e⟩
  | kind _ _ hk =>
    have S0 := is_operand_spec B d (kind_head hk)
    rw [kind_isOp hk] at S0
    have S1 := is_told_spec B d (kind_head hk)
    rw [kind_told hk] at S1
    have S2 := type_text_spec B d hk
    have e9 := ptext_kind n hk
    have hv1 := hv
    simp only [kinds, List.mem_cons, List.not_mem_nil, or_false] at hk
    obtain ⟨vs, a, rfl⟩ : ∃ (vs : List Value) (a : Addr), v = .ref a := by
      rcases hk with rfl | rfl | rfl | rfl <;> (cases hv1; exact ⟨[], _, rfl⟩)
    obtain ⟨ds, rfl⟩ : ∃ ds, d = .tuple ds := by
      rcases hk with rfl | rfl | rfl | rfl <;> exact ⟨_, rfl⟩
    clear hk
    cases hv
    k_steps
    all_goals exact hR _ _ _ ⟨⟨_, by rw [e9]⟩, fun b o e _ => Fr.keep (by assumption) b o e⟩
  | tup m ds h1 h2 h3 h4 h5 =>
    have ih := ih m rfl
    have S0 := is_operand_spec B _ h3
    rw [h1] at S0
    have S1 := is_told_spec B _ h3
    rw [h2] at S1
    cases hv with
    | tuple e l r =>
    k_steps
    refine CompP.pure_tuple (G := fun i y => ∃ d t, ds[i]? = some d ∧ y = .str (ptext m d) t) rfl (Fr.keep (by assumption) _ _ e) l (by assumption) (by assumption) ?elt ?hQ
    case elt =>
      intro C i v s₃ m₃ E' hv hn hm hb F' N'
      obtain ⟨d', hd', rd⟩ := r.get hv
      have S := ih d' (h5 d' (List.mem_of_getElem? hd'))
      clear S0 S1
      k_steps
      all_goals exact EltEnd.intro (by assumption) ⟨_, _, hd', rfl⟩
    case hQ =>
      intro D h' tk ys k' F' N' hlen hG hb
      have hS := strsAre_of (ptext m) (hlen.trans r.length) hG
      have hJ : JoinOk (Str.ofString ", ") (ds.map (ptext m)) := by
        refine ⟨plen m, ?_, ?_⟩
        · intro y hy
          obtain ⟨d, hd', rfl⟩ := List.mem_map.mp hy
          exact ptext_len m d (h5 d hd')
        · rw [show (Str.ofString ", ").length = 2 from by decide, List.length_map]
          have h6 : plen m + 2 ≤ 100000 := (by decide : ∀ m, m < 3 → plen m + 2 ≤ 100000) m (by omega)
          exact Nat.le_trans (Nat.mul_le_mul h4 h6) (by decide)
      have e9 : ptext (m + 1) (.tuple ds) = Str.ofString "(" ++ Str.join (Str.ofString ", ") (ds.map (ptext m)) ++ Str.ofString ")" := by simp only [ptext, h1, h2, Bool.false_eq_true, if_false]
      k_steps
      all_goals exact hR _ _ _ ⟨⟨_, by rw [e9]⟩, fun b o e _ => Fr.keep (by assumption) b o e⟩
theorem part_text_spec {w : World} {mean : ExcName → Option Value} {mg mb : Str → Option Value} {H : Heap} (B : Bs w mean mg mb H) : ∀ (n : Nat) (hn : n ≤ 3) (d : Dat) (hd : PartOk n d), PtS w H n d
  | 0, hn => part_text_step B 0 hn fun m e => by cases e
  | n + 1, hn => part_text_step B (n + 1) hn fun m e d hd => by cases e; exact part_text_spec B n (by omega) d hd
end Mine
-- F5
namespace Mine
theorem words5 : True := by
  k_with_none
  (k_with "base k_mem" => first | exact Mine.memAt 0 rfl | exact Mine.memAt 1 rfl | exact Mine.memAt 2 rfl | exact Mine.memAt 3 rfl | exact Mine.memAt 4 rfl | exact Mine.memAt 5 rfl | exact Mine.memAt 6 rfl | exact Mine.memAt 7 rfl | (refine Mine.memSkip 8 rfl ?_; k_mem))
  (k_with "base k_all" => first | exact Mine.allNe (by with_reducible assumption) | with_reducible assumption | exact List.forall_mem_nil _ | (with_reducible refine' Mine.allApp ?a ?b; (case a => k_all); (case b => k_all)) | (refine' List.forall_mem_cons.mpr ⟨?a, ?b⟩; (case a => k_ne); (case b => k_all)) | assumption)
  (k_with "base k_ne" => first | with_reducible assumption | (refine Mine.ne_hi ?_; exact Mine.lt_mem (by with_reducible assumption) (by k_mem)) | exact Mine.neAt (by with_reducible assumption) (by k_mem) | exact Mine.neAt' (by with_reducible assumption) (by k_mem) | (refine Mine.ne_hi ?_; with_reducible first | assumption | exact Mine.pj0 (by assumption) | exact Mine.pj1 (by assumption) | exact Mine.pl1 (by assumption) | exact Mine.pj2 (by assumption) | exact Mine.pl2 (by assumption) | exact Mine.pj3 (by assumption) | exact Mine.pl3 (by assumption) | exact Mine.pj4 (by assumption) | exact Mine.pl4 (by assumption) | exact Mine.pj5 (by assumption) | exact Mine.pl5 (by assumption) | exact Mine.pj6 (by assumption) | exact Mine.pl6 (by assumption) | exact Mine.pj7 (by assumption) | exact Mine.pl7 (by assumption) | exact Mine.pj8 (by assumption) | exact Mine.pj9 (by assumption) | exact Mine.pj10 (by assumption) | exact Mine.pj11 (by assumption) | exact Mine.pj12 (by assumption) | exact Mine.pj13 (by assumption) | exact Mine.pj14 (by assumption)) | exact Ne.symm (by with_reducible assumption) | exact Ne.symm (by assumption) | (refine neN ?_; (try dsimp only); omega))
  (k_with "base k_steps" => (try ((fail_if_success (fail_if_success k_fold)); refine (let Q9z : _ → Shared → Prop := _; (?_ : wpAny _ _ _ Q9z _ _)))); (try ((fail_if_success (fail_if_success (conv in (Shared.mk _ _ _ _ _) => skip))); refine (let s9z : Shared := _; (?_ : wpAny _ _ _ _ _ s9z)))); (try ((with_reducible rename News _ _ _ (List.cons _ _) => N9z); refine (let NW9z : List (Addr × Obj) := _; have N8z : News _ _ _ (Mine.Fold NW9z) := N9z; ?_); clear N9z)); (try ((with_reducible rename Fr _ _ _ (fun _ => ite _ _ _) => F9z); refine (let FM9z : Str → Option Value := _; have F8z : Fr _ _ _ (Mine.Fold FM9z) := F9z; ?_); clear F9z)); repeat' (first | ((fail_if_success (fail_if_success k_unfold)); refine (?_ : wpAny _ _ _ _ _ _); (try ((fail_if_success (fail_if_success k_fold)); refine (let Q9z : _ → Shared → Prop := _; (?_ : wpAny _ _ _ Q9z _ _)))); (try ((fail_if_success (fail_if_success (conv in (Shared.mk _ _ _ _ _) => skip))); refine (let s9z : Shared := _; (?_ : wpAny _ _ _ _ _ s9z))))) | (k_unfold; (try dsimp only)) | (k_end; wrow_close) | ((first | walk1 | (dsimp only; walk1)); (try ((fail_if_success (fail_if_success k_fold)); refine (let Q9z : _ → Shared → Prop := _; (?_ : wpAny _ _ _ Q9z _ _)))); (try ((fail_if_success (fail_if_success (conv in (Shared.mk _ _ _ _ _) => skip))); refine (let s9z : Shared := _; (?_ : wpAny _ _ _ _ _ s9z)))); (try ((with_reducible rename News _ _ _ (List.cons _ _) => N9z); refine (let NW9z : List (Addr × Obj) := _; have N8z : News _ _ _ (Mine.Fold NW9z) := N9z; ?_); clear N9z)); (try ((with_reducible rename Fr _ _ _ (fun _ => ite _ _ _) => F9z); refine (let FM9z : Str → Option Value := _; have F8z : Fr _ _ _ (Mine.Fold FM9z) := F9z; ?_); clear F9z))) | (leave1; walk_say "STEP leave1"; try dsimp only) | fail "no step"))
  (k_with "mine env" => refine (let ev9 : Env := _; let A9 : Around := _; (?_ : wpAny _ A9 (execs _ ev9) _ _ _)))
  (k_with "mine sides" => ((case ho => k_is); (case hcd => k_is); (case hroom => (first | assumption | exact room0 (by assumption) rfl | omega | (dsimp only [Ar]; omega))); (case hbind => exact BindsTo.of_eq rfl); (case hloc => exact locs rfl); (case c2 => exact rfl); (case c3 => exact rfl); (case c4 => exact rfl); (case c5 => decide)))
  (k_with "subscriptTail" => (k_here; k_dflt (first
  | ((with_reducible show wpAny _ _ (subscriptTail _ _ (Value.ref _) (Value.int 0 _)) _ _ _); refine' T_item0 ?F9w ?e9w ?_; (case F9w => k_asm); (case e9w => assumption); k_whole)
  | ((with_reducible show wpAny _ _ (subscriptTail _ _ (Value.ref _) (Value.int 1 _)) _ _ _); refine' T_item1 ?F9w ?e9w ?_; (case F9w => k_asm); (case e9w => assumption); k_whole)
  | ((with_reducible show wpAny _ _ (subscriptTail _ _ (Value.ref _) (Value.int 2 _)) _ _ _); refine' T_item2 ?F9w ?e9w ?_; (case F9w => k_asm); (case e9w => assumption); k_whole))))
  (k_with "mine units" => (first | assumption | exact room (j := 1) (by assumption) rfl rfl | exact room (j := 3) (by assumption) rfl rfl | exact room (j := 2) (by assumption) rfl rfl | exact room (j := 4) (by assumption) rfl rfl | exact room (j := 5) (by assumption) rfl rfl | exact room (j := 0) (by assumption) rfl rfl | exact roomj (j := 3) (by assumption) rfl rfl | exact roomj (j := 1) (by assumption) rfl rfl | omega | (dsimp +zetaDelta only [Around.deeper, Ar, Around.in1, Around.mark]; omega)))
  (k_with "eval ListComp" => (k_here; refine' comp_K [] ?hclos9w ?hcell9w ?hkind9w ?hnames9w ?hx9w ?F9w ?_ ?hs9w; (case hclos9w => with_unfolding_all rfl); (case hcell9w => decide); (case hkind9w => with_unfolding_all rfl); (case hnames9w => decide); (case hx9w => with_unfolding_all rfl); (case F9w => k_asm); (case hs9w => intro _; with_unfolding_all rfl)))
  (k_with "call ref" => (k_here; refine' call_sp1 ?r9w ?S9w ?F9w ?N9w ?st9w ?hh9w ?hg9w ?d9w ?u9w ?_; (case r9w => assumption); (case S9w => assumption); (case F9w => k_asm); (case N9w => k_asm); (case st9w => assumption); (case hh9w => rfl); (case hg9w => rfl); (case d9w => walk_at "mine units"); (case u9w => walk_at "mine units"); intro r9w51' h9w51' tk9w51' F9w51' N9w51' b9w51' p9w51'; (first | (obtain ⟨⟨t9w51', e9w51'⟩, _⟩ := p9w51'; subst e9w51') | (obtain ⟨e9w51', _⟩ := p9w51'; subst e9w51')); (try k_sweep)))
  (k_with "subscriptTail Name Slice ref ref" => (k_here; (with_reducible show wpAny _ _ (subscriptTail _ (PySem.Expr.Slice (some (PySem.Expr.Constant (PySem.Const.int 1) _ _)) none none _) (Value.ref _) (Value.ref _)) _ _ _); k_dflt (refine' T_tfrom ?F9w ?N9w ?e9w ?l9w ?_; (case F9w => k_asm); (case N9w => k_asm); (case e9w => assumption); (case l9w => assumption); intro h9w52' q9w52' F9w52' N9w52' l19w52; (try k_lt l19w52); (try k_sweep))))
  (k_with "call builtin:str.join" => (k_here; refine' T_joinA ?N9w ?m9w ?i9w ?j9w ?_; (case N9w => k_asm); (case m9w => k_mem); (case i9w => first | assumption | (simp only [List.toList_toArray, Array.toList_append, List.cons_append, List.nil_append]; (first | assumption | apply_assumption))); (case j9w => assumption); intro t9w53' k9w53' l9w53'))
  (k_with "newList" => (k_here; k_dflt (refine' newListM ?F9w ?N9w ?z9w ?_; (case F9w => k_asm); (case N9w => k_asm); (case z9w => exact Nat.le_of_ble_eq_true rfl)); intro D9w54' h9w54' NW99w54 s9w54' F9w54' N9w54' l19w54; (try k_sweep)))
  (k_with "spliced" => (k_here; k_dflt (refine' argsM ?a9w ?F9w ?e9w ?_; (case F9w => k_asm); (case a9w => rfl); (case e9w => rfl)); intro s9w55'))
  (k_with "eval Constant str" => (refine constStrM ?_; intro s9w56'))
  (k_with "eval Constant int" => (refine constIntM ?_; intro s9w57'))
  (k_with "eval Name" => (k_here; k_dflt (first | ((with_reducible show wpAny _ _ (PySem.eval _ (compEnvC _ _ _ _)) _ _ _); first | (refine' nm_comp ?n9w ?m9w ?_ ?k9w ?l9w ?d9w; (case k9w => with_unfolding_all rfl); (case l9w => with_unfolding_all rfl); (case n9w => assumption); (case m9w => assumption); (case d9w => decide)) | (refine' nm_compC ?N9w ?c9w ?m9w ?d9w ?_ ?k9w ?l9w ?e9w; (case k9w => with_unfolding_all rfl); (case l9w => with_unfolding_all rfl); (case N9w => k_asm); (case c9w => with_unfolding_all rfl); (case m9w => k_mem); (case d9w => k_asm); (case e9w => decide))) | ((fail_if_success (with_reducible show wpAny _ _ (PySem.eval _ (compEnvC _ _ _ _)) _ _ _)); first | (refine' nameS ?a9w ?e9w ?F9w ?_; (case F9w => k_asm); (case a9w => rfl); (case e9w => rfl)) | (refine' nameK ?a9w ?g9w ?F9w ?X9w ?T9w ?e9w ?_; (case a9w => rfl); (case g9w => rfl); (case F9w => k_asm); (case X9w => k_asm); (case T9w => k_asm); (case e9w => k_is); k_whole) | (refine' nameB ?a9w ?g9w ?F9w ?X9w ?T9w ?e9w ?v9w ?n9w ?_; (case a9w => rfl); (case g9w => rfl); (case F9w => k_asm); (case X9w => k_asm); (case T9w => k_asm); (case e9w => k_is); (case v9w => boot_fast); (case n9w => decide); k_whole)))))
  trivial
/-- an instruction as text -/
noncomputable def itext : Dat → Str
  | .tuple (.str w :: ds) => Str.join (Str.ofString " ") (w :: ds.map (ptext 2))
  | _ => Str.empty
inductive InsOk : Dat → Prop
  | mk (w : Str) (ds : List Dat) : w.length ≤ 20 → ds.length ≤ 8 → (∀ d ∈ ds, PartOk 2 d) → InsOk (.tuple (.str w :: ds))
theorem instruction_text_spec {w : World} {mean : ExcName → Option Value} {mg mb : Str → Option Value} {H : Heap} (B : Bs w mean mg mb H) (d : Dat) (hd : InsOk d) :
    Sp w H 128 50 200 (fun h args => ∃ v, args = [v] ∧ Rd h v d) (fun h _ h' r => (∃ t, r = .str (itext d) t) ∧ But [] h h') := by
  refine Sp.intro ?_
  rintro dp un fr s args R hst hdp hun ⟨v, rfl, hv⟩ hR
  refine' enter0 (binds := [(Str.ofString "instruction", v)]) hst B ?ho ?hcd ?hroom ?hbind ?hloc ?h ?c2 ?c3 ?c4 ?c5
  walk_at "mine sides"
  intro L h₁ F N X T
  (try simp only [List.reverse_cons, List.reverse_nil, List.nil_append, List.cons_append] at F)
  (try dsimp only)
  walk_at "mine env"
  have hcL := cLine_is
  cases hd with
  | mk wd ds h1 h2 h3 =>
  cases hv with
  | tuple e l r =>
  cases r with
  | cons r0 r =>
  cases r0
  k_steps
  refine' CompP.pure_tuple (G := fun i y => ∃ d t, ds[i]? = some d ∧ y = Value.str (ptext 2 d) t) rfl (News.get ?N0 ?m) ?l ?F ?N ?elt ?hQ
  case N0 => k_asm
  case m => k_mem
  case l => simp at l; omega
  case F => k_asm
  case N => k_asm
  case elt =>
    intro C i v s₃ m₃ E' hv hn hm hb F' N'
    obtain ⟨d', hd', rd⟩ := r.get hv
    have S := part_text_spec B 2 (by decide) d' (h3 d' (List.mem_of_getElem? hd'))
    k_steps
    all_goals exact EltEnd.intro (by assumption) ⟨_, _, hd', rfl⟩
  case hQ =>
    intro D h' tk ys k' F' N' hlen hG hb
    have hS0 := strsAre_of (ptext 2) (hlen.trans r.length) hG
    have hS : ∀ t, StrsAre (Value.str wd t :: ys) (wd :: ds.map (ptext 2)) := fun t => .cons _ _ hS0
    have hJ : JoinOk (Str.ofString " ") (wd :: ds.map (ptext 2)) := by
      refine ⟨plen 2, ?_, ?_⟩
      · intro y hy
        rcases List.mem_cons.mp hy with rfl | hy
        · exact Nat.le_trans h1 (by decide)
        · obtain ⟨d, hd', rfl⟩ := List.mem_map.mp hy
          exact ptext_len 2 d (h3 d hd')
      · rw [show (Str.ofString " ").length = 1 from by decide, List.length_cons, List.length_map]
        exact Nat.le_trans (Nat.mul_le_mul (Nat.succ_le_succ h2) (Nat.le_refl _)) (by decide)
    k_steps
    all_goals exact hR _ _ _ ⟨⟨_, rfl⟩, fun b o e _ => Fr.keep (by k_asm) b o e⟩
end Mine
-- F6
namespace Mine
theorem words6 : True := by
  k_with_none
  (k_with "base k_mem" => first | exact Mine.memAt 0 rfl | exact Mine.memAt 1 rfl | exact Mine.memAt 2 rfl | exact Mine.memAt 3 rfl | exact Mine.memAt 4 rfl | exact Mine.memAt 5 rfl | exact Mine.memAt 6 rfl | exact Mine.memAt 7 rfl | (refine Mine.memSkip 8 rfl ?_; k_mem))
  (k_with "base k_all" => first | exact Mine.allNe (by with_reducible assumption) | with_reducible assumption | exact List.forall_mem_nil _ | (with_reducible refine' Mine.allApp ?a ?b; (case a => k_all); (case b => k_all)) | (refine' List.forall_mem_cons.mpr ⟨?a, ?b⟩; (case a => k_ne); (case b => k_all)) | assumption)
  (k_with "base k_ne" => first | with_reducible assumption | (refine Mine.ne_hi ?_; exact Mine.lt_mem (by with_reducible assumption) (by k_mem)) | exact Mine.neAt (by with_reducible assumption) (by k_mem) | exact Mine.neAt' (by with_reducible assumption) (by k_mem) | (refine Mine.ne_hi ?_; with_reducible first | assumption | exact Mine.pj0 (by assumption) | exact Mine.pj1 (by assumption) | exact Mine.pl1 (by assumption) | exact Mine.pj2 (by assumption) | exact Mine.pl2 (by assumption) | exact Mine.pj3 (by assumption) | exact Mine.pl3 (by assumption) | exact Mine.pj4 (by assumption) | exact Mine.pl4 (by assumption) | exact Mine.pj5 (by assumption) | exact Mine.pl5 (by assumption) | exact Mine.pj6 (by assumption) | exact Mine.pl6 (by assumption) | exact Mine.pj7 (by assumption) | exact Mine.pl7 (by assumption) | exact Mine.pj8 (by assumption) | exact Mine.pj9 (by assumption) | exact Mine.pj10 (by assumption) | exact Mine.pj11 (by assumption) | exact Mine.pj12 (by assumption) | exact Mine.pj13 (by assumption) | exact Mine.pj14 (by assumption)) | exact Ne.symm (by with_reducible assumption) | exact Ne.symm (by assumption) | (refine neN ?_; (try dsimp only); omega))
  (k_with "base k_steps" => (try ((fail_if_success (fail_if_success k_fold)); refine (let Q9z : _ → Shared → Prop := _; (?_ : wpAny _ _ _ Q9z _ _)))); (try ((fail_if_success (fail_if_success (conv in (Shared.mk _ _ _ _ _) => skip))); refine (let s9z : Shared := _; (?_ : wpAny _ _ _ _ _ s9z)))); (try ((with_reducible rename News _ _ _ (List.cons _ _) => N9z); refine (let NW9z : List (Addr × Obj) := _; have N8z : News _ _ _ (Mine.Fold NW9z) := N9z; ?_); clear N9z)); (try ((with_reducible rename Fr _ _ _ (fun _ => ite _ _ _) => F9z); refine (let FM9z : Str → Option Value := _; have F8z : Fr _ _ _ (Mine.Fold FM9z) := F9z; ?_); clear F9z)); repeat' (first | ((fail_if_success (fail_if_success k_unfold)); refine (?_ : wpAny _ _ _ _ _ _); (try ((fail_if_success (fail_if_success k_fold)); refine (let Q9z : _ → Shared → Prop := _; (?_ : wpAny _ _ _ Q9z _ _)))); (try ((fail_if_success (fail_if_success (conv in (Shared.mk _ _ _ _ _) => skip))); refine (let s9z : Shared := _; (?_ : wpAny _ _ _ _ _ s9z))))) | (k_unfold; (try dsimp only)) | (k_end; wrow_close) | ((first | walk1 | (dsimp only; walk1)); (try ((fail_if_success (fail_if_success k_fold)); refine (let Q9z : _ → Shared → Prop := _; (?_ : wpAny _ _ _ Q9z _ _)))); (try ((fail_if_success (fail_if_success (conv in (Shared.mk _ _ _ _ _) => skip))); refine (let s9z : Shared := _; (?_ : wpAny _ _ _ _ _ s9z)))); (try ((with_reducible rename News _ _ _ (List.cons _ _) => N9z); refine (let NW9z : List (Addr × Obj) := _; have N8z : News _ _ _ (Mine.Fold NW9z) := N9z; ?_); clear N9z)); (try ((with_reducible rename Fr _ _ _ (fun _ => ite _ _ _) => F9z); refine (let FM9z : Str → Option Value := _; have F8z : Fr _ _ _ (Mine.Fold FM9z) := F9z; ?_); clear F9z))) | (leave1; walk_say "STEP leave1"; try dsimp only) | fail "no step"))
  (k_with "mine env" => refine (let ev9 : Env := _; let A9 : Around := _; (?_ : wpAny _ A9 (execs _ ev9) _ _ _)))
  (k_with "mine sides" => ((case ho => k_is); (case hcd => k_is); (case hroom => (first | assumption | exact room0 (by assumption) rfl | omega | (dsimp only [Ar]; omega))); (case hbind => exact BindsTo.of_eq rfl); (case hloc => exact locs rfl); (case c2 => exact rfl); (case c3 => exact rfl); (case c4 => exact rfl); (case c5 => decide)))
  (k_with "mine units" => (first | assumption | exact room (j := 1) (by assumption) rfl rfl | exact room (j := 3) (by assumption) rfl rfl | exact room (j := 2) (by assumption) rfl rfl | exact room (j := 4) (by assumption) rfl rfl | exact room (j := 5) (by assumption) rfl rfl | exact room (j := 0) (by assumption) rfl rfl | exact roomj (j := 3) (by assumption) rfl rfl | exact roomj (j := 1) (by assumption) rfl rfl | omega | (dsimp +zetaDelta only [Around.deeper, Ar, Around.in1, Around.mark]; omega)))
  (k_with "eval ListComp" => (k_here; k_dflt (refine' comp_K [] ?hclos9w ?hcell9w ?hkind9w ?hnames9w ?hx9w ?F9w ?_ ?hs9w; (case hclos9w => with_unfolding_all rfl); (case hcell9w => decide); (case hkind9w => with_unfolding_all rfl); (case hnames9w => decide); (case hx9w => with_unfolding_all rfl); (case F9w => k_asm); (case hs9w => intro _; with_unfolding_all rfl))))
  (k_with "call ref" => (k_here; k_dflt (refine' call_sp1 ?r9w ?S9w ?F9w ?N9w ?st9w ?hh9w ?hg9w ?d9w ?u9w ?_; (case r9w => assumption); (case S9w => assumption); (case F9w => k_asm); (case N9w => k_asm); (case st9w => assumption); (case hh9w => rfl); (case hg9w => rfl); (case d9w => walk_at "mine units"); (case u9w => walk_at "mine units"); intro r9w62' h9w62' tk9w62' F9w62' N9w62' b9w62' p9w62'; (first | (obtain ⟨⟨t9w62', e9w62'⟩, _⟩ := p9w62'; subst e9w62') | (obtain ⟨e9w62', _⟩ := p9w62'; subst e9w62')); (try k_sweep))))
  (k_with "call builtin:len" => (k_here; (with_reducible show wpAny _ _ (PySem.call _ [Value.ref _]) _ _ _); k_dflt (refine' T_llen ?F9w ?e9w ?l9w ?_; (case F9w => k_asm); (case e9w => with_reducible assumption); (case l9w => with_reducible assumption); k_whole)))
  (k_with "subscriptTail" => (k_here; (with_reducible show wpAny _ _ (subscriptTail _ _ (Value.ref _) (Value.int _ _)) _ _ _); k_dflt (refine' T_litem ?F9w ?e9w ?l9w ?x9w ?_; (case F9w => k_asm); (case e9w => with_reducible assumption); (case l9w => with_reducible assumption); (case x9w => with_reducible assumption); k_whole)))
  (k_with "exec For Name Call cons nil" => (k_here; k_dflt ((with_reducible show wpAny _ _ (PySem.exec (PySem.Stmt.For (PySem.Expr.Name _ _) _ _ [] _) _) _ _ _); refine' for_K rfl ?hx9w ?hp9w ?F9w ?_ ?hs9w; (case hx9w => rfl); (case hp9w => rfl); (case F9w => k_asm); (case hs9w => intro _; with_unfolding_all rfl))))
  (k_with "call type:range" => (k_here; k_dflt ((with_reducible show wpAny _ _ (PySem.call _ [Value.int _ _]) _ _ _); refine' T_range ?F9w ?N9w ?_; (case F9w => k_asm); (case N9w => k_asm); k_whole; intro h9w66' q9w66' tk9w66' t19w66' t29w66' F9w66' N9w66' r9w66' l19w66 b9w66'; (try k_lt l19w66); (try k_sweep))))
  (k_with "mine size" => (first | assumption | exact Nat.le_of_ble_eq_true rfl | (simp only [List.size_toArray, Array.size_push, Array.size_append, List.length_cons, List.length_nil]; omega)))
  (k_with "call builtin:list.append" => (k_here; k_dflt (refine' T_append ?F9w ?N9w ?m9w ?U9w ?z9w ?_; (case F9w => k_asm); (case N9w => k_asm); (case m9w => k_mem); (case U9w => (intro k9w68'; k_upd)); (case z9w => walk_at "mine size"); intro h9w68' k9w68' F9w68' N9w68'; (try k_sweep))))
  (k_with "subscriptTail" => (k_here; k_dflt (first
  | ((with_reducible show wpAny _ _ (subscriptTail _ _ (Value.ref _) (Value.int 0 _)) _ _ _); refine' T_lit0 ?F9w ?e9w ?_; (case F9w => k_asm); (case e9w => with_reducible assumption); k_whole)
  | ((with_reducible show wpAny _ _ (subscriptTail _ _ (Value.ref _) (Value.int 1 _)) _ _ _); refine' T_lit1 ?F9w ?e9w ?_; (case F9w => k_asm); (case e9w => with_reducible assumption); k_whole))))
  (k_with "call builtin:list.extend" => (k_here; k_dflt (refine' T_extend ?F9w ?N9w ?m9w ?D9w ?U9w ?z9w ?_; (case F9w => k_asm); (case N9w => k_asm); (case m9w => k_mem); (case D9w => k_mem); (case U9w => (intro k9w70'; k_upd)); (case z9w => walk_at "mine size"); intro h9w70' k9w70' F9w70' N9w70'; (try k_sweep))))
  (k_with "call ref" => (k_here; (with_reducible show wpAny _ _ (PySem.call (Value.ref 36) _) _ _ _); refine Halt.mk ?_))
  (k_with "call ref" => (k_here; (with_reducible show wpAny _ _ (PySem.call (Value.ref 43) _) _ _ _); refine Halt.mk ?_))
  (k_with "newList" => (k_here; k_dflt (refine' newListM ?F9w ?N9w ?z9w ?_; (case F9w => k_asm); (case N9w => k_asm); (case z9w => exact Nat.le_of_ble_eq_true rfl)); intro D9w73' h9w73' NW99w73 s9w73' F9w73' N9w73' l19w73; (try k_sweep)))
  (k_with "spliced" => (k_here; k_dflt (refine' argsM ?a9w ?F9w ?e9w ?_; (case F9w => k_asm); (case a9w => rfl); (case e9w => rfl)); intro s9w74'))
  (k_with "eval Constant str" => (refine constStrM ?_; intro s9w75'))
  (k_with "eval Constant int" => (refine constIntM ?_; intro s9w76'))
  (k_with "eval Name" => (k_here; k_dflt (first | ((with_reducible show wpAny _ _ (PySem.eval _ (compEnvC _ _ _ _)) _ _ _); first | (refine' nm_comp ?n9w ?m9w ?_ ?k9w ?l9w ?d9w; (case k9w => with_unfolding_all rfl); (case l9w => with_unfolding_all rfl); (case n9w => assumption); (case m9w => assumption); (case d9w => decide)) | (refine' nm_compC ?N9w ?c9w ?m9w ?d9w ?_ ?k9w ?l9w ?e9w; (case k9w => with_unfolding_all rfl); (case l9w => with_unfolding_all rfl); (case N9w => k_asm); (case c9w => with_unfolding_all rfl); (case m9w => k_mem); (case d9w => k_asm); (case e9w => decide))) | ((fail_if_success (with_reducible show wpAny _ _ (PySem.eval _ (compEnvC _ _ _ _)) _ _ _)); first | (refine' nameS ?a9w ?e9w ?F9w ?_; (case F9w => k_asm); (case a9w => rfl); (case e9w => rfl)) | (refine' nameK ?a9w ?g9w ?F9w ?X9w ?T9w ?e9w ?_; (case a9w => rfl); (case g9w => rfl); (case F9w => k_asm); (case X9w => k_asm); (case T9w => k_asm); (case e9w => k_is); k_whole) | (refine' nameB ?a9w ?g9w ?F9w ?X9w ?T9w ?e9w ?v9w ?n9w ?_; (case a9w => rfl); (case g9w => rfl); (case F9w => k_asm); (case X9w => k_asm); (case T9w => k_asm); (case e9w => k_is); (case v9w => boot_fast); (case n9w => decide); k_whole)))))
  (k_with "storeName" => (k_here; k_dflt (refine' storeM ?a9w ?b9w ?F9w ?N9w ?_; (case a9w => rfl); (case b9w => rfl); (case F9w => k_asm); (case N9w => k_asm)); intro h9w78' FM99w78 s9w78' F9w78' N9w78'; (try k_sweep)))
  trivial
structure CodeD where
  key : Str
  params : Int
  regs : List Dat
  blocks : List (List Dat × Dat)
  captured : Int
  results : Int
  recovery : Option Int
inductive BlkAt (h : Heap) (v : Value) (b : List Dat × Dat) : Prop
  | mk : ∀ a rb ev k k' rvs, (v = .ref a) → (h.get? a = some (listOf #[.ref rb, ev] k)) → (h.get? rb = some (listOf rvs.toArray k')) → (RdA h rvs b.1) → (Rd h ev b.2) → BlkAt h v b
noncomputable def BlksAt (h : Heap) : List Value → List (List Dat × Dat) → Prop
  | [], [] => True
  | v :: vs, b :: bs => BlkAt h v b ∧ BlksAt h vs bs
  | _, _ => False
noncomputable def recV : Option Int → Tok → Value
  | none, _ => .none
  | some i, t => .int i t
structure CodeAt (h : Heap) (x dx : Addr) (c : CodeD) (es : List DictEntry) (n rl bl : Nat) (rvs bvs : List Value) (k1 k2 : Nat) : Prop where
  inst : h.get? x = some (instObj 51 dx)
  dict : h.get? dx = some (dictOf es n)
  ents : ∃ h0 h1 h2 h3 h4 h5 h6 t0 t1 t2 t3 t4 t5 t6 u0 u1 u4 u5 u6, es = [⟨h0, .str (Str.ofString "key") t0, .str c.key u0⟩, ⟨h1, .str (Str.ofString "params") t1, .int c.params u1⟩, ⟨h2, .str (Str.ofString "registers") t2, .ref rl⟩, ⟨h3, .str (Str.ofString "blocks") t3, .ref bl⟩, ⟨h4, .str (Str.ofString "captured") t4, .int c.captured u4⟩, ⟨h5, .str (Str.ofString "results") t5, .int c.results u5⟩, ⟨h6, .str (Str.ofString "recovery") t6, recV c.recovery u6⟩]
  regs : h.get? rl = some (listOf rvs.toArray k1)
  regsR : RdA h rvs c.regs
  blks : h.get? bl = some (listOf bvs.toArray k2)
  blksR : BlksAt h bvs c.blocks
  apart : x ≠ dx ∧ rl ≠ x ∧ rl ≠ dx ∧ bl ≠ x ∧ bl ≠ dx
structure CodeOk (c : CodeD) : Prop where
  key : c.key.length ≤ 100
  p : 0 ≤ c.params ∧ c.params < 1000
  ca : 0 ≤ c.captured ∧ c.captured < 1000
  re : 0 ≤ c.results ∧ c.results < 1000
  rc : ∀ i, c.recovery = some i → 0 ≤ i ∧ i < 1000
  regs : ∀ d ∈ c.regs, d ∈ kinds
  nregs : c.regs.length < 100
  nblks : c.blocks.length < 100
  blks : ∀ b ∈ c.blocks, b.1.length < 100 ∧ (∀ d ∈ b.1, InsOk d) ∧ InsOk b.2
noncomputable def sInt (i : Int) : Str := Str.ofString (toString i)
noncomputable def headText (c : CodeD) : Str :=
  c.key ++ Str.ofString ": captured " ++ sInt c.captured ++ Str.ofString ", parameters " ++ sInt c.params ++ Str.ofString ", results " ++ sInt c.results ++ (match c.recovery with | none => Str.ofString "" | some i => Str.ofString ", recovery b" ++ sInt i)
noncomputable def regRow (i : Nat) (d : Dat) : Str := Str.ofString "  r" ++ sInt i ++ Str.ofString " " ++ tyText d
noncomputable def blkRows (i : Nat) (b : List Dat × Dat) : List Str := ((Str.ofString " b" ++ sInt i ++ Str.ofString ":") :: b.1.map fun d => Str.ofString "  " ++ itext d) ++ [Str.ofString "  " ++ itext b.2]
noncomputable def crows (c : CodeD) : List Str := (headText c :: c.regs.mapIdx regRow) ++ (c.blocks.mapIdx blkRows).flatten
inductive Ents (bl : Addr) (es : List DictEntry) : Prop
  | mk : ∀ h0 h1 h2 h3 h4 h5 h6 t0 t1 t2 t3 t4 t5 t6 v0 v1 v2 v4 v5 v6, (es = [⟨h0, .str (Str.ofString "key") t0, v0⟩, ⟨h1, .str (Str.ofString "params") t1, v1⟩, ⟨h2, .str (Str.ofString "registers") t2, v2⟩, ⟨h3, .str (Str.ofString "blocks") t3, .ref bl⟩, ⟨h4, .str (Str.ofString "captured") t4, v4⟩, ⟨h5, .str (Str.ofString "results") t5, v5⟩, ⟨h6, .str (Str.ofString "recovery") t6, v6⟩]) → Ents bl es
/-- self.blocks[block][j]: the block's instructions, or its end -/
theorem BlksAt.length {h : Heap} : ∀ {vs : List Value} {bs : List (List Dat × Dat)}, BlksAt h vs bs → vs.length = bs.length
  | [], [], _ => rfl
  | [], _ :: _, e => e.elim
  | _ :: _, [], e => e.elim
  | _ :: _, _ :: _, e => by simp [BlksAt.length e.2]
theorem BlksAt.get {h : Heap} : ∀ {vs : List Value} {bs : List (List Dat × Dat)} {i : Nat} {v : Value}, BlksAt h vs bs → vs[i]? = some v → ∃ b, bs[i]? = some b ∧ BlkAt h v b
  | [], _, _, _, _, e => by simp at e
  | _ :: _, [], _, _, e, _ => e.elim
  | _ :: _, _ :: _, 0, _, e, q => by cases q; exact ⟨_, rfl, e.1⟩
  | _ :: _, _ :: _, i + 1, _, e, q => by simpa using BlksAt.get (i := i) e.2 (by simpa using q)
noncomputable abbrev BlkPre (x dx bl : Addr) (es : List DictEntry) (n : Nat) (bvs : List Value) (k2 i : Nat) (a rb : Addr) (ev : Value) (k : Nat) (h : Heap) (args : List Value) : Prop :=
  ∃ t, args = [.ref x, .int (i : Nat) t] ∧ h.get? x = some (instObj 51 dx) ∧ h.get? dx = some (dictOf es n) ∧ h.get? bl = some (listOf bvs.toArray k2) ∧ bvs[i]? = some (.ref a) ∧ h.get? a = some (listOf #[.ref rb, ev] k) ∧ bvs.length < 1000
theorem instr_spec {w : World} {mean : ExcName → Option Value} {mg mb : Str → Option Value} {H : Heap} (B : Bs w mean mg mb H) (x dx bl : Addr) (es : List DictEntry) (n : Nat) (bvs : List Value) (k2 i : Nat) (a rb : Addr) (ev : Value) (k : Nat) (hx0 : H.get? x = none) (hdx0 : H.get? dx = none)
    (ents : Ents bl es)
    (hxd : bl ≠ x ∧ bl ≠ dx ∧ a ≠ x ∧ a ≠ dx) :
    Sp w H 36 4 16 (BlkPre x dx bl es n bvs k2 i a rb ev k) (fun h _ h' r => r = .ref rb ∧ But [] h h') := by
  refine Sp.intro ?_
  rintro dp un fr s args R hst hdp hun ⟨t, rfl, e1, e2, e3, e4, e5, e6⟩ hR
  obtain ⟨h0, h1, h2, h3, h4, h5, h6, t0, t1, t2, t3, t4, t5, t6, v0, v1, v2, v4, v5, v6, rfl⟩ := ents
  refine' enter (binds := [(Str.ofString "self", .ref x), (Str.ofString "block", .int i t)]) [x, dx] (by simp [hx0, hdx0]) hst B ?ho ?hcd ?hroom ?hbind ?hloc ?h ?c2 ?c3 ?c4 ?c5
  walk_at "mine sides"
  intro g L h₁ F N X T hgs hbut hg
  have N1 := N (x, instObj 51 dx) (by simp) e1
  have N2 := N (dx, _) (by simp) e2
  have N3 : News g L h₁ [(x, instObj 51 dx), (dx, _)] := fun p hp => by
    rcases List.mem_cons.mp hp with rfl | hp
    · exact N1 _ (by simp)
    · exact N2 _ hp
  clear N N1 N2 hg
  (try simp only [List.reverse_cons, List.reverse_nil, List.nil_append, List.cons_append] at F)
  (try dsimp only)
  walk_at "mine env"
  have hcL := cLine_is
  have e3' : g.get? bl = _ := hbut _ _ e3 (by simp [hxd])
  have e5' : g.get? a = some (listOf [Value.ref rb, ev].toArray k) := hbut _ _ e5 (by simp [hxd])
  clear e3 e5
  k_steps
  all_goals exact hR _ _ _ ⟨rfl, fun b o e nb => by
    by_cases q1 : b = x
    · subst q1; rw [e1] at e; cases e; exact News.get (by assumption) (.head _)
    by_cases q2 : b = dx
    · subst q2; rw [e2] at e; cases e; exact News.get (by assumption) (.tail _ (.head _))
    exact Fr.keep (by assumption) b o (hbut b o e (by simp [q1, q2]))⟩
theorem term_spec {w : World} {mean : ExcName → Option Value} {mg mb : Str → Option Value} {H : Heap} (B : Bs w mean mg mb H) (x dx bl : Addr) (es : List DictEntry) (n : Nat) (bvs : List Value) (k2 i : Nat) (a rb : Addr) (ev : Value) (k : Nat) (hx0 : H.get? x = none) (hdx0 : H.get? dx = none)
    (ents : Ents bl es)
    (hxd : bl ≠ x ∧ bl ≠ dx ∧ a ≠ x ∧ a ≠ dx) :
    Sp w H 43 4 16 (BlkPre x dx bl es n bvs k2 i a rb ev k) (fun h _ h' r => r = ev ∧ But [] h h') := by
  refine Sp.intro ?_
  rintro dp un fr s args R hst hdp hun ⟨t, rfl, e1, e2, e3, e4, e5, e6⟩ hR
  obtain ⟨h0, h1, h2, h3, h4, h5, h6, t0, t1, t2, t3, t4, t5, t6, v0, v1, v2, v4, v5, v6, rfl⟩ := ents
  refine' enter (binds := [(Str.ofString "self", .ref x), (Str.ofString "block", .int i t)]) [x, dx] (by simp [hx0, hdx0]) hst B ?ho ?hcd ?hroom ?hbind ?hloc ?h ?c2 ?c3 ?c4 ?c5
  walk_at "mine sides"
  intro g L h₁ F N X T hgs hbut hg
  have N1 := N (x, instObj 51 dx) (by simp) e1
  have N2 := N (dx, _) (by simp) e2
  have N3 : News g L h₁ [(x, instObj 51 dx), (dx, _)] := fun p hp => by
    rcases List.mem_cons.mp hp with rfl | hp
    · exact N1 _ (by simp)
    · exact N2 _ hp
  clear N N1 N2 hg
  (try simp only [List.reverse_cons, List.reverse_nil, List.nil_append, List.cons_append] at F)
  (try dsimp only)
  walk_at "mine env"
  have hcL := cLine_is
  have e3' : g.get? bl = _ := hbut _ _ e3 (by simp [hxd])
  have e5' : g.get? a = some (listOf [Value.ref rb, ev].toArray k) := hbut _ _ e5 (by simp [hxd])
  clear e3 e5
  k_steps
  all_goals exact hR _ _ _ ⟨rfl, fun b o e nb => by
    by_cases q1 : b = x
    · subst q1; rw [e1] at e; cases e; exact News.get (by assumption) (.head _)
    by_cases q2 : b = dx
    · subst q2; rw [e2] at e; cases e; exact News.get (by assumption) (.tail _ (.head _))
    exact Fr.keep (by assumption) b o (hbut b o e (by simp [q1, q2]))⟩
theorem itext_len {d : Dat} (h : InsOk d) : (itext d).length ≤ 200000 := by
  cases h with
  | mk w ds h1 h2 h3 =>
    have hP : plen 2 = 21754 := rfl
    have k1 : ∀ y ∈ w :: ds.map (ptext 2), y.length ≤ 21754 := fun y hy => by
      rcases List.mem_cons.mp hy with rfl | hy
      · omega
      · obtain ⟨d, hd, rfl⟩ := List.mem_map.mp hy
        exact hP ▸ ptext_len 2 d (h3 d hd)
    have k2 := len_join (Str.ofString " ") _ _ k1
    rw [List.length_cons, List.length_map, show (Str.ofString " ").length = 1 from by decide] at k2
    simp only [itext]
    omega
theorem flat_len {α : Type} {B : Nat} : ∀ {l : List (List α)}, (∀ x ∈ l, x.length ≤ B) → l.flatten.length ≤ l.length * B
  | [], _ => by simp
  | x :: l, h => by
    have ih := flat_len (B := B) (l := l) fun y hy => h y (.tail _ hy)
    have h1 := h x (.head _)
    simp only [List.flatten_cons, List.length_append, List.length_cons, Nat.add_mul]
    omega
theorem blk_len {blocks : List (List Dat × Dat)} (h : ∀ b ∈ blocks, b.1.length < 100) (hn : blocks.length < 100) (i : Nat) : ((blocks.take i).mapIdx blkRows).flatten.length ≤ 10200 := by
  refine Nat.le_trans (flat_len (B := 102) fun x hx => ?_) ?_
  · obtain ⟨j, hj, rfl⟩ := List.mem_mapIdx.mp hx
    have := h _ (List.mem_of_mem_take (List.getElem_mem hj))
    show (blkRows j _).length ≤ 102
    unfold blkRows
    simp only [List.length_append, List.length_cons, List.length_map, List.length_nil]
    omega
  · rw [List.length_mapIdx, List.length_take]
    exact Nat.le_trans (Nat.mul_le_mul (Nat.le_trans (Nat.min_le_right _ _) (Nat.le_of_lt hn)) (Nat.le_refl _)) (by decide)
theorem fresh_of {g h h' : Heap} {L R x dx C : Addr} {its : Array Value} {k n : Nat} {es : List DictEntry} {news : List (Addr × Obj)} (N : News g L h' news) (hR : (R, listOf its k) ∈ news) (hx : (x, instObj C dx) ∈ news) (hdx : (dx, dictOf es n) ∈ news) (hb : But [x, dx] h g) : h.get? R = none := by
  cases q : h.get? R with
  | none => rfl
  | some o =>
    exfalso
    have n1 : R ≠ x := fun e => by
      have a := N.get hR; have b := N.get hx
      rw [e, b] at a; have q9 := congrArg Obj.cls (Option.some.inj a); simp at q9
    have n2 : R ≠ dx := fun e => by
      have a := N.get hR; have b := N.get hdx
      rw [e, b] at a; have q9 := congrArg Obj.cls (Option.some.inj a); simp at q9
    have := hb R o q (by simp [n1, n2])
    rw [N.fresh hR] at this; cases this
noncomputable def recText : Option Int → Str
  | none => Str.ofString ""
  | some i => Str.ofString ", recovery b" ++ sInt i
theorem headText_eq (key : Str) (params : Int) (regs : List Dat) (blocks : List (List Dat × Dat)) (captured results : Int) (recovery : Option Int) : headText ⟨key, params, regs, blocks, captured, results, recovery⟩ = key ++ Str.ofString ": captured " ++ sInt captured ++ Str.ofString ", parameters " ++ sInt params ++ Str.ofString ", results " ++ sInt results ++ recText recovery := by
  cases recovery <;> rfl
theorem recText_len (r : Option Int) (h : ∀ i, r = some i → 0 ≤ i ∧ i < 1000) : (recText r).length ≤ 100 := by
  cases r with
  | none => decide
  | some i =>
    have q := int_len' i (by have := (h i rfl).1; omega) (h i rfl).2
    simp only [recText, sInt, Str.length_append]
    have e : (Str.ofString ", recovery b").length = 12 := by decide
    omega
noncomputable def IfTok : Prop := True
/-- a text, whatever its token -/
inductive StrV (g : Heap) (L : Addr) (m : Str → Option Value) (news : List (Addr × Obj)) (X : Str) (s : Shared) (v : Value) (s' : Shared) : Prop
  | mk : ∀ (t : Tok) (h' : Heap) (tk' : Nat), v = .str X t → s' = { s with heap := h', toks := tk' } → Fr g L h' m → News g L h' news → StrV g L m news X s v s'
theorem StrV.intro {g : Heap} {L : Addr} {m : Str → Option Value} {news : List (Addr × Obj)} {X : Str} {s : Shared} {t : Tok} {h' : Heap} {tk' : Nat} (F : Fr g L h' m) (N : News g L h' news) : StrV g L m news X s (.str X t) { s with heap := h', toks := tk' } := ⟨t, h', tk', rfl, rfl, F, N⟩
theorem val_cut {M : Model} {A : Around} {E Q : Value → Shared → Prop} {t : Sem Value} {s : Shared} {g : Heap} {L : Addr} {m : Str → Option Value} {news : List (Addr × Obj)} (_F : Fr g L s.heap m) (_N : News g L s.heap news) (X : Str)
    (walk : wpAny M A t (StrV g L m news X s) E s) (rest : ∀ (t : Tok) (h' : Heap) (tk' : Nat), Fr g L h' m → News g L h' news → Q (.str X t) { s with heap := h', toks := tk' }) : wpAny M A t Q E s := by
  refine wpAny_mono walk (fun v s' h => ?_) fun _ _ e => e
  obtain ⟨t, h', tk', rfl, rfl, F', N'⟩ := h
  exact rest t h' tk' F' N'
theorem words7 : True := by
  (k_with "eval IfExp" => (k_here; k_dflt ((with_reducible rename IfTok => t9w79'); clear t9w79'; refine Halt.mk ?_)))
  trivial
theorem code_rows_spec {w : World} {mean : ExcName → Option Value} {mg mb : Str → Option Value} {H : Heap} (B : Bs w mean mg mb H) (c : CodeD) (hc : CodeOk c) :
    Sp w H 133 60 240 (fun h args => ∃ x dx es n rl bl rvs bvs k1 k2, args = [.ref x] ∧ H.get? x = none ∧ H.get? dx = none ∧ CodeAt h x dx c es n rl bl rvs bvs k1 k2) (fun h _ h' r => (∃ (R : Addr) (ys : List Value) (k : Nat), r = .ref R ∧ h.get? R = none ∧ h'.get? R = some (listOf ys.toArray k) ∧ StrsAre ys (crows c)) ∧ But [] h h') := by
  refine Sp.intro ?_
  rintro dp un fr s args R hst hdp hun ⟨x, dx, es, n, rl, bl, rvs, bvs, k1, k2, rfl, hx0, hdx0, C⟩ hR
  have hents : Ents bl es := by
    obtain ⟨h0, h1, h2, h3, h4, h5, h6, t0, t1, t2, t3, t4, t5, t6, u0, u1, u4, u5, u6, e⟩ := C.ents
    exact ⟨h0, h1, h2, h3, h4, h5, h6, t0, t1, t2, t3, t4, t5, t6, _, _, _, _, _, _, e⟩
  obtain ⟨h0, h1, h2, h3, h4, h5, h6, t0, t1, t2, t3, t4, t5, t6, u0, u1, u4, u5, u6, rfl⟩ := C.ents
  refine' enter (binds := [(Str.ofString "code", .ref x)]) [x, dx] (by simp [hx0, hdx0]) hst B ?ho ?hcd ?hroom ?hbind ?hloc ?h ?c2 ?c3 ?c4 ?c5
  walk_at "mine sides"
  intro g L h₁ F N X T hgs hbut hg
  have N1 := N (x, instObj 51 dx) (by simp) C.inst
  have N2 := N (dx, _) (by simp) C.dict
  have N3 : News g L h₁ [(x, instObj 51 dx), (dx, _)] := fun p hp => by
    rcases List.mem_cons.mp hp with rfl | hp
    · exact N1 _ (by simp)
    · exact N2 _ hp
  clear N N1 N2 hg
  (try simp only [List.reverse_cons, List.reverse_nil, List.nil_append, List.cons_append] at F)
  (try dsimp only)
  walk_at "mine env"
  have hcL := cLine_is
  have hreg : g.get? rl = some (listOf rvs.toArray k1) := hbut _ _ C.regs (by simp [C.apart.2.1, C.apart.2.2.1])
  have hblk : g.get? bl = some (listOf bvs.toArray k2) := hbut _ _ C.blks (by simp [C.apart.2.2.2.1, C.apart.2.2.2.2])
  have hT : TLe s.heap g := fun a vs n e => hbut a _ e (fun q => by
    rcases List.mem_cons.mp q with rfl | q
    · rw [C.inst] at e; have q9 := congrArg Obj.cls (Option.some.inj e); simp at q9
    · rw [List.mem_singleton.mp q, C.dict] at e; have q9 := congrArg Obj.cls (Option.some.inj e); simp at q9)
  have hregR := C.regsR.mono hT
  have hrl : rvs.length < 1000 := by have := C.regsR.length; have := hc.nregs; omega
  obtain ⟨hp1, hp2⟩ := hc.p
  obtain ⟨hp3, hp4⟩ := hc.ca
  obtain ⟨hp5, hp6⟩ := hc.re
  have hkey := hc.key
  have hrc := hc.rc
  have hrgs := hc.regs
  have hblksR := C.blksR
  have hblk0 := C.blks
  have hxd := C.apart.1
  have hbl : bvs.length < 1000 := by have := C.blksR.length; have := hc.nblks; omega
  have hinst := C.inst
  have hdict := C.dict
  clear C
  obtain ⟨key, params, regs, blocks, captured, results, recovery⟩ := c
  have hrlen := hregR.length
  have hblks0 := hc.blks
  have hLn : ∀ a its k, s.heap.get? a = some (listOf its k) → a ≠ x ∧ a ≠ dx := fun a its k e => ⟨fun q => by
    rw [q, hinst] at e; have q9 := congrArg Obj.cls (Option.some.inj e); simp at q9, fun q => by
    rw [q, hdict] at e; have q9 := congrArg Obj.cls (Option.some.inj e); simp at q9⟩
  have hLs : ∀ a its k, s.heap.get? a = some (listOf its k) → g.get? a = some (listOf its k) := fun a its k e => hbut a _ e (by have := hLn a its k e; simp [this])
  have hblx : bl ≠ x ∧ bl ≠ dx := hLn _ _ _ hblk0
  have hnr : regs.length < 100 := hc.nregs
  have hnb : blocks.length < 100 := hc.nblks
  generalize hHT : headText ⟨key, params, regs, blocks, captured, results, recovery⟩ = HT
  dsimp only at N3 hp1 hp2 hp3 hp4 hp5 hp6 hkey hregR hrgs hblksR hrlen
  have htok : IfTok := trivial
  k_steps
  refine Halt.get ?_
  rename (News _ _ _ _) => N9
  rename (Fr _ _ _ _) => F9
  refine val_cut F9 N9 (recText recovery) ?walk0 ?rest0
  case walk0 =>
    clear hdict hents hHT hregR hrgs hblksR hrlen hblks0 hLn hLs hreg hblk
    cases recovery with
    | none =>
      dsimp +zetaDelta only [Fold, recV] at N9
      k_steps
      all_goals exact StrV.intro (by assumption) (by assumption)
    | some i =>
      obtain ⟨hi1, hi2⟩ := hrc i rfl
      dsimp +zetaDelta only [Fold, recV] at N9
      k_steps
      all_goals exact StrV.intro (by assumption) (by assumption)
  case rest0 =>
    clear N9 F9
    have l9 : (recText recovery).length ≤ 100 := recText_len recovery hrc
    intro t9 h9 tk9 F9 N9
    k_steps
    refine' ForP.grow (n := rvs.length) [] (fun i ys => StrsAre ys (HT :: (regs.take i).mapIdx regRow)) (IterOk.range rfl (by assumption) (by omega)) (by simp) (by simp) ?F ?N ?h0 ?turn ?done
    case F => k_asm
    case N => k_asm
    case h0 =>
      simp only [List.take_zero, List.mapIdx_nil]
      rw [← hHT, headText_eq]
      exact .cons _ _ .nil
    case turn =>
      rintro i v ys k own u s₃ E' hi ⟨t, rfl⟩ hI hown F₃ N₃ -
      simp only [List.contains_nil, Bool.false_eq_true, if_false] at F₃
      (try dsimp only [List.cons_append, List.nil_append] at N₃)
      obtain ⟨vi, hvi⟩ : ∃ vi, rvs[i]? = some vi := ⟨_, List.getElem?_eq_getElem hi⟩
      obtain ⟨d, hd, rd⟩ := hregR.get hvi
      have hk := hrgs d (List.mem_of_getElem? hd)
      have S := type_text_spec B d hk
      have l1 := tyText_len hk
      have hib : (i : Int) < 1000 := by omega
      have hib0 : (0 : Int) ≤ i := by omega
      have hys : ys.toArray.size ≤ 100000 := by
        have := hI.len_eq
        simp at this ⊢
        omega
      k_steps
      refine GrowEnd.intro (by k_asm) (by k_asm) (by k_mem) (fun p hp => by first | exact .tail _ hp | exact .tail _ (.tail _ hp)) (fun y h _ => if_neg h) ?_
      rw [take_mapIdx regRow hd, ← List.cons_append]
      simp only [Array.toList_push, List.toList_toArray]
      exact StrsAre_snoc hI
    case done =>
      intro ys k u hh tk hI F' N'
      simp only [List.contains_nil, Bool.false_eq_true, if_false] at F'
      rw [List.take_of_length_le (by omega)] at hI
      k_steps
      refine' ForP.grow (n := bvs.length) [] (fun i ys => StrsAre ys ((HT :: regs.mapIdx regRow) ++ ((blocks.take i).mapIdx blkRows).flatten)) (IterOk.range rfl (by assumption) (by omega)) (by simp) (by simp) ?F2 ?N2 ?h02 ?turn2 ?done2
      case F2 => k_asm
      case N2 => k_asm
      case h02 =>
        simp only [List.take_zero, List.mapIdx_nil, List.flatten_nil, List.append_nil]
        exact hI
      case turn2 =>
        rintro i v ys k own u s₃ E' hi ⟨t, rfl⟩ hI hown F₃ N₃ -
        simp only [List.contains_nil, Bool.false_eq_true, if_false] at F₃
        (try dsimp only [List.cons_append, List.nil_append] at N₃)
        obtain ⟨vi, hvi⟩ : ∃ vi, bvs[i]? = some vi := ⟨_, List.getElem?_eq_getElem hi⟩
        obtain ⟨b, hb, a, rb, ev, kk, kk', rvs', rfl, ea, erb, hR1, hR2⟩ := hblksR.get hvi
        have hbk := hblks0 b (List.mem_of_getElem? hb)
        have ea' := hLs _ _ _ ea
        have erb' := hLs _ _ _ erb
        have hR1' := hR1.mono hT
        have hR2' := hR2.mono hT
        have hax : a ≠ x ∧ a ≠ dx := hLn _ _ _ ea
        have S36 := instr_spec B x dx bl _ n bvs k2 i a rb ev kk hx0 hdx0 hents ⟨hblx.1, hblx.2, hax⟩
        have S43 := term_spec B x dx bl _ n bvs k2 i a rb ev kk hx0 hdx0 hents ⟨hblx.1, hblx.2, hax⟩
        have hib : (i : Int) < 1000 := by omega
        have hib0 : (0 : Int) ≤ i := by omega
        have hys : ys.length ≤ 20000 := by
          have h1 : ys.length = (regs.length + 1) + ((blocks.take i).mapIdx blkRows).flatten.length := by
            have q := hI.len_eq
            rw [List.length_append, List.length_cons, List.length_mapIdx] at q
            exact q
          have h2 := blk_len (blocks := blocks) (fun b hb => (hblks0 b hb).1) hnb i
          omega
        k_steps
        refine Halt.get ?_
        refine' call_sp S36 ?F3 ?N3 hgs rfl rfl ?d3 ?u3 ?p3 (fun _ _ p => p.2) ?_
        case F3 => k_asm
        case N3 => k_asm
        case d3 => walk_at "mine units"
        case u3 => walk_at "mine units"
        case p3 => exact ⟨_, rfl, News.get (by k_asm) (by k_mem), News.get (by k_asm) (by k_mem), Fr.keep (by k_asm) _ _ hblk, hvi, Fr.keep (by k_asm) _ _ ea', hbl⟩
        intro r' h' tk' F' N' b' p'
        obtain ⟨e', _⟩ := p'
        subst e'
        (try k_sweep)
        k_steps
        have hbl2 := hR1'.length
        refine' CompP.pureD (n := rvs'.length) (G := fun i y => ∃ d t, b.1[i]? = some d ∧ y = Value.str (Str.ofString "  " ++ itext d) t) (IterOk.list rfl ⟨_, Fr.keep (by k_asm) _ _ erb', rfl, _, rfl⟩) ?l4 ?F4 ?N4 ?elt4 ?hQ4
        case l4 => have := hbk.1; omega
        case F4 => k_asm
        case N4 => k_asm
        case elt4 =>
          intro C i v s₃ m₃ E' hin hv hn hm hb2 F' N'
          obtain ⟨d', hd', rd⟩ := hR1'.get hv
          have hio := hbk.2.1 d' (List.mem_of_getElem? hd')
          have S := instruction_text_spec B d' hio
          have l5 := itext_len hio
          k_steps
          all_goals exact EltEnd.intro (by assumption) ⟨_, _, hd', rfl⟩
        case hQ4 =>
          intro D h' tk ys' k' hDn F' N' hlen hG hb2 hD0
          have hS := strsAre_of (fun d => Str.ofString "  " ++ itext d) (hlen.trans hbl2) hG
          have hys' : ys'.length ≤ 100 := by have := hbk.1; omega
          k_steps
          refine Halt.get ?_
          refine' call_sp S43 ?F3 ?N3 hgs rfl rfl ?d3 ?u3 ?p3 (fun _ _ p => p.2) ?_
          case F3 => k_asm
          case N3 => k_asm
          case d3 => walk_at "mine units"
          case u3 => walk_at "mine units"
          case p3 => exact ⟨_, rfl, News.get (by k_asm) (by k_mem), News.get (by k_asm) (by k_mem), Fr.keep (by k_asm) _ _ hblk, hvi, Fr.keep (by k_asm) _ _ ea', hbl⟩
          intro r' h' tk' F' N' b' p'
          obtain ⟨e', _⟩ := p'
          subst e'
          (try k_sweep)
          have S := instruction_text_spec B b.2 hbk.2.2
          have l5 := itext_len hbk.2.2
          k_steps
          refine GrowEnd.intro (by k_asm) (by k_asm) (by k_mem) (fun p hp => by first | exact .tail _ hp | exact .tail _ (.tail _ hp)) (fun y h _ => if_neg h) ?_
          rw [take_mapIdx blkRows hb]
          have e : (HT :: regs.mapIdx regRow) ++ (((blocks.take i).mapIdx blkRows) ++ [blkRows i b]).flatten = ((((HT :: regs.mapIdx regRow) ++ ((blocks.take i).mapIdx blkRows).flatten) ++ [Str.ofString " b" ++ sInt i ++ Str.ofString ":"]) ++ b.1.map (fun d => Str.ofString "  " ++ itext d)) ++ [Str.ofString "  " ++ itext b.2] := by simp [blkRows]
          change StrsAre _ ((HT :: regs.mapIdx regRow) ++ (((blocks.take i).mapIdx blkRows) ++ [blkRows i b]).flatten)
          rw [e]
          simp only [Array.toList_push, Array.toList_append, List.toList_toArray]
          exact StrsAre_snoc (StrsAre_app (StrsAre_snoc hI) hS)
      case done2 =>
        intro ys k u hh tk hI F' N'
        simp only [List.contains_nil, Bool.false_eq_true, if_false] at F'
        rw [List.take_of_length_le (by rw [← hblksR.length]; exact Nat.le_refl _)] at hI
        k_steps
        refine hR _ _ _ ⟨⟨_, ys, k, rfl, ?_, News.get (by k_asm) (by k_mem), ?_⟩, ?_⟩
        · exact fresh_of (by k_asm) (by k_mem) (by k_mem) (by k_mem) hbut
        · rw [← hHT] at hI
          exact hI
        · intro b o e nb
          by_cases q1 : b = x
          · subst q1; rw [hinst] at e; cases e; exact News.get (by assumption) (.tail _ (.head _))
          by_cases q2 : b = dx
          · subst q2; rw [hdict] at e; cases e; exact News.get (by assumption) (.tail _ (.tail _ (.head _)))
          exact Fr.keep (by assumption) b o (hbut b o e (by simp [q1, q2]))
end Mine
-- B8
namespace Mine
theorem cellsAre_mem {cm : Str → Option Value} : ∀ {cs : List (Str × Addr)} {cells : List (Addr × Obj)}, CellsAre cm cs cells → ∀ q ∈ cells, ∃ n, (n, q.1) ∈ cs
  | _, _, .nil, _, hq => nomatch hq
  | _, _, .cons _ r, q, hq => by
    rcases List.mem_cons.mp hq with rfl | hq
    · exact ⟨_, .head _⟩
    · obtain ⟨n, h⟩ := cellsAre_mem r q hq
      exact ⟨n, .tail _ h⟩
section
variable {w : World} {mean : ExcName → Option Value} {mg mb : Str → Option Value} {H : Heap}
theorem enterC {A : Around} {s : Shared} {R : Result → Shared → Prop} {name qual : Str} {params : Arguments} {body : List Stmt} {scope : Scope} {dV kV doc pm cdv ct oc : Value} {an od : Option Addr} {osl : Array (Option Value)} {f : Addr} {args : Args} {binds : List (Str × Value)}
    (X : List Addr) (hX : ∀ b ∈ X, H.get? b = none) (hst : H.StaysIn s.heap) (B : Bs w mean mg mb H)
    (ho : (hd.heap_1 w.params).lookup f = some ⟨oc, od, .func (fnOf name qual params body scope dV kV doc pm an cdv ct), osl⟩) (hcd : codeIn (hd.heap_1 w.params) cdv qual = true) (hroom : A.depth < recursionLimit)
    (hbind : BindsTo s (fnOf name qual params body scope dV kV doc pm an cdv ct) args binds) (hkind : (binds.all fun y => scope.names.lookup y.1 == some .local || scope.names.lookup y.1 == some .cell) = true)
    (hnd : ((cellsFrom 0 scope.names []).map (·.1)).Nodup)
    (h : ∀ g L' h₁ tk cells, Fr g L' h₁ (bindL (envOfC qual scope L' f cdv).kindOf binds fun _ => none) → News g L' h₁ cells → (∀ p : Addr × Obj, p.1 ∈ X → s.heap.get? p.1 = some p.2 → News g L' h₁ [p] ∧ ∀ q ∈ cells, p.1 < q.1) →
      CellsAre (bindC (envOfC qual scope L' f cdv).kindOf binds fun _ => none) (cellsFrom (L' + 1) scope.names []) cells → (hd.heap_1 w.params).In g → Top vw (looseW vw [Str.ofString "_law_kinds"]) mean mg mb g →
      H.StaysIn g → But X s.heap g → (∀ b ∈ X, b < L') →
      wpAny (model PySem.Challenge.rw_on0012_01.row.prog w) (A.deeper (envOfC qual scope L' f cdv)) (execs body (envOfC qual scope L' f cdv))
        (fun fl s' => R (.ok (.ret (match fl with | .ret v => v | _ => .none))) s') (fun _ _ => False)
        { s with heap := h₁, toks := tk })
    (hco : scope.isCoroutine = false) (hgen : scope.isGenerator = false) (hk : scope.kind = .function) (hXs : ∀ b ∈ X, b < s.heap.objs.size) : codeAny (model PySem.Challenge.rw_on0012_01.row.prog w) A (.call (.ref f) args) R s := by
  have st : H.StaysIn (hideAll s.heap X) := fun b o e => hideAll_get _ (hst b o e) fun q => by rw [hX b q] at e; cases e
  refine codeAny_call_function hroom (hst _ _ (B.k _ _ ho)) rfl hco hgen rfl (codeRec_of (B.k.keeps hst) hcd) (hbind _ _ _ _ ?_)
  refine wpAny_newFunctionEnv_cells hk (kindsX hkind _) fun env' he s' x => ?_
  subst he
  refine ⟨((B.t.nolimit).keeps hst).keeps x.toInCall.keep, codeAny_func ?_⟩
  obtain ⟨h₁, tk, rfl, _⟩ := x.done
  have hk₁ := x.toInCall.keep
  obtain ⟨cells, NC, Y⟩ := Cl.news (h₀ := s.heap) (Nat.le_refl _) fun n c hm => ⟨x.cell n c (lookup_of_mem_nodup (cellsFrom_names scope.names 0 (s.heap.objs.size + 1) [] [] rfl ▸ hnd) hm), x.above n c hm⟩
  have hcn : ∀ p ∈ cells, (hideAll s.heap X).get? p.1 = none := fun p hp => by
    cases q : (hideAll s.heap X).get? p.1 with
    | none => rfl
    | some o => have := of_hideAll _ q; rw [(NC p hp).2.2] at this; cases this
  refine wpAny_mono (h (hideAll s.heap X) s.heap.objs.size h₁ tk cells ⟨x.toInCall.ns, fun b o e => hk₁ b o (of_hideAll _ e), Nat.le_of_eq (hideAll_size _ _)⟩ (fun p hp => ⟨(NC p hp).1, (NC p hp).2.1, hcn p hp⟩) (fun p hp e => ⟨fun q hq => ?_, fun q hq => ?_⟩) Y (B.k.keeps st) (B.t.keeps st) st (fun b o e n => hideAll_get _ e n) hXs) (fun _ _ x => x) fun _ _ x => x.elim
  · rw [List.mem_singleton.mp hq]
    exact ⟨hk₁ _ _ e, Nat.ne_of_lt (Heap.lt_size e), hideAll_none _ hp⟩
  · obtain ⟨n9, hn9⟩ := cellsAre_mem Y q hq
    exact Nat.lt_trans (Heap.lt_size e) (x.above n9 q.1 hn9)
end
theorem nm_compC {prog : Program} {w : World} {A : Around} {E : Value → Shared → Prop} {env : Env} {h₀ : Heap} {L c : Addr} {news : List (Addr × Obj)} {o : Obj} {s : Shared} {scope : Scope} {cl : List (Str × Addr)} {C : Addr} {x : Str} {pos : Pos} {v : Value} {Q : Value → Shared → Prop} (N : News h₀ L s.heap news) (hc : cl.lookup x = some c) (hm : (c, o) ∈ news) (hv : o.data = .cell (some v)) (h : Q v s)
    (hk : (compEnvC scope cl C env).scope.kind = .function) (hl : (compEnvC scope cl C env).kindOf x = some .cell) (hd : (x == ("__debug__" : Str)) = false) :
    wpAny (model prog w) A (eval (.Name x pos) (compEnvC scope cl C env)) Q E s := wpAny_Name (wpAny_loadName_cell hk hl hc ⟨o, N.get hm, hv⟩ h) hd
end Mine
-- G1
namespace Mine
theorem words8 : True := by
  k_with_none
  (k_with "base k_mem" => first | exact Mine.memAt 0 rfl | exact Mine.memAt 1 rfl | exact Mine.memAt 2 rfl | exact Mine.memAt 3 rfl | exact Mine.memAt 4 rfl | exact Mine.memAt 5 rfl | exact Mine.memAt 6 rfl | exact Mine.memAt 7 rfl | (refine Mine.memSkip 8 rfl ?_; k_mem))
  (k_with "base k_all" => first | exact Mine.allNe (by with_reducible assumption) | with_reducible assumption | exact List.forall_mem_nil _ | (with_reducible refine' Mine.allApp ?a ?b; (case a => k_all); (case b => k_all)) | (refine' List.forall_mem_cons.mpr ⟨?a, ?b⟩; (case a => k_ne); (case b => k_all)) | assumption)
  (k_with "base k_ne" => first | with_reducible assumption | (refine Mine.ne_hi ?_; exact Mine.lt_mem (by with_reducible assumption) (by k_mem)) | exact Mine.neAt (by with_reducible assumption) (by k_mem) | exact Mine.neAt' (by with_reducible assumption) (by k_mem) | (refine Mine.ne_hi ?_; with_reducible first | assumption | exact Mine.pj0 (by assumption) | exact Mine.pj1 (by assumption) | exact Mine.pl1 (by assumption) | exact Mine.pj2 (by assumption) | exact Mine.pl2 (by assumption) | exact Mine.pj3 (by assumption) | exact Mine.pl3 (by assumption) | exact Mine.pj4 (by assumption) | exact Mine.pl4 (by assumption) | exact Mine.pj5 (by assumption) | exact Mine.pl5 (by assumption) | exact Mine.pj6 (by assumption) | exact Mine.pl6 (by assumption) | exact Mine.pj7 (by assumption) | exact Mine.pl7 (by assumption) | exact Mine.pj8 (by assumption) | exact Mine.pj9 (by assumption) | exact Mine.pj10 (by assumption) | exact Mine.pj11 (by assumption) | exact Mine.pj12 (by assumption) | exact Mine.pj13 (by assumption) | exact Mine.pj14 (by assumption)) | exact Ne.symm (by with_reducible assumption) | exact Ne.symm (by assumption) | (refine neN ?_; (try dsimp only); omega))
  (k_with "base k_steps" => (try ((fail_if_success (fail_if_success k_fold)); refine (let Q9z : _ → Shared → Prop := _; (?_ : wpAny _ _ _ Q9z _ _)))); (try ((fail_if_success (fail_if_success (conv in (Shared.mk _ _ _ _ _) => skip))); refine (let s9z : Shared := _; (?_ : wpAny _ _ _ _ _ s9z)))); (try ((with_reducible rename News _ _ _ (List.cons _ _) => N9z); refine (let NW9z : List (Addr × Obj) := _; have N8z : News _ _ _ (Mine.Fold NW9z) := N9z; ?_); clear N9z)); (try ((with_reducible rename Fr _ _ _ (fun _ => ite _ _ _) => F9z); refine (let FM9z : Str → Option Value := _; have F8z : Fr _ _ _ (Mine.Fold FM9z) := F9z; ?_); clear F9z)); repeat' (first | ((fail_if_success (fail_if_success k_unfold)); refine (?_ : wpAny _ _ _ _ _ _); (try ((fail_if_success (fail_if_success k_fold)); refine (let Q9z : _ → Shared → Prop := _; (?_ : wpAny _ _ _ Q9z _ _)))); (try ((fail_if_success (fail_if_success (conv in (Shared.mk _ _ _ _ _) => skip))); refine (let s9z : Shared := _; (?_ : wpAny _ _ _ _ _ s9z))))) | (k_unfold; (try dsimp only)) | (k_end; wrow_close) | ((first | walk1 | (dsimp only; walk1)); (try ((fail_if_success (fail_if_success k_fold)); refine (let Q9z : _ → Shared → Prop := _; (?_ : wpAny _ _ _ Q9z _ _)))); (try ((fail_if_success (fail_if_success (conv in (Shared.mk _ _ _ _ _) => skip))); refine (let s9z : Shared := _; (?_ : wpAny _ _ _ _ _ s9z)))); (try ((with_reducible rename News _ _ _ (List.cons _ _) => N9z); refine (let NW9z : List (Addr × Obj) := _; have N8z : News _ _ _ (Mine.Fold NW9z) := N9z; ?_); clear N9z)); (try ((with_reducible rename Fr _ _ _ (fun _ => ite _ _ _) => F9z); refine (let FM9z : Str → Option Value := _; have F8z : Fr _ _ _ (Mine.Fold FM9z) := F9z; ?_); clear F9z))) | (leave1; walk_say "STEP leave1"; try dsimp only) | fail "no step"))
  (k_with "mine env" => refine (let ev9 : Env := _; let A9 : Around := _; (?_ : wpAny _ A9 (execs _ ev9) _ _ _)))
  (k_with "mine sides" => ((case ho => k_is); (case hcd => k_is); (case hroom => (first | assumption | exact room0 (by assumption) rfl | omega | (dsimp only [Ar]; omega))); (case hbind => exact BindsTo.of_eq rfl); (case hloc => exact locs rfl); (case c2 => exact rfl); (case c3 => exact rfl); (case c4 => exact rfl); (case c5 => decide)))
  (k_with "mine units" => (first | assumption | exact room (j := 1) (by assumption) rfl rfl | exact room (j := 3) (by assumption) rfl rfl | exact room (j := 2) (by assumption) rfl rfl | exact room (j := 4) (by assumption) rfl rfl | exact room (j := 5) (by assumption) rfl rfl | exact room (j := 0) (by assumption) rfl rfl | exact roomj (j := 3) (by assumption) rfl rfl | exact roomj (j := 1) (by assumption) rfl rfl | omega | (dsimp +zetaDelta only [Around.deeper, Ar, Around.in1, Around.mark]; omega)))
  (k_with "call builtin:len" => (k_here; (with_reducible show wpAny _ _ (PySem.call _ [Value.ref _]) _ _ _); k_dflt (refine' T_llen ?F9w ?e9w ?l9w ?_; (case F9w => k_asm); (case e9w => with_reducible assumption); (case l9w => with_reducible assumption); k_whole)))
  (k_with "subscriptTail Name Constant ref int" => (k_here; k_dflt (first
  | ((with_reducible show wpAny _ _ (subscriptTail _ _ (Value.ref _) (Value.int 0 _)) _ _ _); refine' T_litN0 ?N9w ?e9w ?_; (case N9w => k_asm); (case e9w => k_mem); k_whole)
  | ((with_reducible show wpAny _ _ (subscriptTail _ _ (Value.ref _) (Value.int 1 _)) _ _ _); refine' T_litN1 ?N9w ?e9w ?_; (case N9w => k_asm); (case e9w => k_mem); k_whole))))
  (k_with "spliced" => (k_here; k_dflt (refine' argsM ?a9w ?F9w ?e9w ?_; (case F9w => k_asm); (case a9w => rfl); (case e9w => rfl)); intro s9w84'))
  (k_with "eval Constant int" => (refine constIntM ?_; intro s9w85'))
  (k_with "eval Name" => (k_here; k_dflt (first | ((with_reducible show wpAny _ _ (PySem.eval _ (compEnvC _ _ _ _)) _ _ _); first | (refine' nm_comp ?n9w ?m9w ?_ ?k9w ?l9w ?d9w; (case k9w => with_unfolding_all rfl); (case l9w => with_unfolding_all rfl); (case n9w => assumption); (case m9w => assumption); (case d9w => decide)) | (refine' nm_compC ?N9w ?c9w ?m9w ?d9w ?_ ?k9w ?l9w ?e9w; (case k9w => with_unfolding_all rfl); (case l9w => with_unfolding_all rfl); (case N9w => k_asm); (case c9w => with_unfolding_all rfl); (case m9w => k_mem); (case d9w => k_asm); (case e9w => decide))) | ((fail_if_success (with_reducible show wpAny _ _ (PySem.eval _ (compEnvC _ _ _ _)) _ _ _)); first | (refine' nameS ?a9w ?e9w ?F9w ?_; (case F9w => k_asm); (case a9w => rfl); (case e9w => rfl)) | (refine' nameK ?a9w ?g9w ?F9w ?X9w ?T9w ?e9w ?_; (case a9w => rfl); (case g9w => rfl); (case F9w => k_asm); (case X9w => k_asm); (case T9w => k_asm); (case e9w => k_is); k_whole) | (refine' nameB ?a9w ?g9w ?F9w ?X9w ?T9w ?e9w ?v9w ?n9w ?_; (case a9w => rfl); (case g9w => rfl); (case F9w => k_asm); (case X9w => k_asm); (case T9w => k_asm); (case e9w => k_is); (case v9w => boot_fast); (case n9w => decide); k_whole)))))
  (k_with "storeName" => (k_here; k_dflt (refine' storeM ?a9w ?b9w ?F9w ?N9w ?_; (case a9w => rfl); (case b9w => rfl); (case F9w => k_asm); (case N9w => k_asm)); intro h9w87' FM99w87 s9w87' F9w87' N9w87'; (try k_sweep)))
  trivial
inductive SrcIs (h : Heap) (src : Addr) : Prop
  | mk : ∀ a ta b tb n, (h.get? src = some (listOf #[.int a ta, .int b tb] n)) → (0 ≤ a) → (0 ≤ b) → (b < 2147483647) → SrcIs h src
theorem SrcIs.of {h : Heap} {src : Addr} {a b : Int} {ta tb : Tok} {n : Nat} (e : h.get? src = some (listOf #[.int a ta, .int b tb] n)) (ha : 0 ≤ a) (hb : 0 ≤ b) (hb2 : b < 2147483647) : SrcIs h src := ⟨a, ta, b, tb, n, e, ha, hb, hb2⟩
/-- a contract of a def that draws -/
noncomputable abbrev SpS (w : World) (H : Heap) (src : Addr) (f : Addr) (dk uk : Nat) (Pre : Heap → List Value → Prop) (Out : Heap → List Value → Heap → Value → Prop) : Prop :=
  Sp w H f dk uk (fun h args => Pre h args ∧ SrcIs h src) (fun h args h' r => (Out h args h' r ∧ SrcIs h' src) ∧ But [src] h h')
theorem call_src {w : World} {H h₀ : Heap} {src f : Addr} {dk uk : Nat} {Pre : Heap → List Value → Prop} {Out : Heap → List Value → Heap → Value → Prop} {A : Around} {E : Value → Shared → Prop} {Q : Value → Shared → Prop} {s : Shared} {args : List Value} {L : Addr} {m : Str → Option Value} {news : List (Addr × Obj)}
    {a b : Int} {ta tb : Tok} {n : Nat} {news' : Int → Tok → Int → Tok → Nat → List (Addr × Obj)}
    (S : SpS w H src f dk uk Pre Out) (F : Fr h₀ L s.heap m) (N : News h₀ L s.heap news) (hm : (src, listOf #[.int a ta, .int b tb] n) ∈ news) (ha : 0 ≤ a) (hb : 0 ≤ b) (hb2 : b < 2147483647)
    (U : ∀ a' ta' b' tb' n', Upd src (listOf #[.int a ta, .int b tb] n) (listOf #[.int a' ta', .int b' tb'] n') news (news' a' ta' b' tb' n'))
    (hst : H.StaysIn h₀) (hh : A.handled = none) (hg : A.guards = some []) (hd : A.depth + dk < recursionLimit) (hu : A.units + uk < cLine) (hpre : Pre s.heap args)
    (h : ∀ r h' tk' a' ta' b' tb' n', Out s.heap args h' r → Fr h₀ L h' m → News h₀ L h' (news' a' ta' b' tb' n') → 0 ≤ a' → 0 ≤ b' → b' < 2147483647 → But [src] s.heap h' → Q r { s with heap := h', toks := tk' }) :
    wpAny (model PySem.Challenge.rw_on0012_01.row.prog w) A (call (.ref f) args) Q E s :=
  wpAny_call (S A s args _ hh hg (fun b o e => F.keep b o (hst b o e)) hd hu ⟨hpre, a, ta, b, tb, n, N.get hm, ha, hb, hb2⟩ fun v h' tk' p => by
    obtain ⟨⟨po, a', ta', b', tb', n', e', ha', hb', hb2'⟩, hbut⟩ := p
    obtain ⟨pre, post, rfl, e2, h1, h2⟩ := (U a' ta' b' tb' n').split
    have hM := N (src, listOf #[.int a ta, .int b tb] n) (by simp)
    refine h v h' tk' a' ta' b' tb' n' po ⟨?_, fun b o e => hbut b o (F.keep b o e) (fun q => ?_), F.above⟩ (e2 ▸ fun p hp => ?_) ha' hb' hb2' hbut
    · obtain ⟨oL, es, ep, hL, r⟩ := F.ns
      exact ⟨oL, es, ep, hbut _ _ hL (fun q => hM.2.1 (List.mem_singleton.mp q).symm), r⟩
    · rw [List.mem_singleton.mp q, hM.2.2] at e; cases e
    · rcases List.mem_append.mp hp with hp | hp
      · have P := N p (List.mem_append_left _ hp)
        exact ⟨hbut _ _ P.1 (by simpa using h1 p hp), P.2⟩
      · rcases List.mem_cons.mp hp with rfl | hp
        · exact ⟨e', hM.2⟩
        · have P := N p (List.mem_append_right _ (List.mem_cons_of_mem _ hp))
          exact ⟨hbut _ _ P.1 (by simpa using h2 p hp), P.2⟩)
noncomputable abbrev TakeS (w : World) (H : Heap) (src : Addr) : Prop := SpS w H src 163 2 8 (fun _ args => ∃ top tk, args = [.ref src, .int top tk] ∧ 0 < top ∧ top < 2 ^ 20)
      (fun _ args _ v => ∀ top tk, args = [.ref src, .int top tk] → ∃ (r : Nat) (tr : Tok), v = .int (r : Int) tr ∧ 0 ≤ (r : Int) ∧ (r : Int) < top)
/-- a draw: at least nought, below top; the source turned -/
theorem take_spec {w : World} {mean : ExcName → Option Value} {mg mb : Str → Option Value} {H : Heap} (B : Bs w mean mg mb H) (src : Addr) (hsrc : H.get? src = none) : TakeS w H src := by
  refine Sp.intro ?_
  rintro dp un fr s args R hst hdp hun ⟨⟨top, tk, rfl, ht0, ht1⟩, a, ta, b, tb, n, ho, ha, hb, hb2⟩ hR
  refine' enter (binds := [(Str.ofString "source", .ref src), (Str.ofString "top", .int top tk)]) [src] (by simpa using hsrc) hst B ?ho ?hcd ?hroom ?hbind ?hloc ?h ?c2 ?c3 ?c4 ?c5
  walk_at "mine sides"
  intro g L h₁ F N X T hgs hbut hg
  have N := N (src, listOf #[.int a ta, .int b tb] n) (by simp) ho
  clear hg
  have hcL := cLine_is
  (try simp only [List.reverse_cons, List.reverse_nil, List.nil_append, List.cons_append] at F)
  (try dsimp only)
  walk_at "mine env"
  have hf : ∀ x k : Int, 0 < k → 0 ≤ x.fmod k ∧ x.fmod k < k := fun x k hk => by
    rw [Int.fmod_eq_emod_of_nonneg _ (Int.le_of_lt hk)]
    exact ⟨Int.emod_nonneg _ (Int.ne_of_gt hk), Int.emod_lt_of_pos _ hk⟩
  have hm := hf (b * 39373 + 7) 2147483647 (by decide)
  k_steps
  · refine hR _ _ _ ⟨⟨fun top' tk' e => ?_, _, _, _, _, _, News.get (by k_asm) (by k_mem), Int.fdiv_nonneg ha (Int.le_of_lt ht0), hb, hb2⟩, fun b o e nb => Fr.keep (by assumption) b o (hbut b o e nb)⟩
    cases e
    exact ⟨Int.toNat _, _, by rw [Int.toNat_of_nonneg (hf _ _ ht0).1], by omega, by rw [Int.toNat_of_nonneg (hf _ _ ht0).1]; exact (hf _ _ ht0).2⟩
  · refine hR _ _ _ ⟨⟨fun top' tk' e => ?_, _, _, _, _, _, News.get (by k_asm) (by k_mem), ha, hm.1, hm.2⟩, fun b o e nb => Fr.keep (by assumption) b o (hbut b o e nb)⟩
    cases e
    exact ⟨Int.toNat _, _, by rw [Int.toNat_of_nonneg (hf _ _ ht0).1], by omega, by rw [Int.toNat_of_nonneg (hf _ _ ht0).1]; exact (hf _ _ ht0).2⟩
theorem words9 : True := by
  (k_with "mine small" => (first | exact Nat.le_of_ble_eq_true rfl | decide | omega | (simp only [List.length_cons, List.length_nil]; omega)))
  (k_with "call ref" => (k_here; (with_reducible show wpAny _ _ (PySem.call (Value.ref 163) _) _ _ _); k_dflt (refine' call_src (f := 163) ?S9w ?F9w ?N9w ?m9w ?a9w ?b9w ?b29w ?U9w ?st9w ?hh9w ?hg9w ?d9w ?u9w ?pre9w ?_; (case S9w => assumption); (case F9w => k_asm); (case N9w => k_asm); (case m9w => k_mem); (case a9w => assumption); (case b9w => assumption); (case b29w => assumption); (case U9w => (intro a19w89 a29w89 a39w89 a49w89 a59w89; k_upd)); (case st9w => assumption); (case hh9w => rfl); (case hg9w => rfl); (case d9w => walk_at "mine units"); (case u9w => walk_at "mine units"); (case pre9w => exact ⟨_, _, rfl, by walk_at "mine small", by walk_at "mine small"⟩); intro r9w89' h9w89' tk9w89' a9w89' ta9w89' b9w89' tb9w89' n9w89' p9w89' F9w89' N9w89' x19w89' x29w89' x39w89' y9w89'; (obtain ⟨rr9w89', rt9w89', e9w89', z19w89', z29w89'⟩ := p9w89' _ _ rfl); subst e9w89'; clear p9w89'; (try k_sweep))))
  trivial
theorem T_lidx {prog : Program} {w : World} {A : Around} {E : Value → Shared → Prop} {s : Shared} {h₀ : Heap} {L a n : Nat} {m : Str → Option Value} {vs : List Value} {value slice : Expr} {i : Int} {u : Tok} {Q : Value → Shared → Prop} (F : Fr h₀ L s.heap m) (e : h₀.get? a = some (listOf vs.toArray n)) (hl : vs.length < 1000) (h0 : 0 ≤ i) (h1 : i < (vs.length : Int)) (h : ∀ v, vs[i.toNat]? = some v → Q v s)
    (hs : subscripted slice false (.ref a) (.int i u) = operate [.ref a, .int i u] (getItem (.ref a) (.int i u)) := by with_unfolding_all rfl) :
    wpAny (model prog w) A (subscriptTail value slice (.ref a) (.int i u)) Q E s :=
  have hL : s.heap.IsList a vs.toArray := ⟨_, F.keep _ _ e, rfl, n, rfl⟩
  have hk : i.toNat < vs.length := by omega
  tail_any hL.typeIs slot_list_getitem.lookup (wpAny_getItem_list hL h0 (by omega) (x := vs[i.toNat]) (by simp [hk]) (h _ (by simp [hk]))) hs
theorem words10 : True := by
  (k_with "subscriptTail Name Call cons nil ref int" => (k_here; k_dflt (refine' T_lidx ?F9w ?e9w ?l9w ?h09w ?h19w ?_; (case F9w => k_asm); (case e9w => with_reducible assumption); (case l9w => with_reducible assumption); (case h09w => with_reducible assumption); (case h19w => with_reducible assumption); intro v9w90' hv9w90')))
  (k_with "subscriptTail Name Call" => walk_at "subscriptTail Name Call cons nil ref int")
  trivial
noncomputable abbrev OneS (w : World) (H : Heap) (src : Addr) : Prop := SpS w H src 170 5 20 (fun h args => ∃ (tl : Addr) (vs : List Value) (k : Nat), args = [.ref src, .ref tl] ∧ tl ≠ src ∧ h.get? tl = some (listOf vs.toArray k) ∧ 0 < vs.length ∧ vs.length < 1000)
      (fun h args _ v => ∀ (tl : Addr) (vs : List Value) (k : Nat), args = [.ref src, .ref tl] → h.get? tl = some (listOf vs.toArray k) → ∃ i : Nat, vs[i]? = some v)
theorem one_spec {w : World} {mean : ExcName → Option Value} {mg mb : Str → Option Value} {H : Heap} (B : Bs w mean mg mb H) (src : Addr) (hsrc : H.get? src = none) : OneS w H src := by
  have S := take_spec B src hsrc
  refine Sp.intro ?_
  rintro dp un fr s args R hst hdp hun ⟨⟨tl, vs, k, rfl, hne, htl, hl0, hl1⟩, a, ta, b, tb, n, ho, ha, hb, hb2⟩ hR
  refine' enter (binds := [(Str.ofString "source", .ref src), (Str.ofString "things", .ref tl)]) [src] (by simpa using hsrc) hst B ?ho ?hcd ?hroom ?hbind ?hloc ?h ?c2 ?c3 ?c4 ?c5
  walk_at "mine sides"
  intro g L h₁ F N X T hgs hbut hg
  have N := N (src, listOf #[.int a ta, .int b tb] n) (by simp) ho
  clear hg
  have hcL := cLine_is
  (try simp only [List.reverse_cons, List.reverse_nil, List.nil_append, List.cons_append] at F)
  (try dsimp only)
  walk_at "mine env"
  have htg : g.get? tl = some (listOf vs.toArray k) := hbut _ _ htl (by simpa using hne)
  k_steps
  refine hR _ _ _ ⟨⟨fun tl' vs' k' e1 e2 => ?_, SrcIs.of (News.get (by k_asm) (by k_mem)) (by assumption) (by assumption) (by assumption)⟩, fun b o e nb => Fr.keep (by assumption) b o (hbut b o e nb)⟩
  cases e1
  rw [htl] at e2
  have q := congrArg Obj.data (Option.some.inj e2)
  simp only [Data.seq.injEq] at q
  have q2 : vs = vs' := by simpa using q.1
  subst q2
  exact ⟨_, by assumption⟩
end Mine
-- B9
namespace Mine
noncomputable def SrcTag (_ : Addr) : Prop := True
section
variable {prog : Program} {w : World} {A : Around} {E : Value → Shared → Prop} {env : Env}
theorem comp_KT {src : Addr} (_t : SrcTag src) {s : Shared} {elt iter : Expr} {x : Str} {px : Pos} {scope : Scope} {cl : List (Str × Addr)} {pos : Pos} {Q : Value → Shared → Prop} {h₀ : Heap} {L : Addr} {m : Str → Option Value}
    (hclos : closureFor scope env = pure cl) (hcell : ∀ y ∈ scope.names, y.2 ≠ .cell) (hkind : scope.kind = .function)
    (hnames : ∀ y ∈ scope.names, y.2 = .local → scope.names.lookup y.1 = some .local) (hx : scope.names.lookup x = some .local)
    (F : Fr h₀ L s.heap m) (h : wpAny (model prog w) A (eval iter env) (CompP prog w A env scope cl x elt h₀ L m [src] Q) E s)
    (hs : ∀ x, foldedSetIterable iter env x = pure x) :
    wpAny (model prog w) A (eval (.ListComp elt [⟨.Name x px, iter, [], 0⟩] scope pos) env) Q E s := comp_K [src] hclos hcell hkind hnames hx F h hs
theorem SrcIs.stay {h h' : Heap} {src : Addr} (S : SrcIs h src) (k : ∀ o, h.get? src = some o → h'.get? src = some o) : SrcIs h' src := by
  obtain ⟨a, ta, b, tb, n, e, r1, r2, r3⟩ := S
  exact ⟨a, ta, b, tb, n, k _ e, r1, r2, r3⟩
theorem CompP.src {elt : Expr} {x : Str} {scope : Scope} {cl : List (Str × Addr)} {Q : Value → Shared → Prop} {h₀ : Heap} {L src : Addr} {m : Str → Option Value} {s₁ : Shared} {xv : Value} {n : Nat} {P : Nat → Value → Prop} {base : List Addr} {news : List (Addr × Obj)} {a b : Int} {ta tb : Tok} {n₁ : Nat} (rest : List (Addr × Obj)) (G : Nat → Value → Heap → Prop)
    (it : IterOk prog w A xv n P base s₁) (hl : n < 1000) (hbs : src ∉ base) (F : Fr h₀ L s₁.heap m) (N : News h₀ L s₁.heap news) (hm : (src, listOf #[.int a ta, .int b tb] n₁) ∈ news) (ha : 0 ≤ a) (hb : 0 ≤ b) (hb2 : b < 2147483647)
    (hr : ∀ p ∈ rest, p ∈ news) (hrs : ∀ p ∈ rest, p.1 ≠ src) (hG : ∀ i y h h', TLe h h' → G i y h → G i y h')
    (helt : ∀ C i v s₃ m₃ E' a ta b tb n', i < n → P i v → s₃.heap.Ns C m₃ → m₃ x = some v → 0 ≤ a → 0 ≤ b → b < 2147483647 → Fr h₀ L s₃.heap m → News h₀ L s₃.heap ((src, listOf #[.int a ta, .int b tb] n') :: rest) →
      wpAny (model prog w) A (eval elt (compEnvC scope cl C env)) (EltEnd [src] s₃ fun y h' => G i y h' ∧ SrcIs h' src) E' s₃)
    (hQ : ∀ D h' tk (ys : List Value) k' a ta b tb n', (∀ p ∈ rest, p.1 ≠ D) → D ≠ src → 0 ≤ a → 0 ≤ b → b < 2147483647 → Fr h₀ L h' m → News h₀ L h' ((D, listOf ys.toArray k') :: (src, listOf #[.int a ta, .int b tb] n') :: rest) → ys.length = n → (∀ i y, ys[i]? = some y → G i y h') → But [src] s₁.heap h' → Q (.ref D) { s₁ with heap := h', toks := tk }) :
    CompP prog w A env scope cl x elt h₀ L m [src] Q xv s₁ := by
  have hM := N (src, listOf #[.int a ta, .int b tb] n₁) hm
  have hlt : src < s₁.heap.objs.size := Heap.lt_size hM.1
  have N' : News h₀ L s₁.heap rest := fun p hp => N p (hr p hp)
  refine ⟨n, P, base, rest, fun (i : Nat) (ys : List Value) (h : Heap) => (∀ j y, ys[j]? = some y → G j y h) ∧ SrcIs h src, it, Nat.le_trans (Nat.le_of_lt hl) (by decide), fun b hb q => hbs (List.mem_singleton.mp q ▸ hb), by simpa using hlt, fun q => hM.2.1 (List.mem_singleton.mp q).symm, by simpa using hM.2.2, F, N', by simpa using hrs, ⟨by simp, a, ta, b, tb, n₁, hM.1, ha, hb, hb2⟩, ?_, ?_, ?_⟩
  · rintro i ys h h' st ⟨g1, g2⟩
    exact ⟨fun j y e => hG _ _ _ _ (fun a vs n e => st a _ e (by simp) (.inr ⟨_, _, rfl⟩)) (g1 j y e), g2.stay fun o e => st src o e (by simp) (.inl hlt)⟩
  · rintro C i v ys s₃ m₃ E' hi hp hl' ⟨hI, a', ta', b', tb', n', e', ha', hb', hb2'⟩ hn hm' _ hbut F' N3
    refine wpAny_mono (helt C i v s₃ m₃ E' a' ta' b' tb' n' hi hp hn hm' ha' hb' hb2' F' fun p hp => ?_) (fun y s₄ h₄ => ⟨h₄.1, h₄.2.1, fun j z hj => ?_, h₄.2.2.2⟩) fun _ _ e => e
    · rcases List.mem_cons.mp hp with rfl | hp
      · exact ⟨e', hM.2⟩
      · exact N3 p hp
    · obtain ⟨h4, tk4, rfl⟩ := h₄.1
      have tl : TLe s₃.heap h4 := fun a vs n e => h₄.2.1 a _ e (by
        intro q; rw [List.mem_singleton.mp q] at e
        rw [e'] at e; have q9 := congrArg Obj.cls (Option.some.inj e); simp at q9)
      rcases Nat.lt_trichotomy j ys.length with q | q | q
      · exact hG _ _ _ _ tl (hI j z (by rwa [List.getElem?_append_left q] at hj))
      · subst q; simp at hj; subst hj; rw [hl']; exact h₄.2.2.1
      · rw [List.getElem?_eq_none (by rw [List.length_append, List.length_singleton]; omega)] at hj; cases hj
  · rintro D h' tk ys k' hD F' N3 hD0 hl' ⟨hI, a', ta', b', tb', n', e', ha', hb', hb2'⟩ hbut
    have hDs : D ≠ src := fun q => by rw [q, hM.1] at hD0; cases hD0
    refine hQ D h' tk ys k' a' ta' b' tb' n' hD hDs ha' hb' hb2' F' (fun p hp => ?_) hl' hI hbut
    rcases List.mem_cons.mp hp with rfl | hp
    · exact N3 _ (.head _)
    · rcases List.mem_cons.mp hp with rfl | hp
      · exact ⟨e', hM.2⟩
      · exact N3 _ (.tail _ hp)
theorem mem_split {q : Addr × Obj} {src : Addr} {o : Obj} {news pre post : List (Addr × Obj)} (e : news = pre ++ (src, o) :: post) (hq : q.1 ≠ src) : q ∈ news ↔ q ∈ pre ∨ q ∈ post := by
  subst e
  simp only [List.mem_append, List.mem_cons]
  constructor
  · rintro (h | rfl | h)
    · exact .inl h
    · exact absurd rfl hq
    · exact .inr h
  · rintro (h | h)
    · exact .inl h
    · exact .inr (.inr h)
theorem CompP.srcU {elt : Expr} {x : Str} {scope : Scope} {cl : List (Str × Addr)} {Q : Value → Shared → Prop} {h₀ : Heap} {L src : Addr} {m : Str → Option Value} {s₁ : Shared} {xv : Value} {n : Nat} {P : Nat → Value → Prop} {base : List Addr} {news : List (Addr × Obj)} {a b : Int} {ta tb : Tok} {n₁ : Nat} {news' : Int → Tok → Int → Tok → Nat → List (Addr × Obj)} (G : Nat → Value → Heap → Prop)
    (F : Fr h₀ L s₁.heap m) (N : News h₀ L s₁.heap news) (hm : (src, listOf #[.int a ta, .int b tb] n₁) ∈ news) (ha : 0 ≤ a) (hb : 0 ≤ b) (hb2 : b < 2147483647)
    (U : ∀ a' ta' b' tb' n', Upd src (listOf #[.int a ta, .int b tb] n₁) (listOf #[.int a' ta', .int b' tb'] n') news (news' a' ta' b' tb' n'))
    (it : IterOk prog w A xv n P base s₁) (hl : n < 1000) (hbs : src ∉ base) (hG : ∀ i y h h', TLe h h' → G i y h → G i y h')
    (helt : ∀ C i v s₃ m₃ E' a ta b tb n', i < n → P i v → s₃.heap.Ns C m₃ → m₃ x = some v → 0 ≤ a → 0 ≤ b → b < 2147483647 → Fr h₀ L s₃.heap m → News h₀ L s₃.heap (news' a ta b tb n') →
      wpAny (model prog w) A (eval elt (compEnvC scope cl C env)) (EltEnd [src] s₃ fun y h' => G i y h' ∧ SrcIs h' src) E' s₃)
    (hQ : ∀ D h' tk (ys : List Value) k' a ta b tb n', (∀ p ∈ news' a ta b tb n', p.1 ≠ D) → 0 ≤ a → 0 ≤ b → b < 2147483647 → Fr h₀ L h' m → News h₀ L h' ((D, listOf ys.toArray k') :: news' a ta b tb n') → ys.length = n → (∀ i y, ys[i]? = some y → G i y h') → But [src] s₁.heap h' → Q (.ref D) { s₁ with heap := h', toks := tk }) :
    CompP prog w A env scope cl x elt h₀ L m [src] Q xv s₁ := by
  have hsp : ∃ pre post, news = pre ++ (src, listOf #[.int a ta, .int b tb] n₁) :: post ∧ (∀ p ∈ pre, p.1 ≠ src) ∧ (∀ p ∈ post, p.1 ≠ src) ∧ ∀ a' ta' b' tb' n', ∀ p, p ∈ news' a' ta' b' tb' n' ↔ p ∈ pre ∨ p = (src, listOf #[.int a' ta', .int b' tb'] n') ∨ p ∈ post := by
    obtain ⟨pre, post, e1, _, h1, h2⟩ := (U 0 0 0 0 0).split
    refine ⟨pre, post, e1, h1, h2, fun a' ta' b' tb' n' p => ?_⟩
    obtain ⟨pre', post', e1', e2', h1', h2'⟩ := (U a' ta' b' tb' n').split
    have key : ∀ q : Addr × Obj, q.1 ≠ src → (q ∈ pre' ∨ q ∈ post' ↔ q ∈ pre ∨ q ∈ post) := fun q hq => by
      have x1 := mem_split (q := q) e1 hq
      have x2 := mem_split (q := q) e1' hq
      exact x2.symm.trans x1
    rw [e2']
    simp only [List.mem_append, List.mem_cons]
    constructor
    · rintro (h | rfl | h)
      · rcases (key p (h1' p h)).mp (.inl h) with h | h
        · exact .inl h
        · exact .inr (.inr h)
      · exact .inr (.inl rfl)
      · rcases (key p (h2' p h)).mp (.inr h) with h | h
        · exact .inl h
        · exact .inr (.inr h)
    · rintro (h | rfl | h)
      · rcases (key p (h1 p h)).mpr (.inl h) with h | h
        · exact .inl h
        · exact .inr (.inr h)
      · exact .inr (.inl rfl)
      · rcases (key p (h2 p h)).mpr (.inr h) with h | h
        · exact .inl h
        · exact .inr (.inr h)
  obtain ⟨pre, post, rfl, h1, h2, hmem⟩ := hsp
  refine CompP.src (pre ++ post) G it hl hbs F N hm ha hb hb2 (fun p hp => ?_) (fun p hp => ?_) hG (fun C i v s₃ m₃ E' a ta b tb n' hi hp hn hm' x1 x2 x3 F' N' => helt C i v s₃ m₃ E' a ta b tb n' hi hp hn hm' x1 x2 x3 F' fun q hq => N' q ?_) (fun D h' tk ys k' a ta b tb n' hD hDs x1 x2 x3 F' N' => hQ D h' tk ys k' a ta b tb n' (fun q hq => ?_) x1 x2 x3 F' fun q hq => N' q ?_)
  · rcases List.mem_append.mp hp with hp | hp
    · exact List.mem_append_left _ hp
    · exact List.mem_append_right _ (.tail _ hp)
  · rcases List.mem_append.mp hp with hp | hp
    · exact h1 p hp
    · exact h2 p hp
  · rcases (hmem _ _ _ _ _ q).mp hq with h | rfl | h
    · exact .tail _ (List.mem_append_left _ h)
    · exact .head _
    · exact .tail _ (List.mem_append_right _ h)
  · rcases (hmem _ _ _ _ _ q).mp hq with h | rfl | h
    · exact hD q (List.mem_append_left _ h)
    · exact Ne.symm hDs
    · exact hD q (List.mem_append_right _ h)
  · rcases List.mem_cons.mp hq with rfl | hq
    · exact .head _
    · rcases (hmem _ _ _ _ _ q).mp hq with h | rfl | h
      · exact .tail _ (.tail _ (List.mem_append_left _ h))
      · exact .tail _ (.head _)
      · exact .tail _ (.tail _ (List.mem_append_right _ h))
end
end Mine
-- B10
namespace Mine
mutual
theorem rd_foot {h : Heap} : ∀ {v : Value} {d : Dat}, Rd h v d → ∃ fp : List (Addr × Obj), (∀ p ∈ fp, h.get? p.1 = some p.2 ∧ ∃ vs n, p.2 = tupO vs n) ∧ ∀ h' : Heap, (∀ p ∈ fp, h'.get? p.1 = some p.2) → Rd h' v d
  | _, _, .none => ⟨[], by simp, fun _ _ => .none⟩
  | _, _, .bool b => ⟨[], by simp, fun _ _ => .bool b⟩
  | _, _, .int i t => ⟨[], by simp, fun _ _ => .int i t⟩
  | _, _, .str x t => ⟨[], by simp, fun _ _ => .str x t⟩
  | _, _, .bytes b t => ⟨[], by simp, fun _ _ => .bytes b t⟩
  | _, _, .tuple (a := a) (vs := vs) (n := n) e l r => by
    obtain ⟨fp, h1, h2⟩ := rdA_foot r
    refine ⟨(a, tupO vs n) :: fp, fun p hp => ?_, fun h' k => .tuple (k _ (.head _)) l (h2 h' fun p hp => k p (.tail _ hp))⟩
    rcases List.mem_cons.mp hp with rfl | hp
    · exact ⟨e, _, _, rfl⟩
    · exact h1 p hp
theorem rdA_foot {h : Heap} : ∀ {vs : List Value} {ds : List Dat}, RdA h vs ds → ∃ fp : List (Addr × Obj), (∀ p ∈ fp, h.get? p.1 = some p.2 ∧ ∃ vs n, p.2 = tupO vs n) ∧ ∀ h' : Heap, (∀ p ∈ fp, h'.get? p.1 = some p.2) → RdA h' vs ds
  | _, _, .nil => ⟨[], by simp, fun _ _ => .nil⟩
  | _, _, .cons r rs => by
    obtain ⟨f1, a1, b1⟩ := rd_foot r
    obtain ⟨f2, a2, b2⟩ := rdA_foot rs
    refine ⟨f1 ++ f2, fun p hp => ?_, fun h' k => .cons (b1 h' fun p hp => k p (List.mem_append_left _ hp)) (b2 h' fun p hp => k p (List.mem_append_right _ hp))⟩
    rcases List.mem_append.mp hp with hp | hp
    · exact a1 p hp
    · exact a2 p hp
end
/-- what a datum stands on, as ledger entries -/
theorem foot_news {h₀ h : Heap} {L : Addr} {m : Str → Option Value} (F : Fr h₀ L h m) {fp : List (Addr × Obj)} (hf : ∀ p ∈ fp, h.get? p.1 = some p.2 ∧ ∃ vs n, p.2 = tupO vs n) :
    ∃ tl : List (Addr × Obj), News h₀ L h tl ∧ (∀ p ∈ tl, ∃ vs n, p.2 = tupO vs n) ∧ ∀ h' : Heap, (∀ b o, h₀.get? b = some o → h'.get? b = some o) → (∀ p ∈ tl, h'.get? p.1 = some p.2) → ∀ p ∈ fp, h'.get? p.1 = some p.2 := by
  refine ⟨fp.filter fun p => (h₀.get? p.1).isNone, fun p hp => ?_, fun p hp => (hf p (List.mem_filter.mp hp).1).2, fun h' k1 k2 p hp => ?_⟩
  · obtain ⟨h1, h2⟩ := List.mem_filter.mp hp
    obtain ⟨e, vs, n, e2⟩ := hf p h1
    refine ⟨e, fun q => ?_, by simpa using h2⟩
    obtain ⟨oL, es, ep, hL, hd, _⟩ := F.ns
    rw [q, hL] at e
    rw [Option.some.inj e, e2] at hd; cases hd
  · cases q : h₀.get? p.1 with
    | none => exact k2 p (List.mem_filter.mpr ⟨hp, by simp [q]⟩)
    | some o =>
      have e1 := F.keep _ _ q
      rw [(hf p hp).1] at e1; cases e1
      exact k1 _ _ q
theorem rd_news {h₀ h : Heap} {L : Addr} {m : Str → Option Value} (F : Fr h₀ L h m) {v : Value} {d : Dat} (r : Rd h v d) :
    ∃ tl : List (Addr × Obj), News h₀ L h tl ∧ (∀ p ∈ tl, ∃ vs n, p.2 = tupO vs n) ∧ ∀ h' : Heap, (∀ b o, h₀.get? b = some o → h'.get? b = some o) → (∀ p ∈ tl, h'.get? p.1 = some p.2) → Rd h' v d := by
  obtain ⟨fp, h1, h2⟩ := rd_foot r
  obtain ⟨tl, a, b, c⟩ := foot_news F h1
  exact ⟨tl, a, b, fun h' k1 k2 => h2 h' (c h' k1 k2)⟩
theorem rdA_news {h₀ h : Heap} {L : Addr} {m : Str → Option Value} (F : Fr h₀ L h m) {v : List Value} {d : List Dat} (r : RdA h v d) :
    ∃ tl : List (Addr × Obj), News h₀ L h tl ∧ (∀ p ∈ tl, ∃ vs n, p.2 = tupO vs n) ∧ ∀ h' : Heap, (∀ b o, h₀.get? b = some o → h'.get? b = some o) → (∀ p ∈ tl, h'.get? p.1 = some p.2) → RdA h' v d := by
  obtain ⟨fp, h1, h2⟩ := rdA_foot r
  obtain ⟨tl, a, b, c⟩ := foot_news F h1
  exact ⟨tl, a, b, fun h' k1 k2 => h2 h' (c h' k1 k2)⟩
theorem tl_ne {h₀ h : Heap} {L a : Addr} {o : Obj} {tl news : List (Addr × Obj)} (Nt : News h₀ L h tl) (ht : ∀ p ∈ tl, ∃ vs n, p.2 = tupO vs n) (N : News h₀ L h news) (hm : (a, o) ∈ news) (ho : o.cls ≠ .type "tuple") : ∀ p ∈ tl, p.1 ≠ a := fun p hp q => by
  obtain ⟨vs, n, e⟩ := ht p hp
  have h1 := (Nt p hp).1
  rw [q, N.get hm, e] at h1
  exact ho (by rw [Option.some.inj h1])
theorem News.app {h₀ h : Heap} {L : Addr} {a b : List (Addr × Obj)} (N : News h₀ L h a) (M : News h₀ L h b) : News h₀ L h (a ++ b) := fun p hp => (List.mem_append.mp hp).elim (N p) (M p)
theorem rdA_of {h : Heap} {P : Dat → Prop} : ∀ {ys : List Value}, (∀ (i : Nat) (y : Value), ys[i]? = some y → ∃ d, Rd h y d ∧ P d) → ∃ ds, RdA h ys ds ∧ ∀ d ∈ ds, P d
  | [], _ => ⟨[], .nil, by simp⟩
  | y :: ys, H => by
    obtain ⟨d, r, p⟩ := H 0 y rfl
    obtain ⟨ds, rs, ps⟩ := rdA_of (ys := ys) fun i z e => H (i + 1) z (by simpa using e)
    exact ⟨d :: ds, .cons r rs, fun z hz => (List.mem_cons.mp hz).elim (fun e => e ▸ p) (ps z)⟩
theorem ints_of {B : Int} : ∀ {ys : List Value}, (∀ (i : Nat) (y : Value), ys[i]? = some y → ∃ (r : Nat) (t : Tok), y = Value.int r t ∧ (r : Int) < B) → ∃ ns, IntsAre ys ns ∧ ∀ n ∈ ns, 0 ≤ n ∧ n < B
  | [], _ => ⟨[], .nil, by simp⟩
  | y :: ys, H => by
    obtain ⟨r, t, rfl, hr⟩ := H 0 y rfl
    obtain ⟨ns, h1, h2⟩ := ints_of (B := B) (ys := ys) fun i z e => H (i + 1) z (by simpa using e)
    exact ⟨r :: ns, .cons _ _ h1, fun z hz => (List.mem_cons.mp hz).elim (fun e => e ▸ ⟨by omega, hr⟩) (h2 z)⟩
section
variable {prog : Program} {w : World} {A : Around} {E : Value → Shared → Prop} {s : Shared} {h₀ : Heap} {L D : Addr} {m : Str → Option Value} {news : List (Addr × Obj)} {ys : List Value} {k : Nat}
theorem T_bytesL {ns : List Int} {Q : Value → Shared → Prop} (F : Fr h₀ L s.heap m) (N : News h₀ L s.heap news) (hm : (D, listOf ys.toArray k) ∈ news) (hi : IntsAre ys ns) (hr : ∀ n ∈ ns, 0 ≤ n ∧ n < 256) (hz : ys.length < 1000) (hh : A.handled = none)
    (h : ∀ h' t k, Fr h₀ L h' m → News h₀ L h' news → Q (.bytes (byteArr ns) t) { s with heap := h', toks := k }) : wpAny (model prog w) A (call (.type "bytes") [.ref D]) Q E s :=
  call_bytes_ints ⟨_, N.get hm, rfl, k, rfl⟩ hi hr (Nat.le_trans (Nat.le_of_lt hz) (by decide)) hh fun h' t k hk => h h' t k (F.keptAll hk) (N.grown hk)
theorem T_tupL {Q : Value → Shared → Prop} (F : Fr h₀ L s.heap m) (N : News h₀ L s.heap news) (hm : (D, listOf ys.toArray k) ∈ news) (hz : ys.length < 1000)
    (h : ∀ q h', Fr h₀ L h' m → News h₀ L h' ((q, tupO ys 0) :: news) → Q (.ref q) { s with heap := h' }) : wpAny (model prog w) A (call (.type "tuple") [.ref D]) Q E s :=
  tuple_ofL F N ⟨_, N.get hm, rfl, k, rfl⟩ (fun q h' F' N' _ => h q h' F' N') (Nat.le_trans (Nat.le_of_lt hz) (by decide))
end
end Mine
-- G2
namespace Mine
theorem words11 : True := by
  k_with_none
  (k_with "base k_mem" => first | exact Mine.memAt 0 rfl | exact Mine.memAt 1 rfl | exact Mine.memAt 2 rfl | exact Mine.memAt 3 rfl | exact Mine.memAt 4 rfl | exact Mine.memAt 5 rfl | exact Mine.memAt 6 rfl | exact Mine.memAt 7 rfl | (refine Mine.memSkip 8 rfl ?_; k_mem))
  (k_with "base k_all" => first | exact Mine.allNe (by with_reducible assumption) | with_reducible assumption | exact List.forall_mem_nil _ | (with_reducible refine' Mine.allApp ?a ?b; (case a => k_all); (case b => k_all)) | (refine' List.forall_mem_cons.mpr ⟨?a, ?b⟩; (case a => k_ne); (case b => k_all)) | assumption)
  (k_with "base k_ne" => first | with_reducible assumption | (refine Mine.ne_hi ?_; exact Mine.lt_mem (by with_reducible assumption) (by k_mem)) | exact Mine.neAt (by with_reducible assumption) (by k_mem) | exact Mine.neAt' (by with_reducible assumption) (by k_mem) | (refine Mine.ne_hi ?_; with_reducible first | assumption | exact Mine.pj0 (by assumption) | exact Mine.pj1 (by assumption) | exact Mine.pl1 (by assumption) | exact Mine.pj2 (by assumption) | exact Mine.pl2 (by assumption) | exact Mine.pj3 (by assumption) | exact Mine.pl3 (by assumption) | exact Mine.pj4 (by assumption) | exact Mine.pl4 (by assumption) | exact Mine.pj5 (by assumption) | exact Mine.pl5 (by assumption) | exact Mine.pj6 (by assumption) | exact Mine.pl6 (by assumption) | exact Mine.pj7 (by assumption) | exact Mine.pl7 (by assumption) | exact Mine.pj8 (by assumption) | exact Mine.pj9 (by assumption) | exact Mine.pj10 (by assumption) | exact Mine.pj11 (by assumption) | exact Mine.pj12 (by assumption) | exact Mine.pj13 (by assumption) | exact Mine.pj14 (by assumption)) | exact Ne.symm (by with_reducible assumption) | exact Ne.symm (by assumption) | (refine neN ?_; (try dsimp only); omega))
  (k_with "base k_steps" => (try ((fail_if_success (fail_if_success k_fold)); refine (let Q9z : _ → Shared → Prop := _; (?_ : wpAny _ _ _ Q9z _ _)))); (try ((fail_if_success (fail_if_success (conv in (Shared.mk _ _ _ _ _) => skip))); refine (let s9z : Shared := _; (?_ : wpAny _ _ _ _ _ s9z)))); (try ((with_reducible rename News _ _ _ (List.cons _ _) => N9z); refine (let NW9z : List (Addr × Obj) := _; have N8z : News _ _ _ (Mine.Fold NW9z) := N9z; ?_); clear N9z)); (try ((with_reducible rename Fr _ _ _ (fun _ => ite _ _ _) => F9z); refine (let FM9z : Str → Option Value := _; have F8z : Fr _ _ _ (Mine.Fold FM9z) := F9z; ?_); clear F9z)); repeat' (first | ((fail_if_success (fail_if_success k_unfold)); refine (?_ : wpAny _ _ _ _ _ _); (try ((fail_if_success (fail_if_success k_fold)); refine (let Q9z : _ → Shared → Prop := _; (?_ : wpAny _ _ _ Q9z _ _)))); (try ((fail_if_success (fail_if_success (conv in (Shared.mk _ _ _ _ _) => skip))); refine (let s9z : Shared := _; (?_ : wpAny _ _ _ _ _ s9z))))) | (k_unfold; (try dsimp only)) | (k_end; wrow_close) | ((first | walk1 | (dsimp only; walk1)); (try ((fail_if_success (fail_if_success k_fold)); refine (let Q9z : _ → Shared → Prop := _; (?_ : wpAny _ _ _ Q9z _ _)))); (try ((fail_if_success (fail_if_success (conv in (Shared.mk _ _ _ _ _) => skip))); refine (let s9z : Shared := _; (?_ : wpAny _ _ _ _ _ s9z)))); (try ((with_reducible rename News _ _ _ (List.cons _ _) => N9z); refine (let NW9z : List (Addr × Obj) := _; have N8z : News _ _ _ (Mine.Fold NW9z) := N9z; ?_); clear N9z)); (try ((with_reducible rename Fr _ _ _ (fun _ => ite _ _ _) => F9z); refine (let FM9z : Str → Option Value := _; have F8z : Fr _ _ _ (Mine.Fold FM9z) := F9z; ?_); clear F9z))) | (leave1; walk_say "STEP leave1"; try dsimp only) | fail "no step"))
  (k_with "mine drop" => first | exact memDrop 0 rfl | exact memDrop 1 rfl | exact memDrop 2 rfl | exact memDrop 3 rfl | exact memDrop 4 rfl | exact memDrop 5 rfl | exact memDrop 6 rfl | exact memDrop 7 rfl | exact memDrop 8 rfl | (refine dropSkip 8 rfl ?_; walk_at "mine drop"))
  (k_with "mine env" => refine (let ev9 : Env := _; let A9 : Around := _; (?_ : wpAny _ A9 (execs _ ev9) _ _ _)))
  (k_with "mine units" => (first | assumption | exact room (j := 1) (by assumption) rfl rfl | exact room (j := 3) (by assumption) rfl rfl | exact room (j := 2) (by assumption) rfl rfl | exact room (j := 4) (by assumption) rfl rfl | exact room (j := 5) (by assumption) rfl rfl | exact room (j := 0) (by assumption) rfl rfl | exact roomj (j := 3) (by assumption) rfl rfl | exact roomj (j := 1) (by assumption) rfl rfl | omega | (dsimp +zetaDelta only [Around.deeper, Ar, Around.in1, Around.mark]; omega)))
  (k_with "call type:range" => (k_here; k_dflt ((with_reducible show wpAny _ _ (PySem.call _ [Value.int _ _]) _ _ _); refine' T_range ?F9w ?N9w ?_; (case F9w => k_asm); (case N9w => k_asm); k_whole; intro h9w93' q9w93' tk9w93' t19w93' t29w93' F9w93' N9w93' r9w93' l19w93 b9w93'; (try k_lt l19w93); (try k_sweep))))
  (k_with "mine small" => (first | exact Nat.le_of_ble_eq_true rfl | decide | omega | (simp only [List.length_cons, List.length_nil]; omega)))
  (k_with "call ref" => (k_here; (with_reducible show wpAny _ _ (PySem.call (Value.ref 163) _) _ _ _); k_dflt (refine' call_src (f := 163) ?S9w ?F9w ?N9w ?m9w ?a9w ?b9w ?b29w ?U9w ?st9w ?hh9w ?hg9w ?d9w ?u9w ?pre9w ?_; (case S9w => assumption); (case F9w => k_asm); (case N9w => k_asm); (case m9w => k_mem); (case a9w => assumption); (case b9w => assumption); (case b29w => assumption); (case U9w => (intro a19w95 a29w95 a39w95 a49w95 a59w95; k_upd)); (case st9w => assumption); (case hh9w => rfl); (case hg9w => rfl); (case d9w => walk_at "mine units"); (case u9w => walk_at "mine units"); (case pre9w => exact ⟨_, _, rfl, by walk_at "mine small", by walk_at "mine small"⟩); intro r9w95' h9w95' tk9w95' a9w95' ta9w95' b9w95' tb9w95' n9w95' p9w95' F9w95' N9w95' x19w95' x29w95' x39w95' y9w95'; (obtain ⟨rr9w95', rt9w95', e9w95', z19w95', z29w95'⟩ := p9w95' _ _ rfl); subst e9w95'; clear p9w95'; (try k_sweep))))
  (k_with "call ref" => (k_here; (with_reducible show wpAny _ _ (PySem.call (Value.ref 170) _) _ _ _); k_dflt (refine' call_src (f := 170) ?S9w ?F9w ?N9w ?m9w ?a9w ?b9w ?b29w ?U9w ?st9w ?hh9w ?hg9w ?d9w ?u9w ?pre9w ?_; (case S9w => assumption); (case F9w => k_asm); (case N9w => k_asm); (case m9w => k_mem); (case a9w => assumption); (case b9w => assumption); (case b29w => assumption); (case U9w => (intro a19w96 a29w96 a39w96 a49w96 a59w96; k_upd)); (case st9w => assumption); (case hh9w => rfl); (case hg9w => rfl); (case d9w => walk_at "mine units"); (case u9w => walk_at "mine units"); (case pre9w => first | exact ⟨_, _, _, rfl, by k_ne, News.get (by k_asm) (by k_mem), by walk_at "mine small", by walk_at "mine small"⟩ | exact ⟨_, _, _, rfl, by k_ne, Fr.keep (by k_asm) _ _ (by assumption), by walk_at "mine small", by walk_at "mine small"⟩); intro r9w96' h9w96' tk9w96' a9w96' ta9w96' b9w96' tb9w96' n9w96' p9w96' F9w96' N9w96' x19w96' x29w96' x39w96' y9w96'; (first | (have z9w96' := p9w96' _ _ _ rfl (News.get (by k_asm) (by k_mem))) | (have z9w96' := p9w96' _ _ _ rfl (Fr.keep (by k_asm) _ _ (by assumption)))); clear p9w96'; (try k_sweep))))
  (k_with "eval ListComp" => (k_here; k_dflt (refine' comp_KT ?tag9w ?hclos9w ?hcell9w ?hkind9w ?hnames9w ?hx9w ?F9w ?_ ?hs9w; (case tag9w => with_reducible assumption); (case hclos9w => with_unfolding_all rfl); (case hcell9w => decide); (case hkind9w => with_unfolding_all rfl); (case hnames9w => decide); (case hx9w => with_unfolding_all rfl); (case F9w => k_asm); (case hs9w => intro _; with_unfolding_all rfl))))
  (k_with "call type:bytes" => (k_here; k_dflt ((with_reducible show wpAny _ _ (PySem.call _ [Value.ref _]) _ _ _); refine' T_bytesL ?F9w ?N9w ?m9w ?i9w ?r9w ?z9w ?hh9w ?_; (case F9w => k_asm); (case N9w => k_asm); (case m9w => k_mem); (case i9w => assumption); (case r9w => assumption); (case z9w => walk_at "mine small"); (case hh9w => rfl); intro h9w98' t9w98' k9w98' F9w98' N9w98'; (try k_sweep))))
  (k_with "call type:tuple" => (k_here; k_dflt ((with_reducible show wpAny _ _ (PySem.call _ [Value.ref _]) _ _ _); refine' T_tupL ?F9w ?N9w ?m9w ?z9w ?_; (case F9w => k_asm); (case N9w => k_asm); (case m9w => k_mem); (case z9w => walk_at "mine small"); intro q9w99' h9w99' F9w99' N9w99'; (try k_sweep))))
  (k_with "call ref" => (k_here; (with_reducible show wpAny _ _ (PySem.call (Value.ref 175) _) _ _ _); refine Halt.mk ?_))
  (k_with "newTuple" => (k_here; k_dflt (refine' newTupleM ?F9w ?N9w ?z9w ?_; (case F9w => k_asm); (case N9w => k_asm); (case z9w => exact Nat.le_of_ble_eq_true rfl)); intro D9w101' h9w101' NW99w101 s9w101' F9w101' N9w101' l19w101; (try k_sweep)))
  (k_with "spliced" => (k_here; k_dflt (refine' argsM ?a9w ?F9w ?e9w ?_; (case F9w => k_asm); (case a9w => rfl); (case e9w => rfl)); intro s9w102'))
  (k_with "eval List" => (k_here; k_dflt (refine' lstM ?a9w ?F9w ?e9w ?N9w ?z9w ?_; (case F9w => k_asm); (case a9w => rfl); (case e9w => rfl); (case N9w => k_asm); (case z9w => exact Nat.le_of_ble_eq_true rfl)); intro D9w103' h9w103' NW99w103 s9w103' F9w103' N9w103' l19w103; (try k_sweep)))
  (k_with "eval Constant int" => (refine constIntM ?_; intro s9w104'))
  (k_with "eval Name" => (k_here; k_dflt (first | ((with_reducible show wpAny _ _ (PySem.eval _ (compEnvC _ _ _ _)) _ _ _); first | (refine' nm_comp ?n9w ?m9w ?_ ?k9w ?l9w ?d9w; (case k9w => with_unfolding_all rfl); (case l9w => with_unfolding_all rfl); (case n9w => assumption); (case m9w => assumption); (case d9w => decide)) | (refine' nm_compC ?N9w ?c9w ?m9w ?d9w ?_ ?k9w ?l9w ?e9w; (case k9w => with_unfolding_all rfl); (case l9w => with_unfolding_all rfl); (case N9w => k_asm); (case c9w => with_unfolding_all rfl); (case m9w => k_mem); (case d9w => k_asm); (case e9w => decide))) | ((fail_if_success (with_reducible show wpAny _ _ (PySem.eval _ (compEnvC _ _ _ _)) _ _ _)); first | (refine' nameS ?a9w ?e9w ?F9w ?_; (case F9w => k_asm); (case a9w => rfl); (case e9w => rfl)) | (refine' nameK ?a9w ?g9w ?F9w ?X9w ?T9w ?e9w ?_; (case a9w => rfl); (case g9w => rfl); (case F9w => k_asm); (case X9w => k_asm); (case T9w => k_asm); (case e9w => k_is); k_whole) | (refine' nameB ?a9w ?g9w ?F9w ?X9w ?T9w ?e9w ?v9w ?n9w ?_; (case a9w => rfl); (case g9w => rfl); (case F9w => k_asm); (case X9w => k_asm); (case T9w => k_asm); (case e9w => k_is); (case v9w => boot_fast); (case n9w => decide); k_whole)))))
  (k_with "storeName" => (k_here; k_dflt (refine' storeM ?a9w ?b9w ?F9w ?N9w ?_; (case a9w => rfl); (case b9w => rfl); (case F9w => k_asm); (case N9w => k_asm)); intro h9w106' FM99w106 s9w106' F9w106' N9w106'; (try k_sweep)))
  trivial
noncomputable abbrev ValS (w : World) (H : Heap) (src : Addr) (k : Nat) : Prop := SpS w H src 175 (8 * k + 10) (40 * k + 40) (fun _ args => ∃ tk, args = [.ref src, .int (k : Nat) tk])
      (fun _ _ h' v => ∃ d, Rd h' v d ∧ cvOk (2 * k) d = true)
theorem cvOk_bool (n : Nat) (b : Bool) : cvOk n (.bool b) = true := by cases n <;> rfl
theorem cvOk_none (n : Nat) : cvOk n .none = true := by cases n <;> rfl
theorem cvOk_int (n : Nat) (i : Int) (h1 : -1000 < i) (h2 : i < 1000) : cvOk n (.int i) = true := by cases n <;> simp [cvOk, h1, h2]
theorem cvOk_bytes (n : Nat) {b : Array UInt8} (h : b.size ≤ 2) : cvOk n (.bytes b) = true := by cases n <;> simp [cvOk, h]
theorem ints_len {vs : List Value} {ns : List Int} (h : IntsAre vs ns) : ns.length = vs.length := by
  induction h with
  | nil => rfl
  | cons _ _ _ ih => simp [ih]
theorem byteArr_size {vs : List Value} {ns : List Int} (h : IntsAre vs ns) : (byteArr ns).size = vs.length := by
  rw [← ints_len h]; simp [byteArr]
theorem cvOk_tup {n : Nat} {ds : List Dat} (hl : ds.length ≤ 2) (hd : ∀ d ∈ ds, cvOk n d = true) : cvOk (n + 1) (.tuple ds) = true := by
  simp only [cvOk, hl, decide_true, Bool.true_and, List.all_eq_true]
  intro d hm
  have := hd d hm
  cases d with
  | str x => cases n <;> simp [cvOk] at this
  | _ => exact this
theorem cvOk_step {k j : Nat} (hj : k = j + 1) {x : Str} (hx : cw x = true) {ds : List Dat} (hl : ds.length ≤ 2) (hd : ∀ d ∈ ds, cvOk (2 * j) d = true) : cvOk (2 * k) (.tuple [.str x, .tuple ds]) = true := by
  subst hj
  show cvOk (2 * j + 1 + 1) _ = true
  have h1 := cvOk_tup hl hd
  show (decide (_ ≤ 2) && [Dat.str x, Dat.tuple ds].all (cokF (cvOk (2 * j + 1)))) = true
  have h2 : cokF (cvOk (2 * j + 1)) (.str x) = true := hx
  have h3 : cokF (cvOk (2 * j + 1)) (.tuple ds) = true := h1
  simp [h2, h3]
theorem word_of {t1 t2 : Tok} {i : Nat} {v : Value} (h : (#[Value.str (Str.ofString "struct") t1, Value.str (Str.ofString "array") t2] : Array Value).toList[i]? = some v) : ∃ (x : Str) (t : Tok), v = Value.str x t ∧ cw x = true := by
  rcases i with _ | _ | i
  · simp at h; exact ⟨_, _, h.symm, by decide⟩
  · simp at h; exact ⟨_, _, h.symm, by decide⟩
  · simp at h
theorem value_step {w : World} {mean : ExcName → Option Value} {mg mb : Str → Option Value} {H : Heap} (B : Bs w mean mg mb H) (src : Addr) (hsrc : H.get? src = none) (k : Nat) (hk : k ≤ 2) (prev : ∀ j, k = j + 1 → ValS w H src j) : ValS w H src k := by
  have S0 := take_spec B src hsrc
  have S1 := one_spec B src hsrc
  refine Sp.intro ?_
  rintro dp un fr s args R hst hdp hun ⟨⟨tk, rfl⟩, a, ta, b, tb, n, ho, ha, hb, hb2⟩ hR
  refine' enterC (binds := [(Str.ofString "source", .ref src), (Str.ofString "deep", .int k tk)]) [src] (by simpa using hsrc) hst B ?ho ?hcd ?hroom ?hbind ?hkind ?hnd ?h ?c2 ?c3 ?c4 ?c6
  case ho => k_is
  case hcd => k_is
  case hroom => (exact room0 hdp rfl)
  case hbind => exact BindsTo.of_eq rfl
  case hkind => exact rfl
  case hnd => decide +kernel
  case c2 => exact rfl
  case c3 => exact rfl
  case c4 => exact rfl
  case c6 => simpa using Heap.lt_size ho
  intro g L h₁ tk1 cells F Nc Nx Y X T hgs hbut hXL
  have hsL : @LT.lt Nat _ src L := hXL src (by simp)
  have Ns := (Nx (src, listOf #[.int a ta, .int b tb] n) (by simp) ho).1
  have N : News g L h₁ (cells ++ [(src, listOf #[.int a ta, .int b tb] n)]) := fun p hp => by
    rcases List.mem_append.mp hp with hp | hp
    · exact Nc p hp
    · exact Ns p hp
  clear Nc Nx Ns hXL
  k_cells Y
  (try dsimp only [List.cons_append, List.nil_append] at N)
  have hcL := cLine_is
  (try dsimp only)
  walk_at "mine env"
  have hTag : SrcTag src := trivial
  k_steps
  all_goals first
    | (rename (∃ i : Nat, _) => z9
       obtain ⟨i9, hi9⟩ := z9
       rcases i9 with _ | _ | _ | i9
       all_goals first
         | (simp at hi9; done)
         | (cases hi9
            refine hR _ _ _ ⟨⟨⟨_, .bool _, cvOk_bool _ _⟩, SrcIs.of (News.get (by k_asm) (by k_mem)) (by assumption) (by assumption) (by assumption)⟩, fun b o e nb => Fr.keep (by assumption) b o (hbut b o e nb)⟩)
         | (cases hi9
            refine hR _ _ _ ⟨⟨⟨_, .none, cvOk_none _⟩, SrcIs.of (News.get (by k_asm) (by k_mem)) (by assumption) (by assumption) (by assumption)⟩, fun b o e nb => Fr.keep (by assumption) b o (hbut b o e nb)⟩))
    | (refine hR _ _ _ ⟨⟨⟨_, .int _ _, cvOk_int _ _ (by omega) (by omega)⟩, SrcIs.of (News.get (by k_asm) (by k_mem)) (by assumption) (by assumption) (by assumption)⟩, fun b o e nb => Fr.keep (by assumption) b o (hbut b o e nb)⟩)
    | skip
  rotate_left
  rotate_left
  · refine' CompP.srcU (G := fun _ y _ => ∃ (r : Nat) (t : Tok), y = Value.int r t ∧ (r : Int) < 256) ?F ?N ?m ?ha ?hb ?hb2 ?U (IterOk.range rfl (by assumption) (by omega)) (by omega) (by simp) (fun _ _ _ _ _ x => x) ?elt ?hQ
    case F => k_asm
    case N => k_asm
    case m => k_mem
    case ha => assumption
    case hb => assumption
    case hb2 => assumption
    case U => (intro a1 a2 a3 a4 a5; k_upd)
    case elt =>
      rintro C i v s₃ m₃ E' a5 ta5 b5 tb5 n5 hi ⟨t5, rfl⟩ hn hm ha5 hb5 hb52 F' N'
      k_steps
      all_goals exact EltEnd.intro (by assumption) ⟨⟨_, _, rfl, by assumption⟩, SrcIs.of (News.get (by k_asm) (by k_mem)) (by assumption) (by assumption) (by assumption)⟩
    case hQ =>
      intro D h' tk ys k' a5 ta5 b5 tb5 n5 hDr ha5 hb5 hb52 F' N' hlen hG hb
      simp only [List.forall_mem_cons] at hDr
      obtain ⟨ns, hns, hnr⟩ := ints_of hG
      have hyl : ys.length < 1000 := by omega
      k_steps
      all_goals exact hR _ _ _ ⟨⟨⟨_, .bytes _ _, cvOk_bytes _ (byteArr_size hns ▸ by omega)⟩, SrcIs.of (News.get (by k_asm) (by k_mem)) (by assumption) (by assumption) (by assumption)⟩, fun b o e nb => Fr.keep (by assumption) b o (hbut b o e nb)⟩
  · refine' CompP.srcU (G := fun _ y _ => ∃ (r : Nat) (t : Tok), y = Value.int r t ∧ (r : Int) < 256) ?F ?N ?m ?ha ?hb ?hb2 ?U (IterOk.range rfl (by assumption) (by omega)) (by omega) (by simp) (fun _ _ _ _ _ x => x) ?elt ?hQ
    case F => k_asm
    case N => k_asm
    case m => k_mem
    case ha => assumption
    case hb => assumption
    case hb2 => assumption
    case U => (intro a1 a2 a3 a4 a5; k_upd)
    case elt =>
      rintro C i v s₃ m₃ E' a5 ta5 b5 tb5 n5 hi ⟨t5, rfl⟩ hn hm ha5 hb5 hb52 F' N'
      k_steps
      all_goals exact EltEnd.intro (by assumption) ⟨⟨_, _, rfl, by assumption⟩, SrcIs.of (News.get (by k_asm) (by k_mem)) (by assumption) (by assumption) (by assumption)⟩
    case hQ =>
      intro D h' tk ys k' a5 ta5 b5 tb5 n5 hDr ha5 hb5 hb52 F' N' hlen hG hb
      simp only [List.forall_mem_cons] at hDr
      obtain ⟨ns, hns, hnr⟩ := ints_of hG
      have hyl : ys.length < 1000 := by omega
      k_steps
      all_goals exact hR _ _ _ ⟨⟨⟨_, .bytes _ _, cvOk_bytes _ (byteArr_size hns ▸ by omega)⟩, SrcIs.of (News.get (by k_asm) (by k_mem)) (by assumption) (by assumption) (by assumption)⟩, fun b o e nb => Fr.keep (by assumption) b o (hbut b o e nb)⟩
  · have hk0 : ∃ j, k = j + 1 := ⟨k - 1, by omega⟩
    obtain ⟨j, hj⟩ := hk0
    have Sj := prev j hj
    have hkj : (k : Int) - 1 = (j : Nat) := by omega
    have hTn : ∀ (i : Nat) (y : Value) (h h' : Heap), TLe h h' → (∃ d, Rd h y d ∧ cvOk (2 * j) d = true) → ∃ d, Rd h' y d ∧ cvOk (2 * j) d = true := fun i y h h' t ⟨d, r, c⟩ => ⟨d, r.mono t, c⟩
    refine' CompP.srcU (G := fun _ y h => ∃ d, Rd h y d ∧ cvOk (2 * j) d = true) ?F ?N ?m ?ha ?hb ?hb2 ?U (IterOk.range rfl (by assumption) (by omega)) (by omega) (by simp) hTn ?elt ?hQ
    case F => k_asm
    case N => k_asm
    case m => k_mem
    case ha => assumption
    case hb => assumption
    case hb2 => assumption
    case U => (intro a1 a2 a3 a4 a5; k_upd)
    case elt =>
      rintro C i v s₃ m₃ E' a5 ta5 b5 tb5 n5 hi ⟨t5, rfl⟩ hn hm ha5 hb5 hb52 F' N'
      k_steps
      rw [hkj]
      refine Halt.get ?_
      refine' call_src (f := 175) Sj ?F1 ?N1 ?m1 ?a1 ?b1 ?c1 ?U1 ?st1 ?hh1 ?hg1 ?d1 ?u1 ⟨_, rfl⟩ ?_
      case F1 => k_asm
      case N1 => k_asm
      case m1 => k_mem
      case a1 => assumption
      case b1 => assumption
      case c1 => assumption
      case U1 => (intro a1 a2 a3 a4 a5; k_upd)
      case st1 => assumption
      case hh1 => rfl
      case hg1 => rfl
      case d1 => walk_at "mine units"
      case u1 => walk_at "mine units"
      intro r' h' tk' a' ta' b' tb' n' p' F' N' x1' x2' x3' y'
      exact EltEnd.intro (by assumption) ⟨p', SrcIs.of (News.get (by k_asm) (by k_mem)) (by assumption) (by assumption) (by assumption)⟩
    case hQ =>
      intro D h' tk ys k' a5 ta5 b5 tb5 n5 hDr ha5 hb5 hb52 F' N' hlen hG hb
      simp only [List.forall_mem_cons] at hDr
      obtain ⟨ds, hds, hdc⟩ := rdA_of (P := fun d => cvOk (2 * j) d = true) hG
      have hyl : ys.length < 1000 := by omega
      obtain ⟨tl, Nt, htc, htr⟩ := rdA_news F' hds
      have hn1 := tl_ne Nt htc N' (by k_mem) (a := D) (by simp)
      have hn2 := tl_ne Nt htc N' (by k_mem) (a := src) (by simp)
      have N3 := Mine.News.app N' Nt
      (try dsimp only [List.cons_append, List.nil_append] at N3)
      clear N' Nt
      k_steps
      all_goals (
        rename (∃ i : Nat, _) => z9
        obtain ⟨i9, hi9⟩ := z9
        have hw : ∃ (x : Str) (t : Tok), _ = Value.str x t ∧ cw x = true := word_of hi9
        obtain ⟨x9, t9, e9, l9⟩ := hw
        subst e9
        rename (News _ _ _ (_ :: _)) => N9
        rename (Fr _ _ _ _) => F9
        have hds9 := htr _ F9.keep (newsTl N9 (by walk_at "mine drop"))
        exact hR _ _ _ ⟨⟨⟨_, .tuple (vs := [_, _]) (News.get N9 (.head _)) (by simp) (.cons (.str _ _) (.cons (.tuple (News.get N9 (.tail _ (.head _))) hyl hds9) .nil)), cvOk_step hj l9 (by rw [← hds.length, hlen]; omega) hdc⟩, SrcIs.of (News.get (by k_asm) (by k_mem)) (by assumption) (by assumption) (by assumption)⟩, fun b o e nb => Fr.keep (by assumption) b o (hbut b o e nb)⟩)
theorem value_spec {w : World} {mean : ExcName → Option Value} {mg mb : Str → Option Value} {H : Heap} (B : Bs w mean mg mb H) (src : Addr) (hsrc : H.get? src = none) : ∀ k : Nat, k ≤ 2 → ValS w H src k
  | 0, hk => value_step B src hsrc 0 hk fun _ q => by cases q
  | k + 1, hk => value_step B src hsrc (k + 1) hk fun j q => by cases q; exact value_spec B src hsrc k (by omega)
end Mine
-- G3a
namespace Mine
theorem kinds_list {w : World} {mean : ExcName → Option Value} {mg mb : Str → Option Value} {H : Heap} (B : Bs w mean mg mb H) : H.get? 149 = some (listOf [.ref 141, .ref 142, .ref 144, .ref 148].toArray 0) := by
  refine B.k _ _ ?_
  k_is
theorem kinds_rd {w : World} {mean : ExcName → Option Value} {mg mb : Str → Option Value} {H : Heap} (B : Bs w mean mg mb H) : Rd H (.ref 141) dInt8 ∧ Rd H (.ref 142) dBool ∧ Rd H (.ref 144) dSlice ∧ Rd H (.ref 148) dMap := by
  have h1 : (hd.heap_1 w.params).lookup 141 = some (tupO [.str (Str.ofString "int") 371, .str (Str.ofString "int8") 372] 0) := by k_is
  have h2 : (hd.heap_1 w.params).lookup 142 = some (tupO [.str (Str.ofString "bool") 373] 0) := by k_is
  have h3 : (hd.heap_1 w.params).lookup 143 = some (tupO [.str (Str.ofString "int") 375, .str (Str.ofString "int") 376] 0) := by k_is
  have h4 : (hd.heap_1 w.params).lookup 144 = some (tupO [.str (Str.ofString "slice") 374, .ref 143] 0) := by k_is
  have h5 : (hd.heap_1 w.params).lookup 145 = some (tupO [.str (Str.ofString "string") 378] 0) := by k_is
  have h6 : (hd.heap_1 w.params).lookup 146 = some (tupO [.str (Str.ofString "named") 380, .str (Str.ofString "main.T") 381] 0) := by k_is
  have h7 : (hd.heap_1 w.params).lookup 147 = some (tupO [.str (Str.ofString "ptr") 379, .ref 146] 0) := by k_is
  have h8 : (hd.heap_1 w.params).lookup 148 = some (tupO [.str (Str.ofString "map") 377, .ref 145, .ref 147] 0) := by k_is
  have r3 : Rd H (.ref 143) dIntInt := .tuple (B.k _ _ h3) (by simp) (.cons (.str _ _) (.cons (.str _ _) .nil))
  have r5 : Rd H (.ref 145) (.tuple [.str (Str.ofString "string")]) := .tuple (B.k _ _ h5) (by simp) (.cons (.str _ _) .nil)
  have r6 := Rd.tuple (B.k _ _ h6) (by simp) (.cons (.str _ _) (.cons (.str _ _) .nil))
  have r7 := Rd.tuple (B.k _ _ h7) (by simp) (.cons (.str _ _) (.cons r6 .nil))
  exact ⟨.tuple (B.k _ _ h1) (by simp) (.cons (.str _ _) (.cons (.str _ _) .nil)), .tuple (B.k _ _ h2) (by simp) (.cons (.str _ _) .nil), .tuple (B.k _ _ h4) (by simp) (.cons (.str _ _) (.cons r3 .nil)),
    .tuple (B.k _ _ h8) (by simp) (.cons (.str _ _) (.cons r5 (.cons r7 .nil)))⟩
end Mine
-- G3
namespace Mine
theorem words12 : True := by
  k_with_none
  (k_with "base k_mem" => first | exact Mine.memAt 0 rfl | exact Mine.memAt 1 rfl | exact Mine.memAt 2 rfl | exact Mine.memAt 3 rfl | exact Mine.memAt 4 rfl | exact Mine.memAt 5 rfl | exact Mine.memAt 6 rfl | exact Mine.memAt 7 rfl | (refine Mine.memSkip 8 rfl ?_; k_mem))
  (k_with "base k_all" => first | exact Mine.allNe (by with_reducible assumption) | with_reducible assumption | exact List.forall_mem_nil _ | (with_reducible refine' Mine.allApp ?a ?b; (case a => k_all); (case b => k_all)) | (refine' List.forall_mem_cons.mpr ⟨?a, ?b⟩; (case a => k_ne); (case b => k_all)) | assumption)
  (k_with "base k_ne" => first | with_reducible assumption | (refine Mine.ne_hi ?_; exact Mine.lt_mem (by with_reducible assumption) (by k_mem)) | exact Mine.neAt (by with_reducible assumption) (by k_mem) | exact Mine.neAt' (by with_reducible assumption) (by k_mem) | (refine Mine.ne_hi ?_; with_reducible first | assumption | exact Mine.pj0 (by assumption) | exact Mine.pj1 (by assumption) | exact Mine.pl1 (by assumption) | exact Mine.pj2 (by assumption) | exact Mine.pl2 (by assumption) | exact Mine.pj3 (by assumption) | exact Mine.pl3 (by assumption) | exact Mine.pj4 (by assumption) | exact Mine.pl4 (by assumption) | exact Mine.pj5 (by assumption) | exact Mine.pl5 (by assumption) | exact Mine.pj6 (by assumption) | exact Mine.pl6 (by assumption) | exact Mine.pj7 (by assumption) | exact Mine.pl7 (by assumption) | exact Mine.pj8 (by assumption) | exact Mine.pj9 (by assumption) | exact Mine.pj10 (by assumption) | exact Mine.pj11 (by assumption) | exact Mine.pj12 (by assumption) | exact Mine.pj13 (by assumption) | exact Mine.pj14 (by assumption)) | exact Ne.symm (by with_reducible assumption) | exact Ne.symm (by assumption) | (refine neN ?_; (try dsimp only); omega))
  (k_with "base k_steps" => (try ((fail_if_success (fail_if_success k_fold)); refine (let Q9z : _ → Shared → Prop := _; (?_ : wpAny _ _ _ Q9z _ _)))); (try ((fail_if_success (fail_if_success (conv in (Shared.mk _ _ _ _ _) => skip))); refine (let s9z : Shared := _; (?_ : wpAny _ _ _ _ _ s9z)))); (try ((with_reducible rename News _ _ _ (List.cons _ _) => N9z); refine (let NW9z : List (Addr × Obj) := _; have N8z : News _ _ _ (Mine.Fold NW9z) := N9z; ?_); clear N9z)); (try ((with_reducible rename Fr _ _ _ (fun _ => ite _ _ _) => F9z); refine (let FM9z : Str → Option Value := _; have F8z : Fr _ _ _ (Mine.Fold FM9z) := F9z; ?_); clear F9z)); repeat' (first | ((fail_if_success (fail_if_success k_unfold)); refine (?_ : wpAny _ _ _ _ _ _); (try ((fail_if_success (fail_if_success k_fold)); refine (let Q9z : _ → Shared → Prop := _; (?_ : wpAny _ _ _ Q9z _ _)))); (try ((fail_if_success (fail_if_success (conv in (Shared.mk _ _ _ _ _) => skip))); refine (let s9z : Shared := _; (?_ : wpAny _ _ _ _ _ s9z))))) | (k_unfold; (try dsimp only)) | (k_end; wrow_close) | ((first | walk1 | (dsimp only; walk1)); (try ((fail_if_success (fail_if_success k_fold)); refine (let Q9z : _ → Shared → Prop := _; (?_ : wpAny _ _ _ Q9z _ _)))); (try ((fail_if_success (fail_if_success (conv in (Shared.mk _ _ _ _ _) => skip))); refine (let s9z : Shared := _; (?_ : wpAny _ _ _ _ _ s9z)))); (try ((with_reducible rename News _ _ _ (List.cons _ _) => N9z); refine (let NW9z : List (Addr × Obj) := _; have N8z : News _ _ _ (Mine.Fold NW9z) := N9z; ?_); clear N9z)); (try ((with_reducible rename Fr _ _ _ (fun _ => ite _ _ _) => F9z); refine (let FM9z : Str → Option Value := _; have F8z : Fr _ _ _ (Mine.Fold FM9z) := F9z; ?_); clear F9z))) | (leave1; walk_say "STEP leave1"; try dsimp only) | fail "no step"))
  (k_with "mine drop" => first | exact memDrop 0 rfl | exact memDrop 1 rfl | exact memDrop 2 rfl | exact memDrop 3 rfl | exact memDrop 4 rfl | exact memDrop 5 rfl | exact memDrop 6 rfl | exact memDrop 7 rfl | exact memDrop 8 rfl | (refine dropSkip 8 rfl ?_; walk_at "mine drop"))
  (k_with "mine env" => refine (let ev9 : Env := _; let A9 : Around := _; (?_ : wpAny _ A9 (execs _ ev9) _ _ _)))
  (k_with "mine sides" => ((case ho => k_is); (case hcd => k_is); (case hroom => (first | assumption | exact room0 (by assumption) rfl | omega | (dsimp only [Ar]; omega))); (case hbind => exact BindsTo.of_eq rfl); (case hloc => exact locs rfl); (case c2 => exact rfl); (case c3 => exact rfl); (case c4 => exact rfl); (case c5 => decide)))
  (k_with "mine units" => (first | assumption | exact room (j := 1) (by assumption) rfl rfl | exact room (j := 3) (by assumption) rfl rfl | exact room (j := 2) (by assumption) rfl rfl | exact room (j := 4) (by assumption) rfl rfl | exact room (j := 5) (by assumption) rfl rfl | exact room (j := 0) (by assumption) rfl rfl | exact roomj (j := 3) (by assumption) rfl rfl | exact roomj (j := 1) (by assumption) rfl rfl | omega | (dsimp +zetaDelta only [Around.deeper, Ar, Around.in1, Around.mark]; omega)))
  (k_with "mine small" => (first | exact Nat.le_of_ble_eq_true rfl | decide | omega | (simp only [List.length_cons, List.length_nil]; omega)))
  (k_with "call ref" => (k_here; (with_reducible show wpAny _ _ (PySem.call (Value.ref 163) _) _ _ _); k_dflt (refine' call_src (f := 163) ?S9w ?F9w ?N9w ?m9w ?a9w ?b9w ?b29w ?U9w ?st9w ?hh9w ?hg9w ?d9w ?u9w ?pre9w ?_; (case S9w => assumption); (case F9w => k_asm); (case N9w => k_asm); (case m9w => k_mem); (case a9w => assumption); (case b9w => assumption); (case b29w => assumption); (case U9w => (intro a19w110 a29w110 a39w110 a49w110 a59w110; k_upd)); (case st9w => assumption); (case hh9w => rfl); (case hg9w => rfl); (case d9w => walk_at "mine units"); (case u9w => walk_at "mine units"); (case pre9w => exact ⟨_, _, rfl, by walk_at "mine small", by walk_at "mine small"⟩); intro r9w110' h9w110' tk9w110' a9w110' ta9w110' b9w110' tb9w110' n9w110' p9w110' F9w110' N9w110' x19w110' x29w110' x39w110' y9w110'; (obtain ⟨rr9w110', rt9w110', e9w110', z19w110', z29w110'⟩ := p9w110' _ _ rfl); subst e9w110'; clear p9w110'; (try k_sweep))))
  (k_with "call ref" => (k_here; (with_reducible show wpAny _ _ (PySem.call (Value.ref 170) _) _ _ _); refine Halt.mk ?_))
  (k_with "call ref" => (k_here; (with_reducible show wpAny _ _ (PySem.call (Value.ref 175) _) _ _ _); refine Halt.mk ?_))
  (k_with "newTuple" => (k_here; k_dflt (refine' newTupleM ?F9w ?N9w ?z9w ?_; (case F9w => k_asm); (case N9w => k_asm); (case z9w => exact Nat.le_of_ble_eq_true rfl)); intro D9w113' h9w113' NW99w113 s9w113' F9w113' N9w113' l19w113; (try k_sweep)))
  (k_with "spliced" => (k_here; k_dflt (refine' argsM ?a9w ?F9w ?e9w ?_; (case F9w => k_asm); (case a9w => rfl); (case e9w => rfl)); intro s9w114'))
  (k_with "eval Constant str" => (refine constStrM ?_; intro s9w115'))
  (k_with "eval Constant int" => (refine constIntM ?_; intro s9w116'))
  (k_with "eval Name" => (k_here; k_dflt (first | ((with_reducible show wpAny _ _ (PySem.eval _ (compEnvC _ _ _ _)) _ _ _); first | (refine' nm_comp ?n9w ?m9w ?_ ?k9w ?l9w ?d9w; (case k9w => with_unfolding_all rfl); (case l9w => with_unfolding_all rfl); (case n9w => assumption); (case m9w => assumption); (case d9w => decide)) | (refine' nm_compC ?N9w ?c9w ?m9w ?d9w ?_ ?k9w ?l9w ?e9w; (case k9w => with_unfolding_all rfl); (case l9w => with_unfolding_all rfl); (case N9w => k_asm); (case c9w => with_unfolding_all rfl); (case m9w => k_mem); (case d9w => k_asm); (case e9w => decide))) | ((fail_if_success (with_reducible show wpAny _ _ (PySem.eval _ (compEnvC _ _ _ _)) _ _ _)); first | (refine' nameS ?a9w ?e9w ?F9w ?_; (case F9w => k_asm); (case a9w => rfl); (case e9w => rfl)) | (refine' nameK ?a9w ?g9w ?F9w ?X9w ?T9w ?e9w ?_; (case a9w => rfl); (case g9w => rfl); (case F9w => k_asm); (case X9w => k_asm); (case T9w => k_asm); (case e9w => k_is); k_whole) | (refine' nameB ?a9w ?g9w ?F9w ?X9w ?T9w ?e9w ?v9w ?n9w ?_; (case a9w => rfl); (case g9w => rfl); (case F9w => k_asm); (case X9w => k_asm); (case T9w => k_asm); (case e9w => k_is); (case v9w => boot_fast); (case n9w => decide); k_whole)))))
  trivial
/-- an operand drawn: its own tuple is new -/
inductive OpR (h h' : Heap) (v : Value) : Dat → Prop
  | reg (a : Addr) (i : Int) (t1 t2 : Tok) : v = .ref a → h.get? a = none → h'.get? a = some { cls := .type "tuple", data := .seq #[.str (Str.ofString "reg") t1, .int i t2] } → 0 ≤ i → i < 14 → OpR h h' v (.tuple [.str (Str.ofString "reg"), .int i])
  | const (a : Addr) (t1 : Tok) (v1 v2 : Value) (k c : Dat) : v = .ref a → h.get? a = none → h'.get? a = some { cls := .type "tuple", data := .seq #[.str (Str.ofString "const") t1, v1, v2] } → Rd h' v1 k → Rd h' v2 c → k ∈ kinds → cvOk 4 c = true → OpR h h' v (.tuple [.str (Str.ofString "const"), k, c])
theorem OpR.ok {h h' : Heap} {v : Value} {d : Dat} (o : OpR h h' v d) : Rd h' v d ∧ OpOk d := by
  cases o with
  | reg a i t1 t2 e _ g h0 h1 => subst e; exact ⟨.tuple (vs := [_, _]) g (by simp) (.cons (.str _ _) (.cons (.int _ _) .nil)), .reg _ h0 (by omega)⟩
  | const a t1 v1 v2 k c e _ g r1 r2 hk hc => subst e; exact ⟨.tuple (vs := [_, _, _]) g (by simp) (.cons (.str _ _) (.cons r1 (.cons r2 .nil))), .const _ _ hk hc⟩
theorem new_of {h g h' : Heap} {L a src : Addr} {o : Obj} {news : List (Addr × Obj)} (N : News g L h' news) (hm : (a, o) ∈ news) (ne : a ≠ src) (hb : But [src] h g) : h.get? a = none := by
  cases q : h.get? a with
  | none => rfl
  | some o' =>
    have := hb _ _ q (by simpa using ne)
    rw [(N _ hm).2.2] at this; cases this
theorem operand_src {w : World} {mean : ExcName → Option Value} {mg mb : Str → Option Value} {H : Heap} (B : Bs w mean mg mb H) (src : Addr) (hsrc : H.get? src = none) : SpS w H src 182 30 140 (fun _ args => args = [.ref src])
      (fun h _ h' v => ∃ d, OpR h h' v d) := by
  have S0 := take_spec B src hsrc
  have S1 := one_spec B src hsrc
  have S2 := value_spec B src hsrc 2 (by decide)
  refine Sp.intro ?_
  rintro dp un fr s args R hst hdp hun ⟨rfl, a, ta, b, tb, n, ho, ha, hb, hb2⟩ hR
  refine' enter (binds := [(Str.ofString "source", .ref src)]) [src] (by simpa using hsrc) hst B ?ho ?hcd ?hroom ?hbind ?hloc ?h ?c2 ?c3 ?c4 ?c5
  walk_at "mine sides"
  intro g L h₁ F N X T hgs hbut hg
  have N := N (src, listOf #[.int a ta, .int b tb] n) (by simp) ho
  clear hg
  have hcL := cLine_is
  (try simp only [List.reverse_cons, List.reverse_nil, List.nil_append, List.cons_append] at F)
  (try dsimp only)
  walk_at "mine env"
  k_steps
  all_goals first
    | exact hR _ _ _ ⟨⟨⟨_, .reg _ _ _ _ rfl (new_of (by k_asm) (by k_mem) (by k_ne) hbut) (News.get (by k_asm) (by k_mem)) (by assumption) (by omega)⟩, SrcIs.of (News.get (by k_asm) (by k_mem)) (by assumption) (by assumption) (by assumption)⟩, fun b o e nb => Fr.keep (by assumption) b o (hbut b o e nb)⟩
    | skip
  have h149 := hgs _ _ (kinds_list B)
  have hn149 : (149 : Addr) ≠ src := fun q => by rw [← q, kinds_list B] at hsrc; cases hsrc
  refine Halt.get ?_
  refine' call_src (f := 170) S1 ?F1 ?N1 ?m1 ?a1 ?b1 ?c1 ?U1 ?st1 ?hh1 ?hg1 ?d1 ?u1 ⟨_, _, _, rfl, hn149, Fr.keep (by assumption) _ _ h149, by decide, by decide⟩ ?_
  case F1 => k_asm
  case N1 => k_asm
  case m1 => k_mem
  case a1 => assumption
  case b1 => assumption
  case c1 => assumption
  case U1 => (intro a1 a2 a3 a4 a5; k_upd)
  case st1 => assumption
  case hh1 => rfl
  case hg1 => rfl
  case d1 => walk_at "mine units"
  case u1 => walk_at "mine units"
  intro r' h' tk' a' ta' b' tb' n' p' F' N' x1' x2' x3' y'
  have z9 := p' _ _ _ rfl (Fr.keep (by assumption) _ _ h149)
  clear p'
  have hk9 : ∃ d, d ∈ kinds ∧ Rd H r' d := by
    obtain ⟨k1, k2, k3, k4⟩ := kinds_rd B
    obtain ⟨i, hi⟩ := z9
    rcases i with _ | _ | _ | _ | i <;> simp at hi
    · subst hi; exact ⟨_, by simp [kinds], k1⟩
    · subst hi; exact ⟨_, by simp [kinds], k2⟩
    · subst hi; exact ⟨_, by simp [kinds], k3⟩
    · subst hi; exact ⟨_, by simp [kinds], k4⟩
  clear z9
  obtain ⟨d9, hd9, hr9⟩ := hk9
  k_steps
  refine Halt.get ?_
  refine' call_src (f := 175) S2 ?F1 ?N1 ?m1 ?a1 ?b1 ?c1 ?U1 ?st1 ?hh1 ?hg1 ?d1 ?u1 ⟨tk', rfl⟩ ?_
  case F1 => k_asm
  case N1 => k_asm
  case m1 => k_mem
  case a1 => assumption
  case b1 => assumption
  case c1 => assumption
  case U1 => (intro a1 a2 a3 a4 a5; k_upd)
  case st1 => assumption
  case hh1 => rfl
  case hg1 => rfl
  case d1 => walk_at "mine units"
  case u1 => walk_at "mine units"
  intro r8 h8 tk8 a8 ta8 b8 tb8 n8 p8 F8 N8 x1' x2' x3' y'
  obtain ⟨d8, rd8, cd8⟩ := p8
  obtain ⟨tl, Nt, htc, htr⟩ := rd_news F8 rd8
  have hn2 := tl_ne Nt htc N8 (by k_mem) (a := src) (by simp)
  have N3 := Mine.News.app N8 Nt
  (try dsimp only [List.cons_append, List.nil_append] at N3)
  clear N8 Nt
  k_steps
  all_goals (
    rename (News _ _ _ (_ :: _)) => N9
    rename (Fr _ _ _ _) => F9
    have hds9 := htr _ F9.keep (newsTl N9 (by walk_at "mine drop"))
    exact hR _ _ _ ⟨⟨⟨_, .const _ _ _ _ _ _ rfl (new_of N9 (.head _) (by k_ne) hbut) (News.get N9 (.head _)) (hr9.mono fun a vs n e => F9.keep _ _ (hgs _ _ e)) hds9 hd9 cd8⟩, SrcIs.of (News.get (by k_asm) (by k_mem)) (by assumption) (by assumption) (by assumption)⟩, fun b o e nb => Fr.keep (by assumption) b o (hbut b o e nb)⟩)
end Mine
-- G4
namespace Mine
theorem upd_key {d : Addr} {o o' : Obj} {l l' : List (Addr × Obj)} (U : Upd d o o' l l') : ∀ p ∈ l', ∃ q ∈ l, q.1 = p.1 := fun p hp => by
  obtain ⟨pre, post, rfl, rfl, _, _⟩ := U.split
  rcases List.mem_append.mp hp with hp | hp
  · exact ⟨p, List.mem_append_left _ hp, rfl⟩
  · rcases List.mem_cons.mp hp with rfl | hp
    · exact ⟨_, List.mem_append_right _ (.head _), rfl⟩
    · exact ⟨p, List.mem_append_right _ (.tail _ hp), rfl⟩
theorem none_ne {h h₀ : Heap} {L a : Addr} {news : List (Addr × Obj)} (N : News h₀ L h news) (e : h.get? a = none) : ∀ p ∈ news, p.1 ≠ a := fun p hp q => by
  have := (N p hp).1
  rw [q, e] at this; cases this
noncomputable abbrev OperS (w : World) (H : Heap) (src : Addr) : Prop := SpS w H src 182 30 140 (fun _ args => args = [.ref src])
      (fun h _ h' v => ∃ d, OpR h h' v d)
noncomputable abbrev opReg (i : Int) (t1 t2 : Tok) : Obj := { cls := .type "tuple", data := .seq #[.str (Str.ofString "reg") t1, .int i t2] }
noncomputable abbrev opConst (v1 v2 : Value) (t1 : Tok) : Obj := { cls := .type "tuple", data := .seq #[.str (Str.ofString "const") t1, v1, v2] }
theorem call_op {w : World} {H h₀ : Heap} {src : Addr} {A : Around} {E : Value → Shared → Prop} {Q : Value → Shared → Prop} {s : Shared} {L : Addr} {m : Str → Option Value} {news : List (Addr × Obj)}
    {a b : Int} {ta tb : Tok} {n : Nat} {news' : Int → Tok → Int → Tok → Nat → List (Addr × Obj)}
    (S : OperS w H src) (F : Fr h₀ L s.heap m) (N : News h₀ L s.heap news) (hm : (src, listOf #[.int a ta, .int b tb] n) ∈ news) (ha : 0 ≤ a) (hb : 0 ≤ b) (hb2 : b < 2147483647)
    (U : ∀ a' ta' b' tb' n', Upd src (listOf #[.int a ta, .int b tb] n) (listOf #[.int a' ta', .int b' tb'] n') news (news' a' ta' b' tb' n'))
    (hst : H.StaysIn h₀) (hh : A.handled = none) (hg : A.guards = some []) (hd : A.depth + 30 < recursionLimit) (hu : A.units + 140 < cLine)
    (h1 : ∀ (r : Addr) (i : Int) t1 t2 h' tk' a' ta' b' tb' n', 0 ≤ i → i < 14 → (∀ p ∈ news' a' ta' b' tb' n', p.1 ≠ r) → Fr h₀ L h' m → News h₀ L h' ((r, opReg i t1 t2) :: news' a' ta' b' tb' n') → 0 ≤ a' → 0 ≤ b' → b' < 2147483647 → Q (.ref r) { s with heap := h', toks := tk' })
    (h2 : ∀ (r : Addr) v1 v2 k c t1 (tl : List (Addr × Obj)) h' tk' a' ta' b' tb' n', k ∈ kinds → cvOk 4 c = true → (∀ p ∈ news' a' ta' b' tb' n', p.1 ≠ r) → (∀ p ∈ tl, p.1 ≠ src) → (∀ h' : Heap, (∀ b o, h₀.get? b = some o → h'.get? b = some o) → (∀ p ∈ tl, h'.get? p.1 = some p.2) → RdA h' [v1, v2] [k, c]) →
      Fr h₀ L h' m → News h₀ L h' ((r, opConst v1 v2 t1) :: (news' a' ta' b' tb' n' ++ tl)) → 0 ≤ a' → 0 ≤ b' → b' < 2147483647 → Q (.ref r) { s with heap := h', toks := tk' }) :
    wpAny (model PySem.Challenge.rw_on0012_01.row.prog w) A (call (.ref 182) [.ref src]) Q E s := by
  refine call_src (f := 182) S F N hm ha hb hb2 U hst hh hg hd hu rfl ?_
  intro r h' tk' a' ta' b' tb' n' ⟨d, o⟩ F' N' x1 x2 x3 hbut
  have hlt : ∀ c, s.heap.get? c = none → ∀ p ∈ news' a' ta' b' tb' n', p.1 ≠ c := fun c hc p hp => by
    obtain ⟨q, hq, e⟩ := upd_key (U a' ta' b' tb' n') p hp
    exact e ▸ none_ne N hc q hq
  have hms : (src, listOf #[.int a' ta', .int b' tb'] n') ∈ news' a' ta' b' tb' n' := by
    obtain ⟨pre, post, _, e2, _, _⟩ := (U a' ta' b' tb' n').split
    rw [e2]; simp
  have hn : ∀ c ob, s.heap.get? c = none → h'.get? c = some ob → (∃ vs n, ob = tupO vs n) → News h₀ L h' [(c, ob)] := fun c ob e1 e2 e3 p hp => by
    rw [List.mem_singleton.mp hp]
    refine ⟨e2, fun q => ?_, ?_⟩
    · obtain ⟨oL, es, ep, hL, hd, _⟩ := F'.ns
      obtain ⟨vs, nn, e3⟩ := e3
      have q' : c = L := q
      rw [q', hL] at e2
      rw [Option.some.inj e2, e3] at hd; cases hd
    · cases q : h₀.get? c with
      | none => rfl
      | some o' => have := F.keep _ _ q; rw [e1] at this; cases this
  cases o with
  | reg c i t1 t2 e e0 e1 i0 i1 =>
    subst e
    exact h1 c i t1 t2 h' tk' a' ta' b' tb' n' i0 i1 (hlt c e0) F' (News.app (hn c _ e0 e1 ⟨[_, _], 0, rfl⟩) N') x1 x2 x3
  | const c t1 v1 v2 k d e e0 e1 r1 r2 hk hc =>
    subst e
    obtain ⟨tl, Nt, htc, htr⟩ := rdA_news F' (RdA.cons r1 (RdA.cons r2 RdA.nil))
    exact h2 c v1 v2 k d t1 tl h' tk' a' ta' b' tb' n' hk hc (hlt c e0) (tl_ne Nt htc N' hms (by simp)) htr F' (News.app (News.app (hn c _ e0 e1 ⟨[_, _, _], 0, rfl⟩) N') Nt) x1 x2 x3
end Mine
-- B11
namespace Mine
theorem isList_of {h₀ h : Heap} {L a : Addr} {news : List (Addr × Obj)} {its : Array Value} {k : Nat} (N : News h₀ L h news) (hm : (a, listOf its k) ∈ news) : h.IsList a its := ⟨_, N.get hm, rfl, _, rfl⟩
theorem T_addLL {prog : Program} {w : World} {A : Around} {E : Value → Shared → Prop} {s : Shared} {h₀ : Heap} {L a b : Addr} {m : Str → Option Value} {news : List (Addr × Obj)} {vs ws : List Value} {k k2 : Nat} {Q : Value → Shared → Prop}
    (F : Fr h₀ L s.heap m) (N : News h₀ L s.heap news) (ha : (a, listOf vs.toArray k) ∈ news) (hb : (b, listOf ws.toArray k2) ∈ news) (hz : vs.length + ws.length ≤ 100000)
    (h : ∀ D h', Fr h₀ L h' m → News h₀ L h' ((D, listOf (vs ++ ws).toArray 0) :: news) → (∀ p ∈ news, p.1 < D) → Q (.ref D) { s with heap := h' }) :
    wpAny (model prog w) A (binaryOp .Add (.ref a) (.ref b)) Q E s :=
  add_lists F N (isList_of N ha) (isList_of N hb) (fun h' F' N' => h _ h' F' N' fun p hp => Heap.lt_size (N p hp).1) (Nat.le_trans hz (by decide))
section
variable {prog : Program} {w : World} {A : Around} {E : Value → Shared → Prop} {env : Env}
/-- the end of a test: left out, or the element is taken up -/
noncomputable def TestEnd (prog : Program) (w : World) (A : Around) (cenv : Env) (elt : Expr) (I : List Value → Prop) (ys : List Value) (E' : Value → Shared → Prop) (s₃ : Shared) (ok : Bool) (s₄ : Shared) : Prop :=
  ((∃ h' tk', s₄ = { s₃ with heap := h', toks := tk' }) ∧ But [] s₃.heap s₄.heap) ∧ (ok = false → I ys) ∧
    (ok = true → wpAny (model prog w) A (eval elt cenv) (EltEnd [] s₄ fun y _ => I (ys ++ [y])) E' s₄)
theorem TestEnd.no {cenv : Env} {elt : Expr} {I : List Value → Prop} {ys : List Value} {E' : Value → Shared → Prop} {s₃ : Shared} {h' : Heap} {tk' : Nat} (b : But [] s₃.heap h') (i : I ys) :
    TestEnd prog w A cenv elt I ys E' s₃ false { s₃ with heap := h', toks := tk' } := ⟨⟨⟨_, _, rfl⟩, b⟩, fun _ => i, fun e => by cases e⟩
theorem TestEnd.yes {cenv : Env} {elt : Expr} {I : List Value → Prop} {ys : List Value} {E' : Value → Shared → Prop} {s₃ : Shared} {h' : Heap} {tk' : Nat} (b : But [] s₃.heap h')
    (h : wpAny (model prog w) A (eval elt cenv) (EltEnd [] { s₃ with heap := h', toks := tk' } fun y _ => I (ys ++ [y])) E' { s₃ with heap := h', toks := tk' }) :
    TestEnd prog w A cenv elt I ys E' s₃ true { s₃ with heap := h', toks := tk' } := ⟨⟨⟨_, _, rfl⟩, b⟩, (fun e => by cases e), fun _ => h⟩
theorem block_F {s₁ : Shared} {elt iter c : Expr} {x : Str} {px : Pos} {scope : Scope} {cl : List (Str × Addr)} {pos : Pos} {xv : Value} {n : Nat} {P : Nat → Value → Prop} {base : List Addr} {I : Nat → List Value → Prop} {RR : Value → Addr → Result → Shared → Prop}
    (hcell : ∀ y ∈ scope.names, y.2 ≠ .cell) (hkind : scope.kind = .function) (hx : scope.names.lookup x = some .local)
    (hit : IterOk prog w A xv n P base s₁) (hsz : n ≤ sizeLine) (hi0 : I 0 []) (hlen : ∀ i ys, I i ys → ys.length ≤ i)
    (helt : ∀ C i v ys s₃ m₃ E', i < n → P i v → I i ys → s₃.heap.Ns C m₃ → m₃ x = some v → s₁.heap.objs.size ≤ C → But [] s₁.heap s₃.heap →
        wpAny (model prog w) A (isTrue c (compEnvC scope cl C env) (eval c (compEnvC scope cl C env))) (TestEnd prog w A (compEnvC scope cl C env) elt (I (i + 1)) ys E' s₃) E' s₃)
    (hRR : ∀ D C h tk m' ys, s₁.heap.objs.size ≤ D → D ≠ C → s₁.heap.objs.size ≤ C → h.Ns C m' → h.PlainList D ys.toArray → I n ys → But [] s₁.heap h → RR (.ref D) C (.ok .next) { s₁ with heap := h, toks := tk }) :
    wpAny (model prog w) A (pyIter xv) (fun it s₂ => wpAny (model prog w) A (newList []) (fun acc s₃ => wpAny (model prog w) A (newFunctionEnv scope env.globals cl [] env.qual none .none (some env)) (fun cenv s₄ =>
      codeAny (model prog w) A (.compStart (.ListComp elt [⟨.Name x px, iter, [c], 0⟩] scope pos) 0 it acc { cenv with scope := relabel scope env }) (RR acc cenv.locals) s₄) E s₃) E s₂) E s₁ := by
  refine hit _ _ fun It fp wr St h₂ W hst hfp hwr hszz hfb hnt hk => ?_
  have hwl : ∀ b o, s₁.heap.get? b = some o → b ∉ wr := fun b o e q => absurd (Heap.lt_size e) (Nat.not_lt.mpr (hwr b q))
  refine wpAny_newObj_type (wpAny_newFunctionEnv hcell (by intro y hy; simp at hy) (fun h₁ hns₁ hsb₁ => ?_) hkind)
  dsimp only at hns₁ hsb₁ ⊢
  generalize hH2 : h₂.push { cls := .type "list", dict := none, data := .seq ([] : List Value).toArray } = H2 at hns₁ hsb₁ ⊢
  have hC : H2.objs.size = h₂.objs.size + 1 := by rw [← hH2, Heap.size_push]
  have hDC : h₂.objs.size ≠ H2.objs.size := by rw [hC]; exact Nat.ne_of_lt (Nat.lt_succ_self _)
  have hCle : s₁.heap.objs.size ≤ H2.objs.size := by rw [hC]; exact Nat.le_trans hszz (Nat.le_succ _)
  have below : ∀ b, b < h₂.objs.size → b ≠ H2.objs.size ∧ b ≠ h₂.objs.size := fun b hb => ⟨by rw [hC]; exact Nat.ne_of_lt (Nat.lt_succ_of_lt hb), Nat.ne_of_lt hb⟩
  have below1 : ∀ b, b < s₁.heap.objs.size → b ≠ H2.objs.size ∧ b ≠ h₂.objs.size := fun b hb => below b (Nat.lt_of_lt_of_le hb hszz)
  have hDf : h₂.objs.size ∉ fp := fun hm => Nat.lt_irrefl _ (hfp _ hm)
  have hCf : H2.objs.size ∉ fp := fun hm => by have := hfp _ hm; rw [hC] at this; exact Nat.lt_irrefl _ (Nat.lt_of_succ_lt this)
  have old : ∀ b o, h₂.get? b = some o → h₁.get? b = some o := fun b o e => hsb₁.extBut b o (below b (Heap.lt_size e)).1 (Heap.get?_push_of_some _ (hH2 ▸ Heap.get?_push_of_some _ e))
  have hacc : h₁.PlainList h₂.objs.size #[] := ⟨_, hsb₁.extBut _ _ hDC (Heap.get?_push_of_some _ (hH2 ▸ Heap.get?_push_size _ rfl))⟩
  have hst₁ : St 0 h₁ := W.frame _ _ _ hst fun b _ o e => old b o e
  have fresh : ∀ a, s₁.heap.objs.size ≤ a → s₁.heap.get? a = none := fun a ha => by
    cases e : s₁.heap.get? a with
    | none => rfl
    | some o' => exact absurd (Heap.lt_size e) (Nat.not_lt.mpr ha)
  refine codeAny_compStart_list ?key (W.self 0 _ _ _ hst₁ ?key)
  all_goals (
    show codeAny _ _ (.compLoop _ _ _ _ (compEnvC scope cl H2.objs.size env)) _ _
    refine codeAny_compLoop_tests
      (BlkT s₁ St h₂.objs.size H2.objs.size I n (fun h' => But [] s₁.heap h')) ?_ (n + 1)
      ⟨0, h₁, _, _, [], rfl, hst₁, hacc, hns₁, hi0, Nat.zero_le _, rfl, fun b o e _ => old b o (hk b o e)⟩
    rintro k s' ⟨i, H, tk, m', ys, rfl, hst', hacc', hn', hI, hi, rfl, hbut⟩
    have hCw : H2.objs.size ∉ wr := fun h => hCf (W.sub _ h)
    have hDw : h₂.objs.size ∉ wr := fun h => hDf (W.sub _ h)
    by_cases hlt : i < n
    · refine W.item i _ _ _ hlt hst' fun v h₃ tk₂ hPv hst₂ hk₂ => ?_
      refine wpAny_assign_Name (wpAny_storeName_local (lookup_relabel_local hx) (hn'.at' fun o e => hk₂ _ o hCw e) (fun h₃ hn₃ hs₃ => ?_) (by simp [compEnvC, relabel, hkind]))
      have up₃ : ∀ b o, b ≠ H2.objs.size → b ∉ wr → H.get? b = some o → h₃.get? b = some o := fun b o hbC hbf e => hs₃.extBut b o hbC (hk₂ b o hbf e)
      have hst₃ : St (i + 1) h₃ := W.frame _ _ _ hst₂ fun b hb o e => hs₃.extBut b o (fun (h : b = H2.objs.size) => hCf (h ▸ hb)) e
      have b₃ : But [] s₁.heap h₃ := fun b o e _ => up₃ b o (below1 b (Heap.lt_size e)).1 (hwl b o e) (hbut b o e (by simp))
      have hacc₃ : h₃.PlainList h₂.objs.size ys.toArray := hacc'.at fun o e => up₃ _ o hDC hDw e
      refine wpAny_tests_one (wpAny_mono (helt H2.objs.size i v ys _ _ _ hlt hPv hI hn₃ (by simp) hCle b₃) (fun ok s₄ h₄ => ?_) fun _ _ e => e)
      obtain ⟨⟨⟨h₄, tk₄, rfl⟩, hb4⟩, hno, hyes⟩ := h₄
      have hst₄ : St (i + 1) h₄ := W.frame _ _ _ hst₃ fun b hb o e => hb4 b o e (by simp)
      have hn₄ := hn₃.at' fun o e => hb4 _ o e (by simp)
      have hacc₄ : h₄.PlainList h₂.objs.size ys.toArray := hacc₃.at fun o e => hb4 _ o e (by simp)
      cases ok with
      | false =>
        refine (if_neg (by decide)).mpr ?_
        exact ⟨n + 1 - (i + 1), by omega, i + 1, h₄, tk₄, _, ys, rfl, hst₄, hacc₄, hn₄, hno rfl, hlt, rfl, b₃.trans hb4⟩
      | true =>
        refine (if_pos rfl).mpr ?_
        refine wpAny_mono (hyes rfl) (fun y s₅ h₅ => ?_) fun _ _ e => e
        obtain ⟨⟨h₅, tk₅, rfl⟩, hb5, hI5⟩ := h₅
        have hys : ys.length ≤ i := hlen i ys hI
        refine wpAny_list_append_plain (hsz := by simp; omega) (hacc₄.at fun o e => hb5 _ o e (by simp)) fun h₆ hl₆ hs₆ => ?_
        refine ⟨n + 1 - (i + 1), by omega, i + 1, h₆, tk₅, _, ys ++ [y], rfl, ?_, by simpa using hl₆, (hn₄.at' fun o e => hb5 _ o e (by simp)).sameBut hs₆ (Ne.symm hDC), hI5, hlt, rfl, fun b o e _ => ?_⟩
        · exact W.frame _ _ h₆ hst₄ fun b hb o e => hs₆.extBut b o (fun h => hDf (h ▸ hb)) (hb5 b o e (by simp))
        · exact hs₆.extBut b o (below1 b (Heap.lt_size e)).2 (hb5 b o (hb4 b o (b₃ b o e (by simp)) (by simp)) (by simp))
    · have hin : i = n := by omega
      subst hin
      refine W.done _ _ _ hst' fun h₃ tk₂ hk₂ => ?_
      obtain ⟨kd, ed⟩ := hacc'.at fun o e => hk₂ _ o hDw e
      exact hRR _ _ _ _ m' ys hszz hDC hCle (hn'.at' fun o e => hk₂ _ o hCw e) ⟨kd, ed⟩ hI fun b o e _ => hk₂ b o (hwl b o e) (hbut b o e (by simp)))
theorem size_none {h : Heap} : ∀ a, h.objs.size ≤ a → h.get? a = none := fun a ha => by
  cases e : h.get? a with
  | none => rfl
  | some o' => exact absurd (Heap.lt_size e) (Nat.not_lt.mpr ha)
theorem comp_genF {s : Shared} {elt iter c : Expr} {x : Str} {px : Pos} {scope : Scope} {cl : List (Str × Addr)} {pos : Pos} {Q : Value → Shared → Prop}
    (hclos : closureFor scope env = pure cl) (hcell : ∀ y ∈ scope.names, y.2 ≠ .cell) (hkind : scope.kind = .function)
    (hnames : ∀ y ∈ scope.names, y.2 = .local → scope.names.lookup y.1 = some .local) (hx : scope.names.lookup x = some .local)
    (h : wpAny (model prog w) A (eval iter env) (fun xv s₁ => ∃ n P base, IterOk prog w A xv n P base s₁ ∧ n ≤ sizeLine ∧ ∃ (I : Nat → List Value → Prop), I 0 [] ∧
      (∀ i ys, I i ys → ys.length ≤ i) ∧
      (∀ C i v ys s₃ m₃ E', i < n → P i v → I i ys → s₃.heap.Ns C m₃ → m₃ x = some v → s₁.heap.objs.size ≤ C → But [] s₁.heap s₃.heap →
        wpAny (model prog w) A (isTrue c (compEnvC scope cl C env) (eval c (compEnvC scope cl C env))) (TestEnd prog w A (compEnvC scope cl C env) elt (I (i + 1)) ys E' s₃) E' s₃) ∧
      (∀ D h' tk ys k, s₁.heap.get? D = none → h'.get? D = some (listOf ys.toArray k) → I n ys → But [] s₁.heap h' → Q (.ref D) { s₁ with heap := h', toks := tk })) E s)
    (hs : ∀ x, foldedSetIterable iter env x = pure x := by intro _; rfl) :
    wpAny (model prog w) A (eval (.ListComp elt [⟨.Name x px, iter, [c], 0⟩] scope pos) env) Q E s := by
  rw [eval_ListComp]
  refine wpAny_comprehension_free (use := none) rfl hs hclos hkind hnames (wpAny_mono h (fun xv s₁ h₁ => ?_) fun _ _ e => e)
  obtain ⟨n, P, base, hit, hsz, I, hi0, hlen, helt, hQ⟩ := h₁
  refine block_F hcell hkind hx hit hsz hi0 hlen helt fun D C h tk m' ys hD hDC hC hn ⟨kd, ed⟩ hI hb => ?_
  exact ⟨m', hn, fun h'' hs'' => hQ D h'' tk ys kd (size_none _ hD) (hs''.extBut _ _ hDC ed) hI fun b o e _ => hs''.extBut b o (fun q => by rw [q, size_none _ hC] at e; cases e) (hb b o e (by simp))⟩
theorem comp_genFA {s : Shared} {elt iter c : Expr} {x y : Str} {px py : Pos} {scope : Scope} {cl : List (Str × Addr)} {pos spos : Pos} {Q : Flow → Shared → Prop}
    (hsw : swapsWith (.ListComp elt [⟨.Name x px, iter, [c], 0⟩] scope pos) (some (.Name y py)) spos.line env = pure true)
    (hclos : closureFor scope env = pure cl) (hcell : ∀ y ∈ scope.names, y.2 ≠ .cell) (hkind : scope.kind = .function)
    (hnames : ∀ y ∈ scope.names, y.2 = .local → scope.names.lookup y.1 = some .local) (hx : scope.names.lookup x = some .local)
    (hy : env.kindOf y = some .local) (hp : (env.scope.kind == .class || (env.scope.kind == .module && env.locals != env.globals)) = false)
    (h : wpAny (model prog w) A (eval iter env) (fun xv s₁ => ∃ n P base, IterOk prog w A xv n P base s₁ ∧ n ≤ sizeLine ∧ ∃ (m : Str → Option Value), s₁.heap.Ns env.locals m ∧ ∃ (I : Nat → List Value → Prop), I 0 [] ∧
      (∀ i ys, I i ys → ys.length ≤ i) ∧
      (∀ C i v ys s₃ m₃ E', i < n → P i v → I i ys → s₃.heap.Ns C m₃ → m₃ x = some v → s₁.heap.objs.size ≤ C → But [] s₁.heap s₃.heap →
        wpAny (model prog w) A (isTrue c (compEnvC scope cl C env) (eval c (compEnvC scope cl C env))) (TestEnd prog w A (compEnvC scope cl C env) elt (I (i + 1)) ys E' s₃) E' s₃) ∧
      (∀ D h' tk ys k, s₁.heap.get? D = none → h'.get? D = some (listOf ys.toArray k) → I n ys → But [env.locals] s₁.heap h' → h'.Ns env.locals (fun z => if z = y then some (.ref D) else m z) → Q .next { s₁ with heap := h', toks := tk })) E s)
    (hs : ∀ x, foldedSetIterable iter env x = pure x := by intro _; rfl) :
    wpAny (model prog w) A (exec (.Assign [.Name y py] (.ListComp elt [⟨.Name x px, iter, [c], 0⟩] scope pos) spos) env) Q E s := by
  rw [exec_Assign_Name_used _ _ _ _ hsw]
  refine wpAny_bind (wpAny_standAt (wpAny_bind ?_))
  show wpAny _ A (do let _ ← comprehension (.ListComp elt [⟨.Name x px, iter, [c], 0⟩] scope pos) scope env _ (newList []) false (eval iter env) (some (assign (.Name y py) env))) _ _ s
  refine wpAny_bind (wpAny_mono (wpAny_comprehension_free (use := some (assign (.Name y py) env)) (Q := fun _ s' => Q .next s') rfl hs hclos hkind hnames
    (wpAny_mono h (fun xv s₁ h₁ => ?_) fun _ _ e => e)) (fun _ s' hq => wpAny_pure (wpAny_pure hq)) fun _ _ e => e)
  obtain ⟨n, P, base, hit, hsz, m, hns, I, hi0, hlen, helt, hQ⟩ := h₁
  refine block_F hcell hkind hx hit hsz hi0 hlen helt fun D C h tk m' ys hD hDC hC hn ⟨kd, ed⟩ hI hb => ?_
  show wpAny _ A (assign (.Name y py) env (.ref D)) _ _ _
  have hLlt := hns.lt
  have hCL : C ≠ env.locals := fun q => absurd hLlt (by rw [← q]; exact Nat.not_lt.mpr hC)
  have hDL : D ≠ env.locals := fun q => absurd hLlt (by rw [← q]; exact Nat.not_lt.mpr hD)
  refine wpAny_assign_Name (wpAny_storeName_local hy (hns.at' fun o e => hb _ o e (by simp)) (fun h₂ hn₂ hs₂ => ?_) hp)
  exact ⟨m', hn.sameBut hs₂ hCL, fun h'' hs'' => hQ D h'' _ ys kd (size_none _ hD) (hs''.extBut _ _ hDC (hs₂.extBut _ _ hDL ed)) hI
    (fun b o e nb => hs''.extBut b o (fun q => by rw [q, size_none _ hC] at e; cases e) (hs₂.extBut b o (fun q => nb (by rw [q]; simp)) (hb b o e (by simp)))) (hn₂.sameBut hs'' (Ne.symm hCL))⟩
/-- the goal after the iterable of a comprehension with a test -/
inductive CompF (prog : Program) (w : World) (A : Around) (env : Env) (scope : Scope) (cl : List (Str × Addr)) (x : Str) (c elt : Expr) (h₀ : Heap) (L : Addr) (m : Str → Option Value) (Q : Value → Shared → Prop) (xv : Value) (s₁ : Shared) : Prop
  | mk : ∀ n P base news, ∀ (I : Nat → List Value → Prop), (IterOk prog w A xv n P base s₁) → (n ≤ sizeLine) → (Fr h₀ L s₁.heap m) → (News h₀ L s₁.heap news) → (I 0 []) → ((∀ i ys, I i ys → ys.length ≤ i)) → ((∀ C i v ys s₃ m₃ E', i < n → P i v → I i ys → s₃.heap.Ns C m₃ → m₃ x = some v → Fr h₀ L s₃.heap m → News h₀ L s₃.heap news → wpAny (model prog w) A (isTrue c (compEnvC scope cl C env) (eval c (compEnvC scope cl C env))) (TestEnd prog w A (compEnvC scope cl C env) elt (I (i + 1)) ys E' s₃) E' s₃)) → ((∀ D h' tk ys k, (∀ p ∈ news, p.1 ≠ D) → Fr h₀ L h' m → News h₀ L h' ((D, listOf ys.toArray k) :: news) → I n ys → Q (.ref D) { s₁ with heap := h', toks := tk })) → CompF prog w A env scope cl x c elt h₀ L m Q xv s₁
theorem comp_KF {s : Shared} {elt iter c : Expr} {x : Str} {px : Pos} {scope : Scope} {cl : List (Str × Addr)} {pos : Pos} {Q : Value → Shared → Prop} {h₀ : Heap} {L : Addr} {m : Str → Option Value}
    (hclos : closureFor scope env = pure cl) (hcell : ∀ y ∈ scope.names, y.2 ≠ .cell) (hkind : scope.kind = .function)
    (hnames : ∀ y ∈ scope.names, y.2 = .local → scope.names.lookup y.1 = some .local) (hx : scope.names.lookup x = some .local)
    (_F : Fr h₀ L s.heap m) (h : wpAny (model prog w) A (eval iter env) (CompF prog w A env scope cl x c elt h₀ L m Q) E s)
    (hs : ∀ x, foldedSetIterable iter env x = pure x := by intro _; rfl) :
    wpAny (model prog w) A (eval (.ListComp elt [⟨.Name x px, iter, [c], 0⟩] scope pos) env) Q E s := by
  refine comp_genF hclos hcell hkind hnames hx (wpAny_mono h (fun xv s₁ h₁ => ?_) fun _ _ e => e) hs
  obtain ⟨n, P, base, news, I, hit, hn, F, N, hi0, hl, helt, hQ⟩ := h₁
  refine ⟨n, P, base, hit, hn, I, hi0, hl, fun C i v ys s₃ m₃ E' hi hp hI hns hm hC kb => helt C i v ys s₃ m₃ E' hi hp hI hns hm (F.keptAll fun b o e => kb b o e (by simp)) (N.grown fun b o e => kb b o e (by simp)), fun D h' tk ys k hD1 hd hI kb => ?_⟩
  refine hQ D h' tk ys k (fun p hp q => ?_) (F.keptAll fun b o e => kb b o e (by simp)) (fun p hp => ?_) hI
  · have := (N p hp).1; rw [q, hD1] at this; cases this
  · rcases List.mem_cons.mp hp with rfl | hp
    · refine ⟨hd, fun q => ?_, ?_⟩
      · obtain ⟨oL, _, _, hL, _⟩ := F.ns
        rw [← q, hD1] at hL; cases hL
      · cases e : h₀.get? D with
        | none => rfl
        | some o => have := F.keep _ _ e; rw [hD1] at this; cases this
    · exact N.grown (fun b o e => kb b o e (by simp)) p hp
/-- the same, under an assignment -/
inductive CompFA (prog : Program) (w : World) (A : Around) (env : Env) (scope : Scope) (cl : List (Str × Addr)) (x y : Str) (c elt : Expr) (h₀ : Heap) (L : Addr) (m : Str → Option Value) (Q : Flow → Shared → Prop) (xv : Value) (s₁ : Shared) : Prop
  | mk : ∀ n P base news, ∀ (I : Nat → List Value → Prop), (IterOk prog w A xv n P base s₁) → (n ≤ sizeLine) → (Fr h₀ L s₁.heap m) → (News h₀ L s₁.heap news) → (I 0 []) → ((∀ i ys, I i ys → ys.length ≤ i)) → ((∀ C i v ys s₃ m₃ E', i < n → P i v → I i ys → s₃.heap.Ns C m₃ → m₃ x = some v → Fr h₀ L s₃.heap m → News h₀ L s₃.heap news → wpAny (model prog w) A (isTrue c (compEnvC scope cl C env) (eval c (compEnvC scope cl C env))) (TestEnd prog w A (compEnvC scope cl C env) elt (I (i + 1)) ys E' s₃) E' s₃)) → ((∀ D h' tk ys k, (∀ p ∈ news, p.1 ≠ D) → Fr h₀ L h' (fun z => if z = y then some (.ref D) else m z) → News h₀ L h' ((D, listOf ys.toArray k) :: news) → I n ys → Q .next { s₁ with heap := h', toks := tk })) → CompFA prog w A env scope cl x y c elt h₀ L m Q xv s₁
theorem comp_KFA {s : Shared} {elt iter c : Expr} {x y : Str} {px py : Pos} {scope : Scope} {cl : List (Str × Addr)} {pos spos : Pos} {Q : Flow → Shared → Prop} {h₀ : Heap} {L : Addr} {m : Str → Option Value}
    (hLe : env.locals = L) (hsw : swapsWith (.ListComp elt [⟨.Name x px, iter, [c], 0⟩] scope pos) (some (.Name y py)) spos.line env = pure true)
    (hclos : closureFor scope env = pure cl) (hcell : ∀ y ∈ scope.names, y.2 ≠ .cell) (hkind : scope.kind = .function)
    (hnames : ∀ y ∈ scope.names, y.2 = .local → scope.names.lookup y.1 = some .local) (hx : scope.names.lookup x = some .local)
    (hy : env.kindOf y = some .local) (hp : (env.scope.kind == .class || (env.scope.kind == .module && env.locals != env.globals)) = false)
    (_F : Fr h₀ L s.heap m) (h : wpAny (model prog w) A (eval iter env) (CompFA prog w A env scope cl x y c elt h₀ L m Q) E s)
    (hs : ∀ x, foldedSetIterable iter env x = pure x := by intro _; rfl) :
    wpAny (model prog w) A (exec (.Assign [.Name y py] (.ListComp elt [⟨.Name x px, iter, [c], 0⟩] scope pos) spos) env) Q E s := by
  subst hLe
  refine comp_genFA hsw hclos hcell hkind hnames hx hy hp (wpAny_mono h (fun xv s₁ h₁ => ?_) fun _ _ e => e) hs
  obtain ⟨n, P, base, news, I, hit, hn, F, N, hi0, hl, helt, hQ⟩ := h₁
  refine ⟨n, P, base, hit, hn, m, F.ns, I, hi0, hl, fun C i v ys s₃ m₃ E' hi hp hI hns hm hC kb => helt C i v ys s₃ m₃ E' hi hp hI hns hm (F.keptAll fun b o e => kb b o e (by simp)) (N.grown fun b o e => kb b o e (by simp)), fun D h' tk ys k hD1 hd hI kb hns' => ?_⟩
  have hL₀ : h₀.get? env.locals = none := Heap.get?_none_of_le F.above
  refine hQ D h' tk ys k (fun p hp q => ?_) ⟨hns', fun b o e => kb b o (F.keep b o e) (fun q => by rw [List.mem_singleton.mp q, hL₀] at e; cases e), F.above⟩ (fun p hp => ?_) hI
  · have := (N p hp).1; rw [q, hD1] at this; cases this
  · rcases List.mem_cons.mp hp with rfl | hp
    · refine ⟨hd, fun q => ?_, ?_⟩
      · obtain ⟨oL, _, _, hL, _⟩ := F.ns
        rw [← q, hD1] at hL; cases hL
      · cases e : h₀.get? D with
        | none => rfl
        | some o => have := F.keep _ _ e; rw [hD1] at this; cases this
    · have P := N p hp
      exact ⟨kb _ _ P.1 (by simpa using P.2.1), P.2⟩
end
end Mine
-- G6a
namespace Mine
noncomputable def opRegs : Dat → List Int
  | .tuple [.str _, .int i] => [i]
  | _ => []
/-- an operand's items: a register, or a constant whose parts stand on tl -/
inductive OpV (h₀ : Heap) (tl : List (Addr × Obj)) : List Value → Dat → Prop
  | reg (i : Int) (t1 t2 : Tok) : 0 ≤ i → i < 14 → OpV h₀ tl [.str (Str.ofString "reg") t1, .int i t2] (.tuple [.str (Str.ofString "reg"), .int i])
  | const (t1 : Tok) (v1 v2 : Value) (k c : Dat) : k ∈ kinds → cvOk 4 c = true → (∀ h' : Heap, (∀ b o, h₀.get? b = some o → h'.get? b = some o) → (∀ p ∈ tl, h'.get? p.1 = some p.2) → RdA h' [v1, v2] [k, c]) →
      OpV h₀ tl [.str (Str.ofString "const") t1, v1, v2] (.tuple [.str (Str.ofString "const"), k, c])
theorem OpV.ok {h₀ : Heap} {tl : List (Addr × Obj)} {vs : List Value} {d : Dat} (o : OpV h₀ tl vs d) : OpOk d := by
  cases o with
  | reg i _ _ h1 h2 => exact .reg _ h1 (by omega)
  | const _ _ _ k c h1 h2 _ => exact .const _ _ h1 h2
theorem OpV.rd {h₀ : Heap} {tl : List (Addr × Obj)} {vs : List Value} {d : Dat} (o : OpV h₀ tl vs d) {h' : Heap} {r : Addr} (e : h'.get? r = some (tupO vs 0)) (k : ∀ b o, h₀.get? b = some o → h'.get? b = some o) (k2 : ∀ p ∈ tl, h'.get? p.1 = some p.2) : Rd h' (.ref r) d := by
  cases o with
  | reg i _ _ h1 h2 => exact .tuple (vs := [_, _]) e (by simp) (.cons (.str _ _) (.cons (.int _ _) .nil))
  | const _ _ _ kk c h1 h2 h3 => exact .tuple (vs := [_, _, _]) e (by simp) (.cons (.str _ _) (h3 h' k k2))
theorem OpV.mono {h₀ : Heap} {tl tl' : List (Addr × Obj)} {vs : List Value} {d : Dat} (k : ∀ p ∈ tl, p ∈ tl') (o : OpV h₀ tl vs d) : OpV h₀ tl' vs d := by
  cases o with
  | reg i t1 t2 h1 h2 => exact .reg i t1 t2 h1 h2
  | const t1 v1 v2 kk c h1 h2 h3 => exact .const t1 v1 v2 kk c h1 h2 fun h' a b => h3 h' a fun p hp => b p (k p hp)
inductive EndRow : Dat → List Int → Prop
  | jump (i : Int) : 0 ≤ i → i < 3 → EndRow (.tuple [.str (Str.ofString "jump"), .int i]) []
  | branch (o : Dat) (i : Int) : OpOk o → 0 ≤ i → i < 3 → EndRow (.tuple [.str (Str.ofString "branch"), o, .int i, .int 2]) (opRegs o)
  | ret (o : Dat) : OpOk o → EndRow (.tuple [.str (Str.ofString "return"), .tuple [o, o]]) (opRegs o ++ opRegs o)
  | panic (o : Dat) : OpOk o → EndRow (.tuple [.str (Str.ofString "panic"), o]) (opRegs o)
/-- a row drawn: the instruction and the list of its registers -/
inductive RowR (P : Dat → List Int → Prop) (Z : Addr → Prop) (h : Heap) (v : Value) : Prop
  | mk : ∀ (t : Addr) (rowv : Value) (l : Addr) (row : Dat) (ys : List Value) (ns : List Int) (n : Nat), (v = .ref t) → (h.get? t = some { cls := .type "tuple", data := .seq #[rowv, .ref l] }) → (Rd h rowv row) → (h.get? l = some (listOf ys.toArray n)) → (IntsAre ys ns) → (P row ns) → (Z l) → RowR P Z h v
theorem RowR.of {P : Dat → List Int → Prop} {Z : Addr → Prop} {h : Heap} {t l : Addr} {rowv : Value} {row : Dat} {ys : List Value} {ns : List Int} {n : Nat} (e1 : h.get? t = some { cls := .type "tuple", data := .seq #[rowv, .ref l] }) (rd : Rd h rowv row) (e2 : h.get? l = some (listOf ys.toArray n)) (hi : IntsAre ys ns) (hp : P row ns) (hz : Z l) : RowR P Z h (.ref t) := ⟨_, _, _, _, _, _, _, rfl, e1, rd, e2, hi, hp, hz⟩
theorem RowR.weak {P P' : Dat → List Int → Prop} {Z Z' : Addr → Prop} {h : Heap} {v : Value} (k : ∀ l, Z l → Z' l) (k2 : ∀ d ns, P d ns → P' d ns) (r : RowR P Z h v) : RowR P' Z' h v := by
  obtain ⟨t, rowv, l, row, ys, ns, n, e, e1, rd, e2, hi, hp, hz⟩ := r
  exact ⟨t, rowv, l, row, ys, ns, n, e, e1, rd, e2, hi, k2 _ _ hp, k l hz⟩
noncomputable def dReg (i : Int) : Dat := .tuple [.str (Str.ofString "reg"), .int i]
inductive Called : Dat → List Int → Prop
  | fn (e : Int) : Called (.tuple [.str (Str.ofString "fn"), .str (Str.ofString "main.g")]) []
  | value (e : Int) : 0 ≤ e → e < 14 → Called (.tuple [.str (Str.ofString "value"), dReg e]) [e]
  | face (e : Int) : 0 ≤ e → e < 14 → Called (.tuple [.str (Str.ofString "face"), dReg e, .str (Str.ofString "Area")]) [e]
noncomputable def dSite (j : Int) : Dat := .tuple [.str (Str.ofString "main.f"), .int j]
inductive InsRow : Dat → List Int → Prop
  | binary (a b kind : Dat) (d : Int) : OpOk a → OpOk b → kind ∈ kinds → 0 ≤ d → d < 14 → InsRow (.tuple [.str (Str.ofString "binary"), .int d, .str (Str.ofString "+"), a, b, kind]) ([d] ++ (opRegs a ++ opRegs b))
  | makeslice (a b kind : Dat) (d j : Int) : OpOk a → OpOk b → kind ∈ kinds → 0 ≤ d → d < 14 → 0 ≤ j → j < 40 → InsRow (.tuple [.str (Str.ofString "makeslice"), .int d, kind, a, b, dSite j]) ([d] ++ (opRegs a ++ opRegs b))
  | store (a b : Dat) : OpOk a → OpOk b → InsRow (.tuple [.str (Str.ofString "store"), a, b]) (opRegs a ++ opRegs b)
  | struct (a b : Dat) (d : Int) : OpOk a → OpOk b → 0 ≤ d → d < 14 → InsRow (.tuple [.str (Str.ofString "struct"), .int d, .tuple [a, b]]) ([d] ++ (opRegs a ++ opRegs b))
  | print (a b kind : Dat) : OpOk a → OpOk b → kind ∈ kinds → InsRow (.tuple [.str (Str.ofString "print"), .tuple [a, b], .tuple [kind, kind]]) (opRegs a ++ opRegs b)
  | mapget (a b kind : Dat) (d : Int) : OpOk a → OpOk b → kind ∈ kinds → 0 ≤ d → d < 14 → InsRow (.tuple [.str (Str.ofString "mapget"), .int d, .none, a, b, kind]) ([d] ++ (opRegs a ++ opRegs b))
  | call (a b c : Dat) (d : Int) (led : List Int) : OpOk a → OpOk b → Called c led → 0 ≤ d → d < 14 → InsRow (.tuple [.str (Str.ofString "call"), .tuple [.int d], c, .tuple [a, b]]) ([d] ++ led ++ (opRegs a ++ opRegs b))
  | go (c : Dat) (led : List Int) : Called c led → InsRow (.tuple [.str (Str.ofString "go"), c, .tuple []]) led
  | sync (a b : Dat) : OpOk a → OpOk b → InsRow (.tuple [.str (Str.ofString "sync"), .str (Str.ofString "wait"), .tuple [a, b]]) (opRegs a ++ opRegs b)
  | mapget2 (a b kind : Dat) (d e : Int) : OpOk a → OpOk b → kind ∈ kinds → 0 ≤ d → d < 14 → 0 ≤ e → e < 14 → InsRow (.tuple [.str (Str.ofString "mapget"), .int d, .int e, a, b, kind]) ([d, e] ++ (opRegs a ++ opRegs b))
  | select (a b : Dat) (d e : Int) : OpOk a → OpOk b → 0 ≤ d → d < 14 → 0 ≤ e → e < 14 → InsRow (.tuple [.str (Str.ofString "select"), .int d, .int e, .int d, .tuple [.tuple [.str (Str.ofString "send"), a, b]], .bool true]) ([d, e, d] ++ (opRegs a ++ opRegs b))
theorem call_opU {w : World} {H h₀ : Heap} {src : Addr} {A : Around} {E : Value → Shared → Prop} {Q : Value → Shared → Prop} {s : Shared} {L : Addr} {m : Str → Option Value} {news : List (Addr × Obj)}
    {a b : Int} {ta tb : Tok} {n : Nat} {news' : Int → Tok → Int → Tok → Nat → List (Addr × Obj)}
    (S : OperS w H src) (F : Fr h₀ L s.heap m) (N : News h₀ L s.heap news) (hm : (src, listOf #[.int a ta, .int b tb] n) ∈ news) (ha : 0 ≤ a) (hb : 0 ≤ b) (hb2 : b < 2147483647)
    (U : ∀ a' ta' b' tb' n', Upd src (listOf #[.int a ta, .int b tb] n) (listOf #[.int a' ta', .int b' tb'] n') news (news' a' ta' b' tb' n'))
    (hst : H.StaysIn h₀) (hh : A.handled = none) (hg : A.guards = some []) (hd : A.depth + 30 < recursionLimit) (hu : A.units + 140 < cLine)
    (h : ∀ (r : Addr) (vs : List Value) (d : Dat) (tl : List (Addr × Obj)) h' tk' a' ta' b' tb' n', OpV h₀ tl vs d → (@Ne Nat r src) → (∀ p ∈ tl, p.1 ≠ src) →
      Fr h₀ L h' m → News h₀ L h' ((r, tupO vs 0) :: (news' a' ta' b' tb' n' ++ tl)) → 0 ≤ a' → 0 ≤ b' → b' < 2147483647 → Q (.ref r) { s with heap := h', toks := tk' }) :
    wpAny (model PySem.Challenge.rw_on0012_01.row.prog w) A (call (.ref 182) [.ref src]) Q E s := by
  refine call_op S F N hm ha hb hb2 U hst hh hg hd hu ?_ ?_
  · intro r i t1 t2 h' tk' a' ta' b' tb' n' i0 i1 hne F' N' x1 x2 x3
    have hms : (src, listOf #[.int a' ta', .int b' tb'] n') ∈ news' a' ta' b' tb' n' := by
      obtain ⟨pre, post, _, e2, _, _⟩ := (U a' ta' b' tb' n').split
      rw [e2]; simp
    exact h r _ _ [] h' tk' a' ta' b' tb' n' (.reg i t1 t2 i0 i1) (fun q => hne _ hms q.symm) (by simp) F' (by rw [List.append_nil]; exact N') x1 x2 x3
  · intro r v1 v2 k c t1 tl h' tk' a' ta' b' tb' n' hk hc hne htl htr F' N' x1 x2 x3
    have hms : (src, listOf #[.int a' ta', .int b' tb'] n') ∈ news' a' ta' b' tb' n' := by
      obtain ⟨pre, post, _, e2, _, _⟩ := (U a' ta' b' tb' n').split
      rw [e2]; simp
    exact h r _ _ tl h' tk' a' ta' b' tb' n' (.const t1 v1 v2 k c hk hc htr) (fun q => hne _ hms q.symm) htl F' N' x1 x2 x3
theorem call_kind {w : World} {mean : ExcName → Option Value} {mg mb : Str → Option Value} {H h₀ : Heap} {src : Addr} {A : Around} {E : Value → Shared → Prop} {Q : Value → Shared → Prop} {s : Shared} {L : Addr} {m : Str → Option Value} {news : List (Addr × Obj)}
    {a b : Int} {ta tb : Tok} {n : Nat} {news' : Int → Tok → Int → Tok → Nat → List (Addr × Obj)}
    (B : Bs w mean mg mb H) (hsrc : H.get? src = none) (S : OneS w H src) (F : Fr h₀ L s.heap m) (N : News h₀ L s.heap news) (hm : (src, listOf #[.int a ta, .int b tb] n) ∈ news) (ha : 0 ≤ a) (hb : 0 ≤ b) (hb2 : b < 2147483647)
    (U : ∀ a' ta' b' tb' n', Upd src (listOf #[.int a ta, .int b tb] n) (listOf #[.int a' ta', .int b' tb'] n') news (news' a' ta' b' tb' n'))
    (hst : H.StaysIn h₀) (hh : A.handled = none) (hg : A.guards = some []) (hd : A.depth + 5 < recursionLimit) (hu : A.units + 20 < cLine)
    (h : ∀ (r : Value) (d : Dat) h' tk' a' ta' b' tb' n', d ∈ kinds → Rd h₀ r d →
      Fr h₀ L h' m → News h₀ L h' (news' a' ta' b' tb' n') → 0 ≤ a' → 0 ≤ b' → b' < 2147483647 → But [src] s.heap h' → Q r { s with heap := h', toks := tk' }) :
    wpAny (model PySem.Challenge.rw_on0012_01.row.prog w) A (call (.ref 170) [.ref src, .ref 149]) Q E s := by
  have h149 := hst _ _ (kinds_list B)
  have hn149 : (149 : Addr) ≠ src := fun q => by rw [← q, kinds_list B] at hsrc; cases hsrc
  refine call_src (f := 170) S F N hm ha hb hb2 U hst hh hg hd hu ⟨_, _, _, rfl, hn149, Fr.keep F _ _ h149, by decide, by decide⟩ ?_
  intro r h' tk' a' ta' b' tb' n' p' F' N' x1 x2 x3 yb
  obtain ⟨i, hi⟩ := p' _ _ _ rfl (Fr.keep F _ _ h149)
  obtain ⟨k1, k2, k3, k4⟩ := kinds_rd B
  have up : ∀ {v d}, Rd H v d → Rd h₀ v d := fun q => q.mono (TLe.of hst)
  rcases i with _ | _ | _ | _ | i <;> simp at hi
  · subst hi; exact h _ _ h' tk' a' ta' b' tb' n' (by simp [kinds]) (up k1) F' N' x1 x2 x3 yb
  · subst hi; exact h _ _ h' tk' a' ta' b' tb' n' (by simp [kinds]) (up k2) F' N' x1 x2 x3 yb
  · subst hi; exact h _ _ h' tk' a' ta' b' tb' n' (by simp [kinds]) (up k3) F' N' x1 x2 x3 yb
  · subst hi; exact h _ _ h' tk' a' ta' b' tb' n' (by simp [kinds]) (up k4) F' N' x1 x2 x3 yb
theorem pick3 {a b c r : Value} {i : Nat} (h : [a, b, c][i]? = some r) (h0 : i ≠ 0) : r = b ∨ r = c := by
  rcases i with _ | _ | _ | i
  · exact absurd rfl h0
  · simp at h; exact .inl h.symm
  · simp at h; exact .inr h.symm
  · simp at h
theorem joint {r : Value} {D2 D : Addr} {h : Heap} {w2 w x : Str} {t2 t : Tok} {vs2 vs : List Value} (e : r = .ref D2 ∨ r = .ref D) (g2 : h.get? D2 = some (tupO (.str w2 t2 :: vs2) 0)) (g : h.get? D = some (tupO (.str w t :: vs) 0)) (n2 : (w2 == x) = false) (n : (w == x) = false) :
    ∃ (c : Addr) (w : Str) (t : Tok) (vs : List Value), r = .ref c ∧ (w == x) = false ∧ h.get? c = some (tupO (.str w t :: vs) 0) := by
  rcases e with e | e
  · exact ⟨_, _, _, _, e, n2, g2⟩
  · exact ⟨_, _, _, _, e, n, g⟩
theorem T_item0h {prog : Program} {w : World} {A : Around} {E : Value → Shared → Prop} {s : Shared} {a n : Nat} {vs : List Value} {value slice : Expr} {u : Tok} {v : Value} {Q : Value → Shared → Prop} (e : s.heap.get? a = some (tupO (v :: vs) n)) (h : Q v s)
    (hs : subscripted slice false (.ref a) (.int 0 u) = operate [.ref a, .int 0 u] (getItem (.ref a) (.int 0 u)) := by with_unfolding_all rfl) :
    wpAny (model prog w) A (subscriptTail value slice (.ref a) (.int 0 u)) Q E s := item_tupleT ⟨_, e, rfl, n, rfl⟩ (by decide) (by decide) (show seqIndex? 0 (v :: vs).length = some 0 by simp [seqIndex?]) rfl h hs
/-- the registers of the first i operands -/
noncomputable def opsR (d1 d2 : Dat) : Nat → List Int
  | 0 => []
  | 1 => opRegs d1
  | _ => opRegs d1 ++ opRegs d2
theorem opRegs_len (d : Dat) : (opRegs d).length ≤ 1 := by
  unfold opRegs; split <;> simp
theorem opsR_len {d1 d2 : Dat} (i : Nat) (ys : List Value) (h : IntsAre ys (opsR d1 d2 i)) : ys.length ≤ i := by
  have e : ys.length = (opsR d1 d2 i).length := by
    generalize opsR d1 d2 i = l at h
    induction h with
    | nil => rfl
    | cons _ _ _ ih => simp [ih]
  have a := opRegs_len d1
  have b := opRegs_len d2
  rw [e]
  rcases i with _ | _ | i
  · simp [opsR]
  · exact a
  · simp only [opsR, List.length_append]; omega
theorem ints_snoc {i : Int} {t : Tok} : ∀ {ys : List Value} {ns : List Int}, IntsAre ys ns → IntsAre (ys ++ [.int i t]) (ns ++ [i])
  | _, _, .nil => .cons _ _ .nil
  | _, _, .cons y u r => .cons y u (ints_snoc r)
theorem ints_app : ∀ {ys ys' : List Value} {ns ns' : List Int}, IntsAre ys ns → IntsAre ys' ns' → IntsAre (ys ++ ys') (ns ++ ns')
  | _, _, _, _, .nil, r => r
  | _, _, _, _, .cons y u r, r' => .cons y u (ints_app r r')
theorem opRegs_const (k c : Dat) : opRegs (.tuple [.str (Str.ofString "const"), k, c]) = [] := by cases k <;> rfl
theorem opsR_c1 (k c d : Dat) : opsR (.tuple [.str (Str.ofString "const"), k, c]) d (0 + 1) = opsR (.tuple [.str (Str.ofString "const"), k, c]) d 0 := opRegs_const k c
theorem opsR_c2 (k c d : Dat) : opsR d (.tuple [.str (Str.ofString "const"), k, c]) (0 + 1 + 1) = opsR d (.tuple [.str (Str.ofString "const"), k, c]) (0 + 1) := by
  show opRegs d ++ opRegs _ = opRegs d
  rw [opRegs_const, List.append_nil]
theorem none_of {h g : Heap} {l src : Addr} (ne : l ≠ src) (e : g.get? l = none) (hb : But [src] h g) : h.get? l = none := by
  cases q : h.get? l with
  | none => rfl
  | some o' =>
    have := hb _ _ q (by simpa using ne)
    rw [e] at this; cases this
end Mine
-- G5
namespace Mine
theorem words13 : True := by
  k_with_none
  (k_with "base k_mem" => first | exact Mine.memAt 0 rfl | exact Mine.memAt 1 rfl | exact Mine.memAt 2 rfl | exact Mine.memAt 3 rfl | exact Mine.memAt 4 rfl | exact Mine.memAt 5 rfl | exact Mine.memAt 6 rfl | exact Mine.memAt 7 rfl | (refine Mine.memSkip 8 rfl ?_; k_mem))
  (k_with "base k_all" => first | exact Mine.allNe (by with_reducible assumption) | with_reducible assumption | exact List.forall_mem_nil _ | (with_reducible refine' Mine.allApp ?a ?b; (case a => k_all); (case b => k_all)) | (refine' List.forall_mem_cons.mpr ⟨?a, ?b⟩; (case a => k_ne); (case b => k_all)) | assumption)
  (k_with "base k_ne" => first | with_reducible assumption | (refine Mine.ne_hi ?_; exact Mine.lt_mem (by with_reducible assumption) (by k_mem)) | exact Mine.neAt (by with_reducible assumption) (by k_mem) | exact Mine.neAt' (by with_reducible assumption) (by k_mem) | (refine Mine.ne_hi ?_; with_reducible first | assumption | exact Mine.pj0 (by assumption) | exact Mine.pj1 (by assumption) | exact Mine.pl1 (by assumption) | exact Mine.pj2 (by assumption) | exact Mine.pl2 (by assumption) | exact Mine.pj3 (by assumption) | exact Mine.pl3 (by assumption) | exact Mine.pj4 (by assumption) | exact Mine.pl4 (by assumption) | exact Mine.pj5 (by assumption) | exact Mine.pl5 (by assumption) | exact Mine.pj6 (by assumption) | exact Mine.pl6 (by assumption) | exact Mine.pj7 (by assumption) | exact Mine.pl7 (by assumption) | exact Mine.pj8 (by assumption) | exact Mine.pj9 (by assumption) | exact Mine.pj10 (by assumption) | exact Mine.pj11 (by assumption) | exact Mine.pj12 (by assumption) | exact Mine.pj13 (by assumption) | exact Mine.pj14 (by assumption)) | exact Ne.symm (by with_reducible assumption) | exact Ne.symm (by assumption) | (refine neN ?_; (try dsimp only); omega))
  (k_with "base k_steps" => (try ((fail_if_success (fail_if_success k_fold)); refine (let Q9z : _ → Shared → Prop := _; (?_ : wpAny _ _ _ Q9z _ _)))); (try ((fail_if_success (fail_if_success (conv in (Shared.mk _ _ _ _ _) => skip))); refine (let s9z : Shared := _; (?_ : wpAny _ _ _ _ _ s9z)))); (try ((with_reducible rename News _ _ _ (List.cons _ _) => N9z); refine (let NW9z : List (Addr × Obj) := _; have N8z : News _ _ _ (Mine.Fold NW9z) := N9z; ?_); clear N9z)); (try ((with_reducible rename Fr _ _ _ (fun _ => ite _ _ _) => F9z); refine (let FM9z : Str → Option Value := _; have F8z : Fr _ _ _ (Mine.Fold FM9z) := F9z; ?_); clear F9z)); repeat' (first | ((fail_if_success (fail_if_success k_unfold)); refine (?_ : wpAny _ _ _ _ _ _); (try ((fail_if_success (fail_if_success k_fold)); refine (let Q9z : _ → Shared → Prop := _; (?_ : wpAny _ _ _ Q9z _ _)))); (try ((fail_if_success (fail_if_success (conv in (Shared.mk _ _ _ _ _) => skip))); refine (let s9z : Shared := _; (?_ : wpAny _ _ _ _ _ s9z))))) | (k_unfold; (try dsimp only)) | (k_end; wrow_close) | ((first | walk1 | (dsimp only; walk1)); (try ((fail_if_success (fail_if_success k_fold)); refine (let Q9z : _ → Shared → Prop := _; (?_ : wpAny _ _ _ Q9z _ _)))); (try ((fail_if_success (fail_if_success (conv in (Shared.mk _ _ _ _ _) => skip))); refine (let s9z : Shared := _; (?_ : wpAny _ _ _ _ _ s9z)))); (try ((with_reducible rename News _ _ _ (List.cons _ _) => N9z); refine (let NW9z : List (Addr × Obj) := _; have N8z : News _ _ _ (Mine.Fold NW9z) := N9z; ?_); clear N9z)); (try ((with_reducible rename Fr _ _ _ (fun _ => ite _ _ _) => F9z); refine (let FM9z : Str → Option Value := _; have F8z : Fr _ _ _ (Mine.Fold FM9z) := F9z; ?_); clear F9z))) | (leave1; walk_say "STEP leave1"; try dsimp only) | fail "no step"))
  (k_with "mine drop" => first | exact memDrop 0 rfl | exact memDrop 1 rfl | exact memDrop 2 rfl | exact memDrop 3 rfl | exact memDrop 4 rfl | exact memDrop 5 rfl | exact memDrop 6 rfl | exact memDrop 7 rfl | exact memDrop 8 rfl | (refine dropSkip 8 rfl ?_; walk_at "mine drop"))
  (k_with "mine env" => refine (let ev9 : Env := _; let A9 : Around := _; (?_ : wpAny _ A9 (execs _ ev9) _ _ _)))
  (k_with "mine sides" => ((case ho => k_is); (case hcd => k_is); (case hroom => (first | assumption | exact room0 (by assumption) rfl | omega | (dsimp only [Ar]; omega))); (case hbind => exact BindsTo.of_eq rfl); (case hloc => exact locs rfl); (case c2 => exact rfl); (case c3 => exact rfl); (case c4 => exact rfl); (case c5 => decide)))
  (k_with "mine units" => (first | assumption | exact room (j := 1) (by assumption) rfl rfl | exact room (j := 3) (by assumption) rfl rfl | exact room (j := 2) (by assumption) rfl rfl | exact room (j := 4) (by assumption) rfl rfl | exact room (j := 5) (by assumption) rfl rfl | exact room (j := 0) (by assumption) rfl rfl | exact roomj (j := 3) (by assumption) rfl rfl | exact roomj (j := 1) (by assumption) rfl rfl | omega | (dsimp +zetaDelta only [Around.deeper, Ar, Around.in1, Around.mark]; omega)))
  (k_with "mine small" => (first | exact Nat.le_of_ble_eq_true rfl | decide | omega | (simp only [List.length_cons, List.length_nil]; omega)))
  (k_with "call ref" => (k_here; (with_reducible show wpAny _ _ (PySem.call (Value.ref 163) _) _ _ _); k_dflt (refine' call_src (f := 163) ?S9w ?F9w ?N9w ?m9w ?a9w ?b9w ?b29w ?U9w ?st9w ?hh9w ?hg9w ?d9w ?u9w ?pre9w ?_; (case S9w => assumption); (case F9w => k_asm); (case N9w => k_asm); (case m9w => k_mem); (case a9w => assumption); (case b9w => assumption); (case b29w => assumption); (case U9w => (intro a19w121 a29w121 a39w121 a49w121 a59w121; k_upd)); (case st9w => assumption); (case hh9w => rfl); (case hg9w => rfl); (case d9w => walk_at "mine units"); (case u9w => walk_at "mine units"); (case pre9w => exact ⟨_, _, rfl, by walk_at "mine small", by walk_at "mine small"⟩); intro r9w121' h9w121' tk9w121' a9w121' ta9w121' b9w121' tb9w121' n9w121' p9w121' F9w121' N9w121' x19w121' x29w121' x39w121' y9w121'; (obtain ⟨rr9w121', rt9w121', e9w121', z19w121', z29w121'⟩ := p9w121' _ _ rfl); subst e9w121'; clear p9w121'; (try k_sweep))))
  (k_with "call ref" => (k_here; (with_reducible show wpAny _ _ (PySem.call (Value.ref 170) _) _ _ _); k_dflt (refine' call_src (f := 170) ?S9w ?F9w ?N9w ?m9w ?a9w ?b9w ?b29w ?U9w ?st9w ?hh9w ?hg9w ?d9w ?u9w ?pre9w ?_; (case S9w => assumption); (case F9w => k_asm); (case N9w => k_asm); (case m9w => k_mem); (case a9w => assumption); (case b9w => assumption); (case b29w => assumption); (case U9w => (intro a19w122 a29w122 a39w122 a49w122 a59w122; k_upd)); (case st9w => assumption); (case hh9w => rfl); (case hg9w => rfl); (case d9w => walk_at "mine units"); (case u9w => walk_at "mine units"); (case pre9w => first | exact ⟨_, _, _, rfl, by k_ne, News.get (by k_asm) (by k_mem), by walk_at "mine small", by walk_at "mine small"⟩ | exact ⟨_, _, _, rfl, by k_ne, Fr.keep (by k_asm) _ _ (by assumption), by walk_at "mine small", by walk_at "mine small"⟩); intro r9w122' h9w122' tk9w122' a9w122' ta9w122' b9w122' tb9w122' n9w122' p9w122' F9w122' N9w122' x19w122' x29w122' x39w122' y9w122'; (first | (have z9w122' := p9w122' _ _ _ rfl (News.get (by k_asm) (by k_mem))) | (have z9w122' := p9w122' _ _ _ rfl (Fr.keep (by k_asm) _ _ (by assumption)))); clear p9w122'; (try k_sweep))))
  (k_with "call ref" => (k_here; (with_reducible show wpAny _ _ (PySem.call (Value.ref 182) _) _ _ _); refine Halt.mk ?_))
  (k_with "newTuple" => (k_here; k_dflt (refine' newTupleM ?F9w ?N9w ?z9w ?_; (case F9w => k_asm); (case N9w => k_asm); (case z9w => exact Nat.le_of_ble_eq_true rfl)); intro D9w124' h9w124' NW99w124 s9w124' F9w124' N9w124' l19w124; (try k_sweep)))
  (k_with "newList" => (k_here; k_dflt (refine' newListM ?F9w ?N9w ?z9w ?_; (case F9w => k_asm); (case N9w => k_asm); (case z9w => exact Nat.le_of_ble_eq_true rfl)); intro D9w125' h9w125' NW99w125 s9w125' F9w125' N9w125' l19w125; (try k_sweep)))
  (k_with "spliced" => (k_here; k_dflt (refine' argsM ?a9w ?F9w ?e9w ?_; (case F9w => k_asm); (case a9w => rfl); (case e9w => rfl)); intro s9w126'))
  (k_with "eval Tuple" => (k_here; k_dflt (refine' tupM ?a9w ?F9w ?e9w ?N9w ?z9w ?_; (case F9w => k_asm); (case a9w => rfl); (case e9w => rfl); (case N9w => k_asm); (case z9w => exact Nat.le_of_ble_eq_true rfl)); intro D9w127' h9w127' NW99w127 s9w127' F9w127' N9w127' l19w127; (try k_sweep)))
  (k_with "eval List" => (k_here; k_dflt (refine' lstM ?a9w ?F9w ?e9w ?N9w ?z9w ?_; (case F9w => k_asm); (case a9w => rfl); (case e9w => rfl); (case N9w => k_asm); (case z9w => exact Nat.le_of_ble_eq_true rfl)); intro D9w128' h9w128' NW99w128 s9w128' F9w128' N9w128' l19w128; (try k_sweep)))
  (k_with "eval Constant str" => (refine constStrM ?_; intro s9w129'))
  (k_with "eval Constant int" => (refine constIntM ?_; intro s9w130'))
  (k_with "eval Name" => (k_here; k_dflt (first | ((with_reducible show wpAny _ _ (PySem.eval _ (compEnvC _ _ _ _)) _ _ _); first | (refine' nm_comp ?n9w ?m9w ?_ ?k9w ?l9w ?d9w; (case k9w => with_unfolding_all rfl); (case l9w => with_unfolding_all rfl); (case n9w => assumption); (case m9w => assumption); (case d9w => decide)) | (refine' nm_compC ?N9w ?c9w ?m9w ?d9w ?_ ?k9w ?l9w ?e9w; (case k9w => with_unfolding_all rfl); (case l9w => with_unfolding_all rfl); (case N9w => k_asm); (case c9w => with_unfolding_all rfl); (case m9w => k_mem); (case d9w => k_asm); (case e9w => decide))) | ((fail_if_success (with_reducible show wpAny _ _ (PySem.eval _ (compEnvC _ _ _ _)) _ _ _)); first | (refine' nameS ?a9w ?e9w ?F9w ?_; (case F9w => k_asm); (case a9w => rfl); (case e9w => rfl)) | (refine' nameK ?a9w ?g9w ?F9w ?X9w ?T9w ?e9w ?_; (case a9w => rfl); (case g9w => rfl); (case F9w => k_asm); (case X9w => k_asm); (case T9w => k_asm); (case e9w => k_is); k_whole) | (refine' nameB ?a9w ?g9w ?F9w ?X9w ?T9w ?e9w ?v9w ?n9w ?_; (case a9w => rfl); (case g9w => rfl); (case F9w => k_asm); (case X9w => k_asm); (case T9w => k_asm); (case e9w => k_is); (case v9w => boot_fast); (case n9w => decide); k_whole)))))
  (k_with "storeName" => (k_here; k_dflt (refine' storeM ?a9w ?b9w ?F9w ?N9w ?_; (case a9w => rfl); (case b9w => rfl); (case F9w => k_asm); (case N9w => k_asm)); intro h9w132' FM99w132 s9w132' F9w132' N9w132'; (try k_sweep)))
  trivial
theorem end_src {w : World} {mean : ExcName → Option Value} {mg mb : Str → Option Value} {H : Heap} (B : Bs w mean mg mb H) (src : Addr) (hsrc : H.get? src = none) : SpS w H src 194 40 200 (fun _ args => args = [.ref src])
      (fun h _ h' v => RowR EndRow (fun l => h.get? l = none) h' v) := by
  have S0 := take_spec B src hsrc
  have S1 := one_spec B src hsrc
  have S2 : OperS w H src := operand_src B src hsrc
  refine Sp.intro ?_
  rintro dp un fr s args R hst hdp hun ⟨rfl, a, ta, b, tb, n, ho, ha, hb, hb2⟩ hR
  refine' enter (binds := [(Str.ofString "source", .ref src)]) [src] (by simpa using hsrc) hst B ?ho ?hcd ?hroom ?hbind ?hloc ?h ?c2 ?c3 ?c4 ?c5
  walk_at "mine sides"
  intro g L h₁ F N X T hgs hbut hg
  have N := N (src, listOf #[.int a ta, .int b tb] n) (by simp) ho
  clear hg
  have hcL := cLine_is
  (try simp only [List.reverse_cons, List.reverse_nil, List.nil_append, List.cons_append] at F)
  (try dsimp only)
  walk_at "mine env"
  k_steps
  refine Halt.get ?_
  refine' call_op S2 ?F ?N ?m ?a ?b ?b2 ?U ?st ?hh ?hg ?d ?u ?h1 ?h2
  case F => k_asm
  case N => k_asm
  case m => k_mem
  case a => assumption
  case b => assumption
  case b2 => assumption
  case U => (intro a1 a2 a3 a4 a5; k_upd)
  case st => assumption
  case hh => rfl
  case hg => rfl
  case d => walk_at "mine units"
  case u => walk_at "mine units"
  case h1 =>
    intro r' i' t1' t2' h' tk' a' ta' b' tb' n' i1' i2' hne' F' N' x1' x2' x3'
    have hne2 : @Ne Nat src r' := hne' (src, listOf #[.int a' ta', .int b' tb'] n') (.head _)
    clear hne'
    try k_sweep
    k_steps
    rename (∃ i : Nat, _) => z8
    rename (News _ _ _ (_ :: _)) => N8
    rename (Fr _ _ _ _) => F8
    have ro : Rd _ (.ref r') (.tuple [.str (Str.ofString "reg"), .int i']) := .tupN (vs := [_, _]) N8 (by k_mem) rfl (.cons (.str _ _) (.cons (.int _ _) .nil))
    have ok : OpOk (.tuple [.str (Str.ofString "reg"), .int i']) := .reg _ i1' (by omega)
    refine hR _ _ _ ⟨⟨?_, SrcIs.of (News.get (by k_asm) (by k_mem)) (by assumption) (by assumption) (by assumption)⟩, fun b o e nb => Fr.keep (by assumption) b o (hbut b o e nb)⟩
    obtain ⟨i9, hi9⟩ := z8
    rcases i9 with _ | _ | _ | _ | i9 <;> simp at hi9
    · subst hi9
      exact ⟨_, _, _, _, [], [], _, rfl, News.get N8 (by k_mem), .tupN (vs := [_, _]) N8 (by k_mem) rfl (.cons (.str _ _) (.cons (.int _ _) .nil)), News.get N8 (by k_mem), .nil, .jump _ (by assumption) (by assumption), new_of N8 (by k_mem) (by k_ne) hbut⟩
    · subst hi9
      exact ⟨_, _, _, _, [_], [_], _, rfl, News.get N8 (by k_mem), .tupN (vs := [_, _, _, _]) N8 (by k_mem) rfl (.cons (.str _ _) (.cons ro (.cons (.int _ _) (.cons (.int _ _) .nil)))), News.get N8 (by k_mem), .cons _ _ .nil, .branch _ _ ok (by assumption) (by assumption), new_of N8 (by k_mem) (by k_ne) hbut⟩
    · subst hi9
      exact ⟨_, _, _, _, [_, _], [_, _], _, rfl, News.get N8 (by k_mem), .tupN (vs := [_, _]) N8 (by k_mem) rfl (.cons (.str _ _) (.cons (.tupN (vs := [_, _]) N8 (by k_mem) rfl (.cons ro (.cons ro .nil))) .nil)), News.get N8 (by k_mem), .cons _ _ (.cons _ _ .nil), .ret _ ok, new_of N8 (by k_mem) (by k_ne) hbut⟩
    · subst hi9
      exact ⟨_, _, _, _, [_], [_], _, rfl, News.get N8 (by k_mem), .tupN (vs := [_, _]) N8 (by k_mem) rfl (.cons (.str _ _) (.cons ro .nil)), News.get N8 (by k_mem), .cons _ _ .nil, .panic _ ok, new_of N8 (by k_mem) (by k_ne) hbut⟩
  case h2 =>
    intro r' v1' v2' kd' cd' t1' tl' h' tk' a' ta' b' tb' n' hk' hc' hne' htl' htr' F' N' x1' x2' x3'
    have hne2 : @Ne Nat src r' := hne' (src, listOf #[.int a' ta', .int b' tb'] n') (.head _)
    clear hne'
    (try dsimp only [List.cons_append, List.nil_append] at N')
    try k_sweep
    k_steps
    rename (∃ i : Nat, _) => z8
    rename (News _ _ _ (_ :: _)) => N8
    rename (Fr _ _ _ _) => F8
    have ro : Rd _ (.ref r') (.tuple [.str (Str.ofString "const"), kd', cd']) := .tupN (vs := [_, _, _]) N8 (by k_mem) rfl (.cons (.str _ _) (htr' _ F8.keep (newsTl N8 (by walk_at "mine drop"))))
    have ok : OpOk (.tuple [.str (Str.ofString "const"), kd', cd']) := .const _ _ hk' hc'
    have e0 : opRegs (.tuple [.str (Str.ofString "const"), kd', cd']) = [] := by cases kd' <;> rfl
    have e1 : ∀ i : Int, 0 ≤ i → i < 3 → EndRow _ [] := fun i q1 q2 => e0 ▸ EndRow.branch _ i ok q1 q2
    have e2 := EndRow.ret _ ok
    have e3 := EndRow.panic _ ok
    rw [e0] at e2 e3
    refine hR _ _ _ ⟨⟨?_, SrcIs.of (News.get (by k_asm) (by k_mem)) (by assumption) (by assumption) (by assumption)⟩, fun b o e nb => Fr.keep (by assumption) b o (hbut b o e nb)⟩
    obtain ⟨i9, hi9⟩ := z8
    rcases i9 with _ | _ | _ | _ | i9 <;> simp at hi9
    · subst hi9
      exact ⟨_, _, _, _, [], [], _, rfl, News.get N8 (by k_mem), .tupN (vs := [_, _]) N8 (by k_mem) rfl (.cons (.str _ _) (.cons (.int _ _) .nil)), News.get N8 (by k_mem), .nil, .jump _ (by assumption) (by assumption), new_of N8 (by k_mem) (by k_ne) hbut⟩
    · subst hi9
      exact ⟨_, _, _, _, [], [], _, rfl, News.get N8 (by k_mem), .tupN (vs := [_, _, _, _]) N8 (by k_mem) rfl (.cons (.str _ _) (.cons ro (.cons (.int _ _) (.cons (.int _ _) .nil)))), News.get N8 (by k_mem), .nil, e1 _ (by assumption) (by assumption), new_of N8 (by k_mem) (by k_ne) hbut⟩
    · subst hi9
      exact ⟨_, _, _, _, [], [], _, rfl, News.get N8 (by k_mem), .tupN (vs := [_, _]) N8 (by k_mem) rfl (.cons (.str _ _) (.cons (.tupN (vs := [_, _]) N8 (by k_mem) rfl (.cons ro (.cons ro .nil))) .nil)), News.get N8 (by k_mem), .nil, e2, new_of N8 (by k_mem) (by k_ne) hbut⟩
    · subst hi9
      exact ⟨_, _, _, _, [], [], _, rfl, News.get N8 (by k_mem), .tupN (vs := [_, _]) N8 (by k_mem) rfl (.cons (.str _ _) (.cons ro .nil)), News.get N8 (by k_mem), .nil, e3, new_of N8 (by k_mem) (by k_ne) hbut⟩
end Mine
-- B12
namespace Mine
noncomputable def HaltTok : Prop := True
/-- the ground g and the entries tl stand in h' -/
noncomputable def Keeps (g : Heap) (tl : List (Addr × Obj)) (h' : Heap) : Prop := (∀ b o, g.get? b = some o → h'.get? b = some o) ∧ (∀ p ∈ tl, h'.get? p.1 = some p.2)
noncomputable def DatF (g : Heap) (tl : List (Addr × Obj)) (v : Value) (d : Dat) : Prop := ∀ h', Keeps g tl h' → Rd h' v d
noncomputable def RowsF (P : Dat → List Int → Prop) (Z : Addr → Prop) (g : Heap) (tl : List (Addr × Obj)) (vs : List Value) : Prop := ∀ h', Keeps g tl h' → ∀ v ∈ vs, RowR P Z h' v
theorem Keeps.mono {g : Heap} {tl tl' : List (Addr × Obj)} {h' : Heap} (k : ∀ p ∈ tl, p ∈ tl') (a : Keeps g tl' h') : Keeps g tl h' := ⟨a.1, fun p hp => a.2 p (k p hp)⟩
theorem DatF.mono {g : Heap} {tl tl' : List (Addr × Obj)} {v : Value} {d : Dat} (k : ∀ p ∈ tl, p ∈ tl') (a : DatF g tl v d) : DatF g tl' v d := fun h' q => a h' (q.mono k)
theorem RowsF.mono {P : Dat → List Int → Prop} {Z : Addr → Prop} {g : Heap} {tl tl' : List (Addr × Obj)} {vs : List Value} (k : ∀ p ∈ tl, p ∈ tl') (a : RowsF P Z g tl vs) : RowsF P Z g tl' vs := fun h' q => a h' (q.mono k)
theorem Keeps.of {g h : Heap} {L : Addr} {m : Str → Option Value} {news tl : List (Addr × Obj)} (F : Fr g L h m) (N : News g L h news) (k : ∀ p ∈ tl, p ∈ news) : Keeps g tl h := ⟨F.keep, fun p hp => (N p (k p hp)).1⟩
theorem Rd.datF {g : Heap} {tl : List (Addr × Obj)} {v : Value} {d : Dat} (r : Rd g v d) : DatF g tl v d := fun _ q => r.mono (TLe.of q.1)
/-- what stands on lists and tuples, as ledger entries -/
theorem foot_newsL {h₀ h : Heap} {L : Addr} {m : Str → Option Value} (F : Fr h₀ L h m) {fp : List (Addr × Obj)} (hf : ∀ p ∈ fp, h.get? p.1 = some p.2 ∧ ∃ vs n, p.2.data = .seq vs n) :
    News h₀ L h (fp.filter fun p => (h₀.get? p.1).isNone) ∧ ∀ h' : Heap, (∀ b o, h₀.get? b = some o → h'.get? b = some o) → (∀ p ∈ (fp.filter fun p => (h₀.get? p.1).isNone), h'.get? p.1 = some p.2) → ∀ p ∈ fp, h'.get? p.1 = some p.2 := by
  refine ⟨fun p hp => ?_, fun h' k1 k2 p hp => ?_⟩
  · obtain ⟨h1, h2⟩ := List.mem_filter.mp hp
    obtain ⟨e, vs, n, e2⟩ := hf p h1
    refine ⟨e, fun q => ?_, by simpa using h2⟩
    obtain ⟨oL, es, ep, hL, hd, _⟩ := F.ns
    rw [q, hL] at e
    rw [← Option.some.inj e, hd] at e2; cases e2
  · cases q : h₀.get? p.1 with
    | none => exact k2 p (List.mem_filter.mpr ⟨hp, by simp [q]⟩)
    | some o =>
      have e1 := F.keep _ _ q
      rw [(hf p hp).1] at e1; cases e1
      exact k1 _ _ q
theorem rowN_foot {P : Dat → List Int → Prop} {Z : Addr → Prop} {src : Addr} {h : Heap} {v : Value} (hZ : ∀ l, Z l → l ≠ src) (r : RowR P Z h v) (hs : ∃ its n, h.get? src = some (listOf its n)) : ∃ fp : List (Addr × Obj), (∀ p ∈ fp, h.get? p.1 = some p.2 ∧ (∃ vs n, p.2.data = .seq vs n) ∧ p.1 ≠ src) ∧ ∀ h' : Heap, (∀ p ∈ fp, h'.get? p.1 = some p.2) → RowR P Z h' v := by
  obtain ⟨t, rowv, l, row, ys, ns, n, rfl, e1, rd, e2, hi, hp, hz⟩ := r
  have hl := hZ l hz
  obtain ⟨fp, h1, h2⟩ := rd_foot rd
  have hne : ∀ (a : Addr) (vs : Array Value) (k : Nat), h.get? a = some { cls := .type "tuple", data := .seq vs k } → a ≠ src := fun a vs k e q => by
    obtain ⟨its, k2, e3⟩ := hs
    rw [q, e3] at e
    have q9 := congrArg Obj.cls (Option.some.inj e); simp at q9
  refine ⟨(t, { cls := .type "tuple", data := .seq #[rowv, .ref l] }) :: (l, listOf ys.toArray n) :: fp, fun p hp => ?_, fun h' k => ?_⟩
  · rcases List.mem_cons.mp hp with rfl | hp
    · exact ⟨e1, ⟨_, _, rfl⟩, hne _ _ _ e1⟩
    · rcases List.mem_cons.mp hp with rfl | hp
      · exact ⟨e2, ⟨_, _, rfl⟩, hl⟩
      · obtain ⟨a, vs, k, e⟩ := h1 p hp
        exact ⟨a, ⟨_, _, by rw [e]⟩, hne p.1 vs.toArray k (by rw [a, e])⟩
  · exact ⟨t, rowv, l, row, ys, ns, n, rfl, k _ (.head _), h2 h' fun p hp => k p (.tail _ (.tail _ hp)), k _ (.tail _ (.head _)), hi, hp, hz⟩
theorem rows_foot {P : Dat → List Int → Prop} {Z : Addr → Prop} {src : Addr} {h : Heap} (hZ : ∀ l, Z l → l ≠ src) (hs : ∃ its n, h.get? src = some (listOf its n)) : ∀ {vs : List Value}, (∀ v ∈ vs, RowR P Z h v) → ∃ fp : List (Addr × Obj), (∀ p ∈ fp, h.get? p.1 = some p.2 ∧ (∃ vs n, p.2.data = .seq vs n) ∧ p.1 ≠ src) ∧ ∀ h' : Heap, (∀ p ∈ fp, h'.get? p.1 = some p.2) → ∀ v ∈ vs, RowR P Z h' v
  | [], _ => ⟨[], by simp, by simp⟩
  | v :: vs, H => by
    obtain ⟨f1, a1, b1⟩ := rowN_foot hZ (H v (.head _)) hs
    obtain ⟨f2, a2, b2⟩ := rows_foot (vs := vs) hZ hs fun v hv => H v (.tail _ hv)
    refine ⟨f1 ++ f2, fun p hp => ?_, fun h' k z hz => ?_⟩
    · rcases List.mem_append.mp hp with hp | hp
      · exact a1 p hp
      · exact a2 p hp
    · rcases List.mem_cons.mp hz with rfl | hz
      · exact b1 h' fun p hp => k p (List.mem_append_left _ hp)
      · exact b2 h' (fun p hp => k p (List.mem_append_right _ hp)) z hz
/-- rows drawn up: the ledger is cut down to what is still read -/
theorem rows_step {P : Dat → List Int → Prop} {Z : Addr → Prop} {g h : Heap} {L src : Addr} {m : Str → Option Value} {news tl : List (Addr × Obj)} {vs vs0 : List Value} {its : Array Value} {n : Nat}
    (hZ : ∀ l, Z l → l ≠ src) (F : Fr g L h m) (N : News g L h news) (hs : (src, listOf its n) ∈ news) (keep : List (Addr × Obj)) (hkeep : ∀ p ∈ keep, p ∈ news) (hsub : ∀ p ∈ tl, p ∈ news) (htl : ∀ p ∈ tl, p.1 ≠ src) (hold : RowsF P Z g tl vs0) (hnew : ∀ v ∈ vs, RowR P Z h v) :
    ∃ tl', (∀ p ∈ tl, p ∈ tl') ∧ (∀ p ∈ tl', p.1 ≠ src) ∧ News g L h (keep ++ tl') ∧ RowsF P Z g tl' (vs0 ++ vs) := by
  obtain ⟨fp, h1, h2⟩ := rows_foot hZ ⟨_, _, N.get hs⟩ hnew
  obtain ⟨N2, k2⟩ := foot_newsL F (fp := fp) fun p hp => ⟨(h1 p hp).1, (h1 p hp).2.1⟩
  refine ⟨tl ++ (fp.filter fun p => (g.get? p.1).isNone), fun p hp => List.mem_append_left _ hp, fun p hp => ?_, fun p hp => ?_, fun h' q v hv => ?_⟩
  · rcases List.mem_append.mp hp with hp | hp
    · exact htl p hp
    · exact (h1 p (List.mem_filter.mp hp).1).2.2
  · rcases List.mem_append.mp hp with hp | hp
    · exact N p (hkeep p hp)
    · rcases List.mem_append.mp hp with hp | hp
      · exact N p (hsub p hp)
      · exact N2 p hp
  · rcases List.mem_append.mp hv with hv | hv
    · exact hold h' (q.mono fun p hp => List.mem_append_left _ hp) v hv
    · exact h2 h' (k2 h' q.1 fun p hp => q.2 p (List.mem_append_right _ hp)) v hv
/-- after `led`: what stands -/
inductive LedMid (g : Heap) (L src r1 r2 : Addr) (m : Str → Option Value) (o1 o2 osrc : Obj) (tl : List (Addr × Obj)) (rv sv : Value) (ds : Dat) (s : Shared) (v : Value) (s' : Shared) : Prop
  | mk : ∀ (ld : Addr) (lys : List Value) (led : List Int) (k : Nat) (cd : Dat) (tl' : List (Addr × Obj)) (h' : Heap) (tk' : Nat), (v = .ref ld) → (s' = { s with heap := h', toks := tk' }) → (Fr g L h' m) → (News g L h' ((ld, listOf lys.toArray k) :: (r2, o2) :: (r1, o1) :: (src, osrc) :: tl')) → ((∀ p ∈ tl, p ∈ tl')) → ((∀ p ∈ tl', p.1 ≠ src)) → (IntsAre lys led) → (lys.length ≤ 1) → (Called cd led) → (DatF g tl' rv cd) → (DatF g tl' sv ds) → ((@Ne Nat ld src)) → LedMid g L src r1 r2 m o1 o2 osrc tl rv sv ds s v s'
theorem LedMid.intro {g : Heap} {L src r1 r2 : Addr} {m : Str → Option Value} {o1 o2 : Obj} {its : Array Value} {ns : Nat} {tl news : List (Addr × Obj)} {rv sv : Value} {ds : Dat} {s : Shared} {ld : Addr} {lys : List Value} {led : List Int} {k : Nat} {cd : Dat} {h' : Heap} {tk' : Nat}
    (F : Fr g L h' m) (N : News g L h' news) (hld : (ld, listOf lys.toArray k) ∈ news) (m1 : (r1, o1) ∈ news) (m2 : (r2, o2) ∈ news) (ms : (src, listOf its ns) ∈ news) (mt : ∀ p ∈ tl, p ∈ news) (ht : ∀ p ∈ tl, p.1 ≠ src)
    (hi : IntsAre lys led) (hl : lys.length ≤ 1) (hc : Called cd led) (r : Rd h' rv cd) (rs : Rd h' sv ds) (hne : @Ne Nat ld src) : LedMid g L src r1 r2 m o1 o2 (listOf its ns) tl rv sv ds s (.ref ld) { s with heap := h', toks := tk' } := by
  obtain ⟨t1, N1, c1, k1⟩ := rd_news F r
  obtain ⟨t2, N2, c2, k2⟩ := rd_news F rs
  refine ⟨ld, lys, led, k, cd, tl ++ (t1 ++ t2), h', tk', rfl, rfl, F, fun p hp => ?_, fun p hp => List.mem_append_left _ hp, fun p hp => ?_, hi, hl, hc, fun h q => k1 h q.1 fun p hp => q.2 p (by simp [hp]), fun h q => k2 h q.1 fun p hp => q.2 p (by simp [hp]), hne⟩
  · simp only [List.mem_cons, List.mem_append] at hp
    rcases hp with rfl | rfl | rfl | rfl | hp | hp | hp
    · exact N _ hld
    · exact N _ m2
    · exact N _ m1
    · exact N _ ms
    · exact N _ (mt p hp)
    · exact N1 p hp
    · exact N2 p hp
  · simp only [List.mem_append] at hp
    rcases hp with hp | hp | hp
    · exact ht p hp
    · exact tl_ne N1 c1 N ms (by simp) p hp
    · exact tl_ne N2 c2 N ms (by simp) p hp
theorem led_join {M : Model} {A : Around} {E Q : Value → Shared → Prop} {t : Sem Value} {s : Shared} {g : Heap} {L src r1 r2 sa : Addr} {m : Str → Option Value} {vs1 vs2 l : List Value} {its : Array Value} {ns : Nat} {news : List (Addr × Obj)} {rv : Value} {j : Int} {ts tj : Tok} (tl : List (Addr × Obj))
    (_F : Fr g L s.heap m) (_N : News g L s.heap news) (_hz : ∃ i : Nat, l[i]? = some rv) (_m1 : (r1, tupO vs1 0) ∈ news) (_m2 : (r2, tupO vs2 0) ∈ news) (_ms : (src, listOf its ns) ∈ news) (_mj : (sa, { cls := .type "tuple", data := .seq #[.str (Str.ofString "main.f") ts, .int j tj] }) ∈ news)
    (walk : wpAny M A t (LedMid g L src r1 r2 m (tupO vs1 0) (tupO vs2 0) (listOf its ns) tl rv (.ref sa) (dSite j) s) E s)
    (rest : ∀ (ld : Addr) (lys : List Value) (led : List Int) (k : Nat) (cd : Dat) (tl' : List (Addr × Obj)) (h' : Heap) (tk' : Nat), Fr g L h' m → News g L h' ((ld, listOf lys.toArray k) :: (r2, tupO vs2 0) :: (r1, tupO vs1 0) :: (src, listOf its ns) :: tl') →
      (∀ p ∈ tl, p ∈ tl') → (∀ p ∈ tl', p.1 ≠ src) → IntsAre lys led → lys.length ≤ 1 → Called cd led → DatF g tl' rv cd → DatF g tl' (.ref sa) (dSite j) → (@Ne Nat ld src) → Q (.ref ld) { s with heap := h', toks := tk' }) : wpAny M A t Q E s := by
  refine wpAny_mono walk (fun v s' h => ?_) fun _ _ e => e
  obtain ⟨ld, lys, led, k, cd, tl', h', tk', rfl, rfl, F', N', h1, h2, h3, h4, h5, h6, h7, h8⟩ := h
  exact rest ld lys led k cd tl' h' tk' F' N' h1 h2 h3 h4 h5 h6 h7 h8
/-- the same, in the walk's form -/
theorem rows_cut {G : Prop} {P : Dat → List Int → Prop} {Z : Addr → Prop} {g h : Heap} {L src D D9 ld : Addr} {m : Str → Option Value} {news tl : List (Addr × Obj)} {vs0 new : List Value} {its : Array Value} {n k : Nat} {o9 ol : Obj}
    (hZ : ∀ l, Z l → l ≠ src) (F : Fr g L h m) (N : News g L h news) (hD : (D, listOf (vs0 ++ new).toArray k) ∈ news) (h9 : (D9, o9) ∈ news) (hl : (ld, ol) ∈ news) (hs : (src, listOf its n) ∈ news) (hsub : ∀ p ∈ tl, p ∈ news) (htl : ∀ p ∈ tl, p.1 ≠ src) (hold : RowsF P Z g tl vs0) (hnew : ∀ v ∈ new, RowR P Z h v)
    (cont : ∀ tl', (∀ p ∈ tl, p ∈ tl') → (∀ p ∈ tl', p.1 ≠ src) → News g L h ((D, listOf (vs0 ++ new).toArray k) :: (D9, o9) :: (ld, ol) :: (src, listOf its n) :: tl') → RowsF P Z g tl' (vs0 ++ new) → G) : G := by
  obtain ⟨tl', a, b, c, d⟩ := rows_step hZ F N hs [(D, listOf (vs0 ++ new).toArray k), (D9, o9), (ld, ol), (src, listOf its n)] (fun p hp => by
    simp only [List.mem_cons, List.not_mem_nil, or_false] at hp
    rcases hp with rfl | rfl | rfl | rfl <;> assumption) hsub htl hold hnew
  exact cont tl' a b c d
theorem ops_cut {g h : Heap} {L D9 l' ld r1 r2 src : Addr} {o9 ol od x1 x2 os : Obj} {tl : List (Addr × Obj)} (N : News g L h ((D9, o9) :: (l', ol) :: (ld, od) :: (r2, x2) :: (r1, x1) :: (src, os) :: tl)) : News g L h ((D9, o9) :: (ld, od) :: (src, os) :: ((r1, x1) :: (r2, x2) :: tl)) := fun p hp => N p (by
  simp only [List.mem_cons] at hp ⊢
  rcases hp with h | h | h | h | h | h <;> simp [h])
theorem RowsF.nil {P : Dat → List Int → Prop} {Z : Addr → Prop} {g : Heap} {tl : List (Addr × Obj)} : RowsF P Z g tl [] := fun _ _ v hv => by cases hv
end Mine
-- G6
namespace Mine
theorem words14 : True := by
  k_with_none
  (k_with "base k_mem" => first | exact Mine.memAt 0 rfl | exact Mine.memAt 1 rfl | exact Mine.memAt 2 rfl | exact Mine.memAt 3 rfl | exact Mine.memAt 4 rfl | exact Mine.memAt 5 rfl | exact Mine.memAt 6 rfl | exact Mine.memAt 7 rfl | (refine Mine.memSkip 8 rfl ?_; k_mem))
  (k_with "base k_all" => first | exact Mine.allNe (by with_reducible assumption) | with_reducible assumption | exact List.forall_mem_nil _ | (with_reducible refine' Mine.allApp ?a ?b; (case a => k_all); (case b => k_all)) | (refine' List.forall_mem_cons.mpr ⟨?a, ?b⟩; (case a => k_ne); (case b => k_all)) | assumption)
  (k_with "base k_ne" => first | with_reducible assumption | (refine Mine.ne_hi ?_; exact Mine.lt_mem (by with_reducible assumption) (by k_mem)) | exact Mine.neAt (by with_reducible assumption) (by k_mem) | exact Mine.neAt' (by with_reducible assumption) (by k_mem) | (refine Mine.ne_hi ?_; with_reducible first | assumption | exact Mine.pj0 (by assumption) | exact Mine.pj1 (by assumption) | exact Mine.pl1 (by assumption) | exact Mine.pj2 (by assumption) | exact Mine.pl2 (by assumption) | exact Mine.pj3 (by assumption) | exact Mine.pl3 (by assumption) | exact Mine.pj4 (by assumption) | exact Mine.pl4 (by assumption) | exact Mine.pj5 (by assumption) | exact Mine.pl5 (by assumption) | exact Mine.pj6 (by assumption) | exact Mine.pl6 (by assumption) | exact Mine.pj7 (by assumption) | exact Mine.pl7 (by assumption) | exact Mine.pj8 (by assumption) | exact Mine.pj9 (by assumption) | exact Mine.pj10 (by assumption) | exact Mine.pj11 (by assumption) | exact Mine.pj12 (by assumption) | exact Mine.pj13 (by assumption) | exact Mine.pj14 (by assumption)) | exact Ne.symm (by with_reducible assumption) | exact Ne.symm (by assumption) | (refine neN ?_; (try dsimp only); omega))
  (k_with "base k_steps" => (try ((fail_if_success (fail_if_success k_fold)); refine (let Q9z : _ → Shared → Prop := _; (?_ : wpAny _ _ _ Q9z _ _)))); (try ((fail_if_success (fail_if_success (conv in (Shared.mk _ _ _ _ _) => skip))); refine (let s9z : Shared := _; (?_ : wpAny _ _ _ _ _ s9z)))); (try ((with_reducible rename News _ _ _ (List.cons _ _) => N9z); refine (let NW9z : List (Addr × Obj) := _; have N8z : News _ _ _ (Mine.Fold NW9z) := N9z; ?_); clear N9z)); (try ((with_reducible rename Fr _ _ _ (fun _ => ite _ _ _) => F9z); refine (let FM9z : Str → Option Value := _; have F8z : Fr _ _ _ (Mine.Fold FM9z) := F9z; ?_); clear F9z)); repeat' (first | ((fail_if_success (fail_if_success k_unfold)); refine (?_ : wpAny _ _ _ _ _ _); (try ((fail_if_success (fail_if_success k_fold)); refine (let Q9z : _ → Shared → Prop := _; (?_ : wpAny _ _ _ Q9z _ _)))); (try ((fail_if_success (fail_if_success (conv in (Shared.mk _ _ _ _ _) => skip))); refine (let s9z : Shared := _; (?_ : wpAny _ _ _ _ _ s9z))))) | (k_unfold; (try dsimp only)) | (k_end; wrow_close) | ((first | walk1 | (dsimp only; walk1)); (try ((fail_if_success (fail_if_success k_fold)); refine (let Q9z : _ → Shared → Prop := _; (?_ : wpAny _ _ _ Q9z _ _)))); (try ((fail_if_success (fail_if_success (conv in (Shared.mk _ _ _ _ _) => skip))); refine (let s9z : Shared := _; (?_ : wpAny _ _ _ _ _ s9z)))); (try ((with_reducible rename News _ _ _ (List.cons _ _) => N9z); refine (let NW9z : List (Addr × Obj) := _; have N8z : News _ _ _ (Mine.Fold NW9z) := N9z; ?_); clear N9z)); (try ((with_reducible rename Fr _ _ _ (fun _ => ite _ _ _) => F9z); refine (let FM9z : Str → Option Value := _; have F8z : Fr _ _ _ (Mine.Fold FM9z) := F9z; ?_); clear F9z))) | (leave1; walk_say "STEP leave1"; try dsimp only) | fail "no step"))
  (k_with "mine drop" => first | exact memDrop 0 rfl | exact memDrop 1 rfl | exact memDrop 2 rfl | exact memDrop 3 rfl | exact memDrop 4 rfl | exact memDrop 5 rfl | exact memDrop 6 rfl | exact memDrop 7 rfl | exact memDrop 8 rfl | (refine dropSkip 8 rfl ?_; walk_at "mine drop"))
  (k_with "mine env" => refine (let ev9 : Env := _; let A9 : Around := _; (?_ : wpAny _ A9 (execs _ ev9) _ _ _)))
  (k_with "mine sides" => ((case ho => k_is); (case hcd => k_is); (case hroom => (first | assumption | exact room0 (by assumption) rfl | omega | (dsimp only [Ar]; omega))); (case hbind => exact BindsTo.of_eq rfl); (case hloc => exact locs rfl); (case c2 => exact rfl); (case c3 => exact rfl); (case c4 => exact rfl); (case c5 => decide)))
  (k_with "mine units" => (first | assumption | exact room (j := 1) (by assumption) rfl rfl | exact room (j := 3) (by assumption) rfl rfl | exact room (j := 2) (by assumption) rfl rfl | exact room (j := 4) (by assumption) rfl rfl | exact room (j := 5) (by assumption) rfl rfl | exact room (j := 0) (by assumption) rfl rfl | exact roomj (j := 3) (by assumption) rfl rfl | exact roomj (j := 1) (by assumption) rfl rfl | omega | (dsimp +zetaDelta only [Around.deeper, Ar, Around.in1, Around.mark]; omega)))
  (k_with "mine small" => (first | exact Nat.le_of_ble_eq_true rfl | decide | omega | (simp only [List.length_cons, List.length_nil]; omega)))
  (k_with "call ref" => (k_here; (with_reducible show wpAny _ _ (PySem.call (Value.ref 163) _) _ _ _); k_dflt (refine' call_src (f := 163) ?S9w ?F9w ?N9w ?m9w ?a9w ?b9w ?b29w ?U9w ?st9w ?hh9w ?hg9w ?d9w ?u9w ?pre9w ?_; (case S9w => assumption); (case F9w => k_asm); (case N9w => k_asm); (case m9w => k_mem); (case a9w => assumption); (case b9w => assumption); (case b29w => assumption); (case U9w => (intro a19w136 a29w136 a39w136 a49w136 a59w136; k_upd)); (case st9w => assumption); (case hh9w => rfl); (case hg9w => rfl); (case d9w => walk_at "mine units"); (case u9w => walk_at "mine units"); (case pre9w => exact ⟨_, _, rfl, by walk_at "mine small", by walk_at "mine small"⟩); intro r9w136' h9w136' tk9w136' a9w136' ta9w136' b9w136' tb9w136' n9w136' p9w136' F9w136' N9w136' x19w136' x29w136' x39w136' y9w136'; (obtain ⟨rr9w136', rt9w136', e9w136', z19w136', z29w136'⟩ := p9w136' _ _ rfl); subst e9w136'; clear p9w136'; (try k_sweep))))
  (k_with "call ref" => (k_here; (with_reducible show wpAny _ _ (PySem.call (Value.ref 170) _) _ _ _); k_dflt (refine' call_src (f := 170) ?S9w ?F9w ?N9w ?m9w ?a9w ?b9w ?b29w ?U9w ?st9w ?hh9w ?hg9w ?d9w ?u9w ?pre9w ?_; (case S9w => assumption); (case F9w => k_asm); (case N9w => k_asm); (case m9w => k_mem); (case a9w => assumption); (case b9w => assumption); (case b29w => assumption); (case U9w => (intro a19w137 a29w137 a39w137 a49w137 a59w137; k_upd)); (case st9w => assumption); (case hh9w => rfl); (case hg9w => rfl); (case d9w => walk_at "mine units"); (case u9w => walk_at "mine units"); (case pre9w => first | exact ⟨_, _, _, rfl, by k_ne, News.get (by k_asm) (by k_mem), by walk_at "mine small", by walk_at "mine small"⟩ | exact ⟨_, _, _, rfl, by k_ne, Fr.keep (by k_asm) _ _ (by assumption), by walk_at "mine small", by walk_at "mine small"⟩); intro r9w137' h9w137' tk9w137' a9w137' ta9w137' b9w137' tb9w137' n9w137' p9w137' F9w137' N9w137' x19w137' x29w137' x39w137' y9w137'; (first | (have z9w137' := p9w137' _ _ _ rfl (News.get (by k_asm) (by k_mem))) | (have z9w137' := p9w137' _ _ _ rfl (Fr.keep (by k_asm) _ _ (by assumption)))); clear p9w137'; (try k_sweep))))
  (k_with "call ref" => (k_here; (with_reducible show wpAny _ _ (PySem.call (Value.ref 170) [_, Value.ref 149]) _ _ _); k_dflt (refine' call_kind ?B9w ?hs9w ?S9w ?F9w ?N9w ?m9w ?a9w ?b9w ?b29w ?U9w ?st9w ?hh9w ?hg9w ?d9w ?u9w ?_; (case B9w => assumption); (case hs9w => assumption); (case S9w => assumption); (case F9w => k_asm); (case N9w => k_asm); (case m9w => k_mem); (case a9w => assumption); (case b9w => assumption); (case b29w => assumption); (case U9w => (intro a19w138 a29w138 a39w138 a49w138 a59w138; k_upd)); (case st9w => assumption); (case hh9w => rfl); (case hg9w => rfl); (case d9w => walk_at "mine units"); (case u9w => walk_at "mine units"); intro r9w138' d9w138' h9w138' tk9w138' a9w138' ta9w138' b9w138' tb9w138' n9w138' hkd9w138' hkr9w138' F9w138' N9w138' x19w138' x29w138' x39w138' y9w138'; (try k_sweep))))
  (k_with "exec Assign cons ListComp" => (k_here; k_dflt (refine' comp_KFA ?hLe9w ?hsw9w ?hclos9w ?hcell9w ?hkind9w ?hnames9w ?hx9w ?hy9w ?hp9w ?F9w ?_ ?hs9w; (case F9w => k_asm); (case hLe9w => with_unfolding_all rfl); (case hsw9w => with_unfolding_all rfl); (case hclos9w => with_unfolding_all rfl); (case hcell9w => decide); (case hkind9w => with_unfolding_all rfl); (case hnames9w => decide); (case hx9w => with_unfolding_all rfl); (case hy9w => with_unfolding_all rfl); (case hp9w => with_unfolding_all rfl); (case hs9w => intro _; with_unfolding_all rfl))))
  (k_with "mine sum" => (first | exact Nat.le_of_ble_eq_true rfl | omega | ((simp only [List.length_cons, List.length_nil, List.length_append]); omega)))
  (k_with "binaryOp Add ref ref" => (k_here; k_dflt ((with_reducible show wpAny _ _ (binaryOp _ (Value.ref _) (Value.ref _)) _ _ _); refine' T_addLL ?F9w ?N9w ?a9w ?b9w ?z9w ?_; (case F9w => k_asm); (case N9w => k_asm); (case a9w => k_mem); (case b9w => k_mem); (case z9w => walk_at "mine sum"); intro D9w141' h9w141' F9w141' N9w141' l19w141; (try dsimp only [List.cons_append, List.nil_append] at N9w141'); (try k_lt l19w141); (try k_sweep))))
  (k_with "eval IfExp" => (k_here; k_dflt ((with_reducible rename HaltTok => t9w142'); clear t9w142'; refine Halt.mk ?_)))
  (k_with "exec Assign cons BinOp" => (k_here; k_dflt ((with_reducible rename HaltTok => t9w143'); clear t9w143'; refine Halt.mk ?_)))
  (k_with "exec Return some" => (k_here; k_dflt ((with_reducible rename HaltTok => t9w144'); clear t9w144'; refine Halt.mk ?_)))
  (k_with "call ref" => (k_here; (with_reducible show wpAny _ _ (PySem.call (Value.ref 182) _) _ _ _); refine Halt.mk ?_))
  (k_with "newTuple" => (k_here; k_dflt (refine' newTupleM ?F9w ?N9w ?z9w ?_; (case F9w => k_asm); (case N9w => k_asm); (case z9w => exact Nat.le_of_ble_eq_true rfl)); intro D9w146' h9w146' NW99w146 s9w146' F9w146' N9w146' l19w146; (try k_sweep)))
  (k_with "newList" => (k_here; k_dflt (refine' newListM ?F9w ?N9w ?z9w ?_; (case F9w => k_asm); (case N9w => k_asm); (case z9w => exact Nat.le_of_ble_eq_true rfl)); intro D9w147' h9w147' NW99w147 s9w147' F9w147' N9w147' l19w147; (try k_sweep)))
  (k_with "spliced" => (k_here; k_dflt (refine' argsM ?a9w ?F9w ?e9w ?_; (case F9w => k_asm); (case a9w => rfl); (case e9w => rfl)); intro s9w148'))
  (k_with "eval Tuple" => (k_here; k_dflt (refine' tupM ?a9w ?F9w ?e9w ?N9w ?z9w ?_; (case F9w => k_asm); (case a9w => rfl); (case e9w => rfl); (case N9w => k_asm); (case z9w => exact Nat.le_of_ble_eq_true rfl)); intro D9w149' h9w149' NW99w149 s9w149' F9w149' N9w149' l19w149; (try k_sweep)))
  (k_with "eval List" => (k_here; k_dflt (refine' lstM ?a9w ?F9w ?e9w ?N9w ?z9w ?_; (case F9w => k_asm); (case a9w => rfl); (case e9w => rfl); (case N9w => k_asm); (case z9w => exact Nat.le_of_ble_eq_true rfl)); intro D9w150' h9w150' NW99w150 s9w150' F9w150' N9w150' l19w150; (try k_sweep)))
  (k_with "eval Constant str" => (refine constStrM ?_; intro s9w151'))
  (k_with "eval Constant int" => (refine constIntM ?_; intro s9w152'))
  (k_with "eval Name" => (k_here; k_dflt (first | ((with_reducible show wpAny _ _ (PySem.eval _ (compEnvC _ _ _ _)) _ _ _); first | (refine' nm_comp ?n9w ?m9w ?_ ?k9w ?l9w ?d9w; (case k9w => with_unfolding_all rfl); (case l9w => with_unfolding_all rfl); (case n9w => assumption); (case m9w => assumption); (case d9w => decide)) | (refine' nm_compC ?N9w ?c9w ?m9w ?d9w ?_ ?k9w ?l9w ?e9w; (case k9w => with_unfolding_all rfl); (case l9w => with_unfolding_all rfl); (case N9w => k_asm); (case c9w => with_unfolding_all rfl); (case m9w => k_mem); (case d9w => k_asm); (case e9w => decide))) | ((fail_if_success (with_reducible show wpAny _ _ (PySem.eval _ (compEnvC _ _ _ _)) _ _ _)); first | (refine' nameS ?a9w ?e9w ?F9w ?_; (case F9w => k_asm); (case a9w => rfl); (case e9w => rfl)) | (refine' nameK ?a9w ?g9w ?F9w ?X9w ?T9w ?e9w ?_; (case a9w => rfl); (case g9w => rfl); (case F9w => k_asm); (case X9w => k_asm); (case T9w => k_asm); (case e9w => k_is); k_whole) | (refine' nameB ?a9w ?g9w ?F9w ?X9w ?T9w ?e9w ?v9w ?n9w ?_; (case a9w => rfl); (case g9w => rfl); (case F9w => k_asm); (case X9w => k_asm); (case T9w => k_asm); (case e9w => k_is); (case v9w => boot_fast); (case n9w => decide); k_whole)))))
  (k_with "storeName" => (k_here; k_dflt (refine' storeM ?a9w ?b9w ?F9w ?N9w ?_; (case a9w => rfl); (case b9w => rfl); (case F9w => k_asm); (case N9w => k_asm)); intro h9w154' FM99w154 s9w154' F9w154' N9w154'; (try k_sweep)))
  trivial
theorem ins_src {w : World} {mean : ExcName → Option Value} {mg mb : Str → Option Value} {H : Heap} (B : Bs w mean mg mb H) (src : Addr) (hsrc : H.get? src = none) : SpS w H src 187 40 200 (fun _ args => args = [.ref src])
      (fun h _ h' v => RowR InsRow (fun l => h.get? l = none) h' v) := by
  have S0 := take_spec B src hsrc
  have S1 := one_spec B src hsrc
  have S2 : OperS w H src := operand_src B src hsrc
  refine Sp.intro ?_
  rintro dp un fr s args R hst hdp hun ⟨rfl, a, ta, b, tb, n, ho, ha, hb, hb2⟩ hR
  refine' enter (binds := [(Str.ofString "source", .ref src)]) [src] (by simpa using hsrc) hst B ?ho ?hcd ?hroom ?hbind ?hloc ?h ?c2 ?c3 ?c4 ?c5
  walk_at "mine sides"
  intro g L h₁ F N X T hgs hbut hg
  have N := N (src, listOf #[.int a ta, .int b tb] n) (by simp) ho
  clear hg
  have hcL := cLine_is
  (try simp only [List.reverse_cons, List.reverse_nil, List.nil_append, List.cons_append] at F)
  (try dsimp only)
  walk_at "mine env"
  k_steps
  refine Halt.get ?_
  refine' call_opU S2 ?F ?N ?m ?a ?b ?b2 ?U ?st ?hh ?hg ?d ?u ?h1
  case F => k_asm
  case N => k_asm
  case m => k_mem
  case a => assumption
  case b => assumption
  case b2 => assumption
  case U => (intro a1 a2 a3 a4 a5; k_upd)
  case st => assumption
  case hh => rfl
  case hg => rfl
  case d => walk_at "mine units"
  case u => walk_at "mine units"
  case h1 =>
  intro r1 vs1 d1 tl1 h' tk' a' ta' b' tb' n' V1 hr1 hl1 F' N' x1' x2' x3'
  (try dsimp only [List.cons_append, List.nil_append] at N')
  try k_sweep
  k_steps
  refine Halt.get ?_
  refine' call_opU S2 ?F ?N ?m ?a ?b ?b2 ?U ?st ?hh ?hg ?d ?u ?h1
  case F => k_asm
  case N => k_asm
  case m => k_mem
  case a => assumption
  case b => assumption
  case b2 => assumption
  case U => (intro a1 a2 a3 a4 a5; k_upd)
  case st => assumption
  case hh => rfl
  case hg => rfl
  case d => walk_at "mine units"
  case u => walk_at "mine units"
  case h1 =>
  intro r2 vs2 d2 tl2 h' tk' a' ta' b' tb' n' V2 hr2 hl2 F' N' x1' x2' x3'
  (try dsimp only [List.cons_append, List.nil_append] at N')
  have V1 := V1.mono (tl' := tl1 ++ tl2) fun p hp => List.mem_append_left _ hp
  have V2 := V2.mono (tl' := tl1 ++ tl2) fun p hp => List.mem_append_right _ hp
  have hl3 : ∀ p ∈ tl1 ++ tl2, p.1 ≠ src := fun p hp => (List.mem_append.mp hp).elim (hl1 p) (hl2 p)
  clear hl1 hl2
  generalize tl1 ++ tl2 = tl at N' V1 V2 hl3
  try k_sweep
  have tok : HaltTok := trivial
  k_steps
  refine Halt.get ?_
  rename (∃ i : Nat, _) => z9
  rename (News _ _ _ (_ :: _)) => N9
  rename (Fr _ _ _ _) => F9
  rename (Rd _ _ _) => hkr
  rename (_ ∈ kinds) => hkd
  clear hb hb2 ha ho
  refine' led_join (r1 := r1) (r2 := r2) (src := src) (vs1 := vs1) (vs2 := vs2) tl F9 N9 z9 ?m1 ?m2 ?ms ?mj ?walk ?rest
  case m1 => k_mem
  case m2 => k_mem
  case ms => k_mem
  case mj => k_mem
  case walk =>
    obtain ⟨i9, hi9⟩ := z9
    rcases i9 with _ | _ | _ | i9 <;> simp at hi9
    · subst hi9
      k_steps
      all_goals exact LedMid.intro (by k_asm) (by k_asm) (by k_mem) (by k_mem) (by k_mem) (by k_mem) (by walk_at "mine drop") (by assumption) .nil (by simp) (.fn 0) (.tupN (vs := [_, _]) (by k_asm) (by k_mem) rfl (.cons (.str _ _) (.cons (.str _ _) .nil))) (.tupN (vs := [_, _]) (by k_asm) (by k_mem) rfl (.cons (.str _ _) (.cons (.int _ _) .nil))) (by k_ne)
    · subst hi9
      k_steps
      all_goals exact LedMid.intro (by k_asm) (by k_asm) (by k_mem) (by k_mem) (by k_mem) (by k_mem) (by walk_at "mine drop") (by assumption) (.cons _ _ .nil) (by simp) (.value _ (by assumption) (by assumption)) (.tupN (vs := [_, _]) (by k_asm) (by k_mem) rfl (.cons (.str _ _) (.cons (.tupN (vs := [_, _]) (by k_asm) (by k_mem) rfl (.cons (.str _ _) (.cons (.int _ _) .nil))) .nil))) (.tupN (vs := [_, _]) (by k_asm) (by k_mem) rfl (.cons (.str _ _) (.cons (.int _ _) .nil))) (by k_ne)
    · subst hi9
      k_steps
      all_goals exact LedMid.intro (by k_asm) (by k_asm) (by k_mem) (by k_mem) (by k_mem) (by k_mem) (by walk_at "mine drop") (by assumption) (.cons _ _ .nil) (by simp) (.face _ (by assumption) (by assumption)) (.tupN (vs := [_, _, _]) (by k_asm) (by k_mem) rfl (.cons (.str _ _) (.cons (.tupN (vs := [_, _]) (by k_asm) (by k_mem) rfl (.cons (.str _ _) (.cons (.int _ _) .nil))) (.cons (.str _ _) .nil)))) (.tupN (vs := [_, _]) (by k_asm) (by k_mem) rfl (.cons (.str _ _) (.cons (.int _ _) .nil))) (by k_ne)
  case rest =>
    clear F9 N9
    intro ld lys led kl cd tl3 h3 tk3 F3 N3 hsub hl4 hled hlen hcal DC DS hlds0
    have V1 := V1.mono hsub
    have V2 := V2.mono hsub
    clear hl3
    try k_sweep
    k_steps
    rename (News _ _ _ (_ :: _)) => N9
    rename (Fr _ _ _ _) => F9
    refine ⟨2, fun i v => [Value.ref r1, Value.ref r2][i]? = some v, [_], _, fun i ys => IntsAre ys (opsR d1 d2 i), IterOk.list (vs := [Value.ref r1, Value.ref r2]) rfl (isList_of (k := 0) N9 (by k_mem)), by decide, F9, N9, .nil, opsR_len, ?_, ?_⟩
    · intro C i v ys s₃ m₃ E' hi hv hI hn hm F' N'
      clear F9 N9
      rcases i with _ | _ | i
      · simp at hv
        subst hv
        cases V1 with
        | reg i9 t1 t2 q1 q2 =>
          k_steps
          refine TestEnd.yes But.refl ?_
          k_steps
          exact EltEnd.intro But.refl (ints_snoc hI)
        | const t1 v1 v2 kd cd q1 q2 q3 =>
          k_steps
          refine TestEnd.no But.refl ?_
          (try dsimp only)
          rw [opsR_c1]; exact hI
      · simp at hv
        subst hv
        cases V2 with
        | reg i9 t1 t2 q1 q2 =>
          k_steps
          refine TestEnd.yes But.refl ?_
          k_steps
          exact EltEnd.intro But.refl (ints_snoc hI)
        | const t1 v1 v2 kd cd q1 q2 q3 =>
          k_steps
          refine TestEnd.no But.refl ?_
          (try dsimp only)
          rw [opsR_c2]; exact hI
      · exact absurd hi (by omega)
    · intro D9 h9 tk9 ys9 k9 hD9 F' N' hI9
      clear F9 N9
      have hl9 := opsR_len 2 ys9 hI9
      have hI9 : IntsAre ys9 (opRegs d1 ++ opRegs d2) := hI9
      have hlds : @Ne Nat ld src := hlds0
      have hDsrc : @Ne Nat D9 src := fun q => hD9 _ (by k_mem : (src, _) ∈ _) q.symm
      have N4 := ops_cut N'
      (try dsimp only at F')
      have DA : DatF g ((r1, tupO vs1 0) :: (r2, tupO vs2 0) :: tl3) (.ref r1) d1 := fun h' q => V1.rd (q.2 _ (.head _)) q.1 fun p hp => q.2 p (.tail _ (.tail _ hp))
      have DB : DatF g ((r1, tupO vs1 0) :: (r2, tupO vs2 0) :: tl3) (.ref r2) d2 := fun h' q => V2.rd (q.2 _ (.tail _ (.head _))) q.1 fun p hp => q.2 p (.tail _ (.tail _ hp))
      have DC := DC.mono (tl' := (r1, tupO vs1 0) :: (r2, tupO vs2 0) :: tl3) fun p hp => .tail _ (.tail _ hp)
      have DS := DS.mono (tl' := (r1, tupO vs1 0) :: (r2, tupO vs2 0) :: tl3) fun p hp => .tail _ (.tail _ hp)
      have hl5 : ∀ p ∈ ((r1, tupO vs1 0) :: (r2, tupO vs2 0) :: tl3), p.1 ≠ src := by
        simp only [List.forall_mem_cons]; exact ⟨hr1, hr2, hl4⟩
      have ok1 := V1.ok
      have ok2 := V2.ok
      clear N' hl4 V1 V2
      generalize ((r1, tupO vs1 0) :: (r2, tupO vs2 0) :: tl3) = tl4 at N4 DA DB DC DS hl5
      have tok : HaltTok := trivial
      k_steps
      refine Halt.get ?_
      rename (News _ _ _ (_ :: _)) => N8
      rename (Fr _ _ _ _) => F8
      have K8 := Keeps.of (tl := tl4) F8 N8 (by walk_at "mine drop")
      have ra := DA _ K8
      have rb := DB _ K8
      have rc := DC _ K8
      have rs := DS _ K8
      have rk := hkr.mono (TLe.of K8.1)
      refine' rows_cut (src := src) (D9 := D9) (ld := ld) (tl := tl4) (P := InsRow) (Z := fun l => l ≠ src ∧ g.get? l = none) (fun _ q => q.1) F8 N8 ?hD ?h9 ?hl ?hs (by walk_at "mine drop") hl5 RowsF.nil ?hnew ?cont
      case hD => k_mem
      case h9 => k_mem
      case hl => k_mem
      case hs => k_mem
      case hnew =>
        refine all3 ?r1 ?r2 ?r3
        case r1 => exact RowR.of (News.get N8 (by k_mem)) (.tupN (vs := [_, _, _, _, _, _]) N8 (by k_mem) rfl (.cons (.str _ _) (.cons (.int _ _) (.cons (.str _ _) (.cons ra (.cons rb (.cons rk .nil))))))) (News.get N8 (by k_mem)) (.cons _ _ hI9) (.binary _ _ _ _ ok1 ok2 hkd (by assumption) (by assumption)) ⟨(by first | exact hDsrc | exact hlds | k_ne), News.fresh N8 (by k_mem)⟩
        case r2 => exact RowR.of (News.get N8 (by k_mem)) (.tupN (vs := [_, _, _, _, _, _]) N8 (by k_mem) rfl (.cons (.str _ _) (.cons (.int _ _) (.cons rk (.cons ra (.cons rb (.cons rs .nil))))))) (News.get N8 (by k_mem)) (.cons _ _ hI9) (.makeslice _ _ _ _ _ ok1 ok2 hkd (by assumption) (by assumption) (by assumption) (by assumption)) ⟨(by first | exact hDsrc | exact hlds | k_ne), News.fresh N8 (by k_mem)⟩
        case r3 => exact RowR.of (News.get N8 (by k_mem)) (.tupN (vs := [_, _, _]) N8 (by k_mem) rfl (.cons (.str _ _) (.cons ra (.cons rb .nil)))) (News.get N8 (by k_mem)) hI9 (.store _ _ ok1 ok2) ⟨(by first | exact hDsrc | exact hlds | k_ne), News.fresh N8 (by k_mem)⟩
      case cont =>
      clear N8 K8 ra rb rc rs rk
      intro tl6 hs6 hl6 N6 RR6
      (try dsimp only [List.cons_append, List.nil_append] at N6 RR6)
      have DA := DA.mono hs6
      have DB := DB.mono hs6
      have DC := DC.mono hs6
      have DS := DS.mono hs6
      clear hl5 hs6
      try k_sweep
      refine wpAny_Assign_Name ?_
      have tok : HaltTok := trivial
      k_steps
      refine Halt.get ?_
      rename (News _ _ _ (_ :: _)) => N8
      rename (Fr _ _ _ _) => F8
      have K8 := Keeps.of (tl := tl6) F8 N8 (by walk_at "mine drop")
      have ra := DA _ K8
      have rb := DB _ K8
      have rc := DC _ K8
      have rs := DS _ K8
      have rk := hkr.mono (TLe.of K8.1)
      refine' rows_cut (src := src) (D9 := D9) (ld := ld) (tl := tl6) (P := InsRow) (Z := fun l => l ≠ src ∧ g.get? l = none) (fun _ q => q.1) F8 N8 ?hD ?h9 ?hl ?hs (by walk_at "mine drop") hl6 RR6 ?hnew ?cont
      case hD => k_mem
      case h9 => k_mem
      case hl => k_mem
      case hs => k_mem
      case hnew =>
        refine all3 ?r1 ?r2 ?r3
        case r1 => exact RowR.of (News.get N8 (by k_mem)) (.tupN (vs := [_, _, _]) N8 (by k_mem) rfl (.cons (.str _ _) (.cons (.int _ _) (.cons (.tupN (vs := [_, _]) N8 (by k_mem) rfl (.cons ra (.cons rb .nil))) .nil)))) (News.get N8 (by k_mem)) (.cons _ _ hI9) (.struct _ _ _ ok1 ok2 (by assumption) (by assumption)) ⟨(by first | exact hDsrc | exact hlds | k_ne), News.fresh N8 (by k_mem)⟩
        case r2 => exact RowR.of (News.get N8 (by k_mem)) (.tupN (vs := [_, _, _]) N8 (by k_mem) rfl (.cons (.str _ _) (.cons (.tupN (vs := [_, _]) N8 (by k_mem) rfl (.cons ra (.cons rb .nil))) (.cons (.tupN (vs := [_, _]) N8 (by k_mem) rfl (.cons rk (.cons rk .nil))) .nil)))) (News.get N8 (by k_mem)) hI9 (.print _ _ _ ok1 ok2 hkd) ⟨(by first | exact hDsrc | exact hlds | k_ne), News.fresh N8 (by k_mem)⟩
        case r3 => exact RowR.of (News.get N8 (by k_mem)) (.tupN (vs := [_, _, _, _, _, _]) N8 (by k_mem) rfl (.cons (.str _ _) (.cons (.int _ _) (.cons .none (.cons ra (.cons rb (.cons rk .nil))))))) (News.get N8 (by k_mem)) (.cons _ _ hI9) (.mapget _ _ _ _ ok1 ok2 hkd (by assumption) (by assumption)) ⟨(by first | exact hDsrc | exact hlds | k_ne), News.fresh N8 (by k_mem)⟩
      case cont =>
      clear N8 K8 ra rb rc rs rk
      intro tl7 hs7 hl7 N7 RR7
      (try dsimp only [List.cons_append, List.nil_append] at N7 RR7)
      have DA := DA.mono hs7
      have DB := DB.mono hs7
      have DC := DC.mono hs7
      have DS := DS.mono hs7
      clear hl6 hs7
      try k_sweep
      refine wpAny_Assign_Name ?_
      have tok : HaltTok := trivial
      k_steps
      refine Halt.get ?_
      rename (News _ _ _ (_ :: _)) => N8
      rename (Fr _ _ _ _) => F8
      have K8 := Keeps.of (tl := tl7) F8 N8 (by walk_at "mine drop")
      have ra := DA _ K8
      have rb := DB _ K8
      have rc := DC _ K8
      have rs := DS _ K8
      have rk := hkr.mono (TLe.of K8.1)
      refine' rows_cut (src := src) (D9 := D9) (ld := ld) (tl := tl7) (P := InsRow) (Z := fun l => l ≠ src ∧ g.get? l = none) (fun _ q => q.1) F8 N8 ?hD ?h9 ?hl ?hs (by walk_at "mine drop") hl7 RR7 ?hnew ?cont
      case hD => k_mem
      case h9 => k_mem
      case hl => k_mem
      case hs => k_mem
      case hnew =>
        refine all3 ?r1 ?r2 ?r3
        case r1 => exact RowR.of (News.get N8 (by k_mem)) (.tupN (vs := [_, _, _, _]) N8 (by k_mem) rfl (.cons (.str _ _) (.cons (.tupN (vs := [_]) N8 (by k_mem) rfl (.cons (.int _ _) .nil)) (.cons rc (.cons (.tupN (vs := [_, _]) N8 (by k_mem) rfl (.cons ra (.cons rb .nil))) .nil))))) (News.get N8 (by k_mem)) (.cons _ _ (ints_app hled hI9)) (.call _ _ _ _ _ ok1 ok2 hcal (by assumption) (by assumption)) ⟨(by first | exact hDsrc | exact hlds | k_ne), News.fresh N8 (by k_mem)⟩
        case r2 => exact RowR.of (News.get N8 (by k_mem)) (.tupN (vs := [_, _, _]) N8 (by k_mem) rfl (.cons (.str _ _) (.cons rc (.cons (.tupN (vs := []) N8 (by k_mem) rfl .nil) .nil)))) (News.get N8 (by k_mem)) hled (.go _ _ hcal) ⟨(by first | exact hDsrc | exact hlds | k_ne), News.fresh N8 (by k_mem)⟩
        case r3 => exact RowR.of (News.get N8 (by k_mem)) (.tupN (vs := [_, _, _]) N8 (by k_mem) rfl (.cons (.str _ _) (.cons (.str _ _) (.cons (.tupN (vs := [_, _]) N8 (by k_mem) rfl (.cons ra (.cons rb .nil))) .nil)))) (News.get N8 (by k_mem)) hI9 (.sync _ _ ok1 ok2) ⟨(by first | exact hDsrc | exact hlds | k_ne), News.fresh N8 (by k_mem)⟩
      case cont =>
      clear N8 K8 ra rb rc rs rk
      intro tl8 hs8 hl8 N8 RR8
      (try dsimp only [List.cons_append, List.nil_append] at N8 RR8)
      have DA := DA.mono hs8
      have DB := DB.mono hs8
      have DC := DC.mono hs8
      have DS := DS.mono hs8
      clear hl7 hs8
      try k_sweep
      k_steps
      rename (∃ i : Nat, _) => z8
      rename (News _ _ _ (_ :: _)) => N8
      rename (Fr _ _ _ _) => F8
      have K8 := Keeps.of (tl := tl8) F8 N8 (by walk_at "mine drop")
      have ra := DA _ K8
      have rb := DB _ K8
      have rc := DC _ K8
      have rs := DS _ K8
      have rk := hkr.mono (TLe.of K8.1)
      refine hR _ _ _ ⟨⟨?_, _, _, _, _, _, News.get N8 (by k_mem), by assumption, by assumption, by assumption⟩, fun b o e nb => Fr.keep F8 b o (hbut b o e nb)⟩
      obtain ⟨i8, hi8⟩ := z8
      refine app2 (l := [_, _, _, _, _, _, _, _, _]) (List.mem_of_getElem? hi8) ?x1 ?x2 ?x3
      · exact fun q => RowR.weak (fun l q => none_of q.1 q.2 hbut) (fun _ _ p => p) (RR8 _ K8 _ q)
      · exact RowR.of (News.get N8 (by k_mem)) (.tupN (vs := [_, _, _, _, _, _]) N8 (by k_mem) rfl (.cons (.str _ _) (.cons (.int _ _) (.cons (.int _ _) (.cons ra (.cons rb (.cons rk .nil))))))) (News.get N8 (by k_mem)) (.cons _ _ (.cons _ _ hI9)) (.mapget2 _ _ _ _ _ ok1 ok2 hkd (by assumption) (by assumption) (by assumption) (by assumption)) (new_of N8 (by k_mem) (by k_ne) hbut)
      · exact RowR.of (News.get N8 (by k_mem)) (.tupN (vs := [_, _, _, _, _, _]) N8 (by k_mem) rfl (.cons (.str _ _) (.cons (.int _ _) (.cons (.int _ _) (.cons (.int _ _) (.cons (.tupN (vs := [_]) N8 (by k_mem) rfl (.cons (.tupN (vs := [_, _, _]) N8 (by k_mem) rfl (.cons (.str _ _) (.cons ra (.cons rb .nil)))) .nil)) (.cons (.bool _) .nil))))))) (News.get N8 (by k_mem)) (.cons _ _ (.cons _ _ (.cons _ _ hI9))) (.select _ _ _ _ ok1 ok2 (by assumption) (by assumption) (by assumption) (by assumption)) (new_of N8 (by k_mem) (by k_ne) hbut)
end Mine
-- B13
namespace Mine
section
variable {prog : Program} {w : World} {A : Around} {E : Value → Shared → Prop} {env : Env}
theorem block_G {s₂ : Shared} {elt iter : Expr} {x : Str} {px : Pos} {scope : Scope} {cl : List (Str × Addr)} {pos : Pos} {I : Addr} {fp wr : List Addr} {n : Nat} {P : Nat → Value → Prop} {St : Nat → Heap → Prop} (X : List Addr) (Inv : Nat → List Value → Heap → Prop) (n₁ : Nat) {RR : Value → Addr → Result → Shared → Prop}
    (hcell : ∀ y ∈ scope.names, y.2 ≠ .cell) (hkind : scope.kind = .function) (hx : scope.names.lookup x = some .local)
    (W : Walks prog w A I fp wr n P St) (hn1 : n₁ ≤ s₂.heap.objs.size) (hwn : ∀ b ∈ wr, n₁ ≤ b) (hnt : ∀ i h, St i h → ∀ b ∈ wr, ∀ vs k, h.get? b ≠ some (tupO vs k)) (hsz : n ≤ sizeLine) (hst : St 0 s₂.heap) (hfp : ∀ b ∈ fp, b < s₂.heap.objs.size)
    (hX : ∀ b ∈ X, b < s₂.heap.objs.size ∧ b ∉ fp) (hi0 : Inv 0 [] s₂.heap) (hstab : ∀ i ys h h', Stay n₁ [] h h' → Inv i ys h → Inv i ys h')
    (helt : ∀ C i v ys s₃ m₃ E', i < n → P i v → ys.length = i → Inv i ys s₃.heap → s₃.heap.Ns C m₃ → m₃ x = some v → s₂.heap.objs.size ≤ C → (∀ b o, b ∉ wr → b ∉ X → s₂.heap.get? b = some o → s₃.heap.get? b = some o) →
        wpAny (model prog w) A (eval elt (compEnvC scope cl C env)) (fun y s₄ => (∃ h' tk', s₄ = { s₃ with heap := h', toks := tk' }) ∧ But X s₃.heap s₄.heap ∧ Inv (i + 1) (ys ++ [y]) s₄.heap) E' s₃)
    (hRR : ∀ D C h tk m' ys, s₂.heap.objs.size ≤ D → D ≠ C → s₂.heap.objs.size ≤ C → h.Ns C m' → h.PlainList D ys.toArray → ys.length = n → Inv n ys h → (∀ b o, b ∉ wr → b ∉ X → s₂.heap.get? b = some o → h.get? b = some o) → RR (.ref D) C (.ok .next) { s₂ with heap := h, toks := tk }) :
    wpAny (model prog w) A (newList []) (fun acc s₃ => wpAny (model prog w) A (newFunctionEnv scope env.globals cl [] env.qual none .none (some env)) (fun cenv s₄ =>
      codeAny (model prog w) A (.compStart (.ListComp elt [⟨.Name x px, iter, [], 0⟩] scope pos) 0 (.ref I) acc { cenv with scope := relabel scope env }) (RR acc cenv.locals) s₄) E s₃) E s₂ := by
  refine wpAny_newObj_type (wpAny_newFunctionEnv hcell (by intro y hy; simp at hy) (fun h₁ hns₁ hsb₁ => ?_) hkind)
  dsimp only at hns₁ hsb₁ ⊢
  generalize hH2 : s₂.heap.push { cls := .type "list", dict := none, data := .seq ([] : List Value).toArray } = H2 at hns₁ hsb₁ ⊢
  have hC : H2.objs.size = s₂.heap.objs.size + 1 := by rw [← hH2, Heap.size_push]
  have hDC : s₂.heap.objs.size ≠ H2.objs.size := by rw [hC]; exact Nat.ne_of_lt (Nat.lt_succ_self _)
  have hCle : s₂.heap.objs.size ≤ H2.objs.size := by rw [hC]; exact Nat.le_succ _
  have below : ∀ b, b < s₂.heap.objs.size → b ≠ H2.objs.size ∧ b ≠ s₂.heap.objs.size := fun b hb => ⟨by rw [hC]; exact Nat.ne_of_lt (Nat.lt_succ_of_lt hb), Nat.ne_of_lt hb⟩
  have hDf : s₂.heap.objs.size ∉ fp := fun hm => Nat.lt_irrefl _ (hfp _ hm)
  have hCf : H2.objs.size ∉ fp := fun hm => by have := hfp _ hm; rw [hC] at this; exact Nat.lt_irrefl _ (Nat.lt_of_succ_lt this)
  have hDX : s₂.heap.objs.size ∉ X := fun hm => Nat.lt_irrefl _ (hX _ hm).1
  have hCX : H2.objs.size ∉ X := fun hm => by have := (hX _ hm).1; rw [hC] at this; exact Nat.lt_irrefl _ (Nat.lt_of_succ_lt this)
  have hfX : ∀ b ∈ fp, b ∉ X := fun b hb hm => (hX b hm).2 hb
  have old : ∀ b o, s₂.heap.get? b = some o → h₁.get? b = some o := fun b o e => hsb₁.extBut b o (below b (Heap.lt_size e)).1 (Heap.get?_push_of_some _ (hH2 ▸ Heap.get?_push_of_some _ e))
  have hacc : h₁.PlainList s₂.heap.objs.size #[] := ⟨_, hsb₁.extBut _ _ hDC (Heap.get?_push_of_some _ (hH2 ▸ Heap.get?_push_size _ rfl))⟩
  have hst₁ : St 0 h₁ := W.frame _ _ _ hst fun b _ o e => old b o e
  have fresh : ∀ a, s₂.heap.objs.size ≤ a → s₂.heap.get? a = none := fun a ha => by
    cases e : s₂.heap.get? a with
    | none => rfl
    | some o' => exact absurd (Heap.lt_size e) (Nat.not_lt.mpr ha)
  have hi1 : Inv 0 [] h₁ := hstab 0 [] _ _ (fun b o e _ _ => old b o e) hi0
  refine codeAny_compStart_list ?key (W.self 0 _ _ _ hst₁ ?key)
  all_goals (
    show codeAny _ _ (.compLoop _ _ _ _ (compEnvC scope cl H2.objs.size env)) _ _
    refine codeAny_compLoop_tests
      (BlkI s₂ St s₂.heap.objs.size H2.objs.size Inv n (fun h' => ∀ b o, b < s₂.heap.objs.size → b ∉ wr → b ∉ X → s₂.heap.get? b = some o → h'.get? b = some o)) ?_ (n + 1)
      ⟨h₁, _, _, [], rfl, hst₁, hacc, hns₁, hi1, Nat.zero_le _, rfl, fun b o _ _ _ e => old b o e⟩
    rintro k s' ⟨H, tk, m', ys, rfl, hst', hacc', hn', hI, hi, rfl, hk⟩
    have hCw : H2.objs.size ∉ wr := fun h => hCf (W.sub _ h)
    have hDw : s₂.heap.objs.size ∉ wr := fun h => hDf (W.sub _ h)
    by_cases hlt : ys.length < n
    · refine W.item ys.length _ _ _ hlt hst' fun v h₂ tk₂ hPv hst₂ hk₂ => ?_
      refine wpAny_assign_Name (wpAny_storeName_local (lookup_relabel_local hx) (hn'.at' fun o e => hk₂ _ o hCw e) (fun h₃ hn₃ hs₃ => ?_) (by simp [compEnvC, relabel, hkind]))
      have up₃ : ∀ b o, b ≠ H2.objs.size → b ∉ wr → H.get? b = some o → h₃.get? b = some o := fun b o hbC hbf e => hs₃.extBut b o hbC (hk₂ b o hbf e)
      have hst₃ : St (ys.length + 1) h₃ := W.frame _ _ _ hst₂ fun b hb o e => hs₃.extBut b o (fun (h : b = H2.objs.size) => hCf (h ▸ hb)) e
      refine wpAny_tests_nil ?_
      simp only [if_true]
      obtain ⟨oC, esC, epC, hoC, hcC, _⟩ := id hn'
      have hI₃ : Inv ys.length ys h₃ := by
        refine hstab _ _ _ _ (fun b o e _ hc => ?_) hI
        have hb : b ∉ wr := fun hb => by
          rcases hc with hc | ⟨vs9, k9, rfl⟩
          · exact absurd hc (Nat.not_lt.mpr (hwn b hb))
          · exact hnt _ _ hst' b hb _ _ e
        refine up₃ b o (fun q => ?_) hb e
        subst q
        rcases hc with hc | hc
        · exact absurd (Nat.lt_of_lt_of_le hc hn1) (by rw [hC]; exact Nat.not_lt.mpr (Nat.le_succ _))
        · obtain ⟨vs9, k9, rfl⟩ := hc
          have q9 := hoC.symm.trans e
          rw [Option.some.inj q9] at hcC; cases hcC
      refine wpAny_mono (helt H2.objs.size ys.length v ys _ _ _ hlt hPv rfl hI₃ hn₃ (by simp) hCle (fun b o hbw hbX e => up₃ b o (below b (Heap.lt_size e)).1 hbw (hk b o (Heap.lt_size e) hbw hbX e))) (fun y s₄ h₄ => ?_) fun _ _ e => e
      obtain ⟨⟨h₄, tk₄, rfl⟩, hbut, hI₄⟩ := h₄
      have hacc₃ : h₃.PlainList s₂.heap.objs.size ys.toArray := hacc'.at fun o e => up₃ _ o hDC hDw e
      refine wpAny_list_append_plain (hsz := by simp; omega) (hacc₃.at fun o e => hbut _ o e hDX) fun h₅ hl₅ hs₅ => ?_
      refine ⟨n + 1 - (ys.length + 1), by omega, h₅, tk₄, _, ys ++ [y], rfl, ?_, by simpa using hl₅, (hn₃.at' fun o e => hbut _ o e hCX).sameBut hs₅ (Ne.symm hDC), ?_, by simp; omega, by simp, fun b o hb hbw hbX e => ?_⟩
      · have := W.frame _ _ h₅ hst₃ fun b hb o e => hs₅.extBut b o (fun h => hDf (h ▸ hb)) (hbut b o e (hfX b hb))
        simpa using this
      · rw [List.length_append, List.length_singleton]
        refine hstab _ _ _ _ (fun b o e hb hc => hs₅.extBut b o (fun q => ?_) e) hI₄
        subst q
        rcases hc with hc | hc
        · exact absurd (Nat.lt_of_lt_of_le hc hn1) (Nat.lt_irrefl _)
        · obtain ⟨k5, e5⟩ := hacc₃.at fun o e => hbut _ o e hDX
          obtain ⟨vs9, k9, rfl⟩ := hc
          rw [e5] at e
          exact absurd (congrArg Obj.cls (Option.some.inj e)) (by simp)
      · exact hs₅.extBut b o (below b hb).2 (hbut b o (up₃ b o (below b hb).1 hbw (hk b o hb hbw hbX e)) hbX)
    · have hin : ys.length = n := by omega
      refine W.done _ _ _ (hin ▸ hst') fun h₂ tk₂ hk₂ => ?_
      obtain ⟨kd, ed⟩ := hacc'.at fun o e => hk₂ _ o hDw e
      refine hRR _ _ _ _ m' ys (Nat.le_refl _) hDC hCle (hn'.at' fun o e => hk₂ _ o hCw e) ⟨kd, ed⟩ hin ?_ fun b o hbw hbX e => hk₂ b o hbw (hk b o (Heap.lt_size e) hbw hbX e)
      rw [← hin]
      exact hstab _ _ _ _ (fun b o e _ hc => hk₂ b o (fun hb => by
          rcases hc with hc | ⟨vs9, k9, rfl⟩
          · exact absurd hc (Nat.not_lt.mpr (hwn b hb))
          · exact hnt _ _ hst' b hb _ _ e) e) hI)
/-- the goal after the iterable of an assigned comprehension that draws; its elements lie in the ground -/
inductive CompTA (prog : Program) (w : World) (A : Around) (env : Env) (scope : Scope) (cl : List (Str × Addr)) (x y : Str) (elt : Expr) (h₀ : Heap) (L : Addr) (m : Str → Option Value) (src : Addr) (Q : Flow → Shared → Prop) (xv : Value) (s₁ : Shared) : Prop
  | mk : ∀ n P base a ta b tb n₁ rest, ∀ (G : Nat → Value → Prop), (IterOk prog w A xv n P base s₁) → (n ≤ 1000) → (src ∉ base) → (Fr h₀ L s₁.heap m) → (News h₀ L s₁.heap ((src, listOf #[.int a ta, .int b tb] n₁) :: rest)) → (0 ≤ a) → (0 ≤ b) → (b < 2147483647) → ((∀ p ∈ rest, p.1 ≠ src)) → ((∀ C i v s₃ m₃ E' a ta b tb n', i < n → P i v → s₃.heap.Ns C m₃ → m₃ x = some v → 0 ≤ a → 0 ≤ b → b < 2147483647 → Fr h₀ L s₃.heap m → News h₀ L s₃.heap ((src, listOf #[.int a ta, .int b tb] n') :: rest) → wpAny (model prog w) A (eval elt (compEnvC scope cl C env)) (EltEnd [src] s₃ fun y h' => G i y ∧ SrcIs h' src) E' s₃)) → ((∀ D h' tk (ys : List Value) k' a ta b tb n', (∀ p ∈ rest, p.1 ≠ D) → D ≠ src → 0 ≤ a → 0 ≤ b → b < 2147483647 → Fr h₀ L h' (fun z => if z = y then some (.ref D) else m z) → News h₀ L h' ((D, listOf ys.toArray k') :: (src, listOf #[.int a ta, .int b tb] n') :: rest) → ys.length = n → (∀ i y, ys[i]? = some y → G i y) → Q .next { s₁ with heap := h', toks := tk })) → CompTA prog w A env scope cl x y elt h₀ L m src Q xv s₁
theorem comp_KTA {src : Addr} (_t : SrcTag src) {s : Shared} {elt iter : Expr} {x y : Str} {px py : Pos} {scope : Scope} {cl : List (Str × Addr)} {pos spos : Pos} {Q : Flow → Shared → Prop} {h₀ : Heap} {L : Addr} {m : Str → Option Value}
    (_F : Fr h₀ L s.heap m) (hLe : env.locals = L) (hsw : swapsWith (.ListComp elt [⟨.Name x px, iter, [], 0⟩] scope pos) (some (.Name y py)) spos.line env = pure true)
    (hclos : closureFor scope env = pure cl) (hcell : ∀ y ∈ scope.names, y.2 ≠ .cell) (hkind : scope.kind = .function)
    (hnames : ∀ y ∈ scope.names, y.2 = .local → scope.names.lookup y.1 = some .local) (hx : scope.names.lookup x = some .local)
    (hy : env.kindOf y = some .local) (hp : (env.scope.kind == .class || (env.scope.kind == .module && env.locals != env.globals)) = false)
    (h : wpAny (model prog w) A (eval iter env) (CompTA prog w A env scope cl x y elt h₀ L m src Q) E s)
    (hs : ∀ x, foldedSetIterable iter env x = pure x := by intro _; rfl) :
    wpAny (model prog w) A (exec (.Assign [.Name y py] (.ListComp elt [⟨.Name x px, iter, [], 0⟩] scope pos) spos) env) Q E s := by
  subst hLe
  rw [exec_Assign_Name_used _ _ _ _ hsw]
  refine wpAny_bind (wpAny_standAt (wpAny_bind ?_))
  show wpAny _ A (do let _ ← comprehension (.ListComp elt [⟨.Name x px, iter, [], 0⟩] scope pos) scope env _ (newList []) false (eval iter env) (some (assign (.Name y py) env))) _ _ s
  refine wpAny_bind (wpAny_mono (wpAny_comprehension_free (use := some (assign (.Name y py) env)) (Q := fun _ s' => Q .next s') rfl hs hclos hkind hnames
    (wpAny_mono h (fun xv s₁ h₁ => ?_) fun _ _ e => e)) (fun _ s' hq => wpAny_pure (wpAny_pure hq)) fun _ _ e => e)
  obtain ⟨n, P, base, a, ta, b, tb, n₁, rest, G, hit, hn, hbs, F, N, ha, hb, hb2, hrs, helt, hdone⟩ := h₁
  refine hit _ _ fun I fp wr St h₂ W hst hfp hwr hszz hfb hnt hk => ?_
  have hM := N (src, listOf #[.int a ta, .int b tb] n₁) (.head _)
  have hlt : src < s₁.heap.objs.size := Heap.lt_size hM.1
  have hwl : ∀ b o, s₁.heap.get? b = some o → b ∉ wr := fun b o e q => absurd (Heap.lt_size e) (Nat.not_lt.mpr (hwr b q))
  have hLlt : env.locals < s₁.heap.objs.size := F.ns.lt
  have hsL : src ≠ env.locals := hM.2.1
  have FX : ∀ h₃ : Heap, But [src] s₁.heap h₃ → Fr h₀ env.locals h₃ m := fun h₃ k => by
    obtain ⟨oL, es, ep, hL, a3⟩ := F.ns
    refine ⟨⟨oL, es, ep, k _ _ hL (fun q => hsL (List.mem_singleton.mp q).symm), a3⟩, fun b o e => k b o (F.keep b o e) fun q => ?_, F.above⟩
    rw [List.mem_singleton.mp q, hM.2.2] at e; cases e
  have NX : ∀ h₃ : Heap, But [src] s₁.heap h₃ → News h₀ env.locals h₃ rest := fun h₃ k p hp => ⟨k _ _ (N p (.tail _ hp)).1 (by simpa using hrs p hp), (N p (.tail _ hp)).2⟩
  have lift : ∀ h₃ : Heap, (∀ b o, b ∉ wr → b ∉ [src] → h₂.get? b = some o → h₃.get? b = some o) → But [src] s₁.heap h₃ := fun h₃ k b o e hb => k b o (hwl b o e) hb (hk b o e)
  have hsf : src ∉ fp := fun q => (hfb _ q).elim (fun q => absurd hlt (Nat.not_lt.mpr (hwr _ q))) hbs
  refine block_G [src] (fun (i : Nat) (ys : List Value) (h : Heap) => (∀ j y, ys[j]? = some y → G j y) ∧ SrcIs h src) s₁.heap.objs.size hcell hkind hx W hszz hwr hnt (Nat.le_trans hn (by decide)) hst hfp
    (fun b hb => by rw [List.mem_singleton.mp hb]; exact ⟨Nat.lt_of_lt_of_le hlt hszz, hsf⟩) ⟨by simp, a, ta, b, tb, n₁, hk _ _ hM.1, ha, hb, hb2⟩ (fun i ys h h' st g => ⟨g.1, g.2.stay fun o e => st src o e (by simp) (.inl hlt)⟩) ?_ ?_
  · rintro C i v ys s₃ m₃ E' hi hp hl' ⟨hI, a', ta', b', tb', n', e', ha', hb', hb2'⟩ hn' hm' _ k
    have kb := lift _ k
    refine wpAny_mono (helt C i v s₃ m₃ E' a' ta' b' tb' n' hi hp hn' hm' ha' hb' hb2' (FX _ kb) fun p hp => ?_) (fun y s₄ h₄ => ⟨h₄.1, h₄.2.1, fun j z hj => ?_, h₄.2.2.2⟩) fun _ _ e => e
    · rcases List.mem_cons.mp hp with rfl | hp
      · exact ⟨e', hM.2⟩
      · exact NX _ kb p hp
    · rcases Nat.lt_trichotomy j ys.length with q | q | q
      · exact hI j z (by rwa [List.getElem?_append_left q] at hj)
      · subst q; simp at hj; subst hj; rw [hl']; exact h₄.2.2.1
      · rw [List.getElem?_eq_none (by rw [List.length_append, List.length_singleton]; omega)] at hj; cases hj
  · rintro D C h tk m' ys hD hDC hC hn' ⟨kd, ed⟩ hl' ⟨hI, a', ta', b', tb', n', e', ha', hb', hb2'⟩ k
    have kb := lift _ k
    have hCL : C ≠ env.locals := fun q => absurd (Nat.lt_of_lt_of_le hLlt hszz) (by rw [← q]; exact Nat.not_lt.mpr hC)
    have hDL : D ≠ env.locals := fun q => absurd (Nat.lt_of_lt_of_le hLlt hszz) (by rw [← q]; exact Nat.not_lt.mpr hD)
    have hCs : C ≠ src := fun q => absurd (Nat.lt_of_lt_of_le hlt hszz) (by rw [← q]; exact Nat.not_lt.mpr hC)
    have hDs : D ≠ src := fun q => absurd (Nat.lt_of_lt_of_le hlt hszz) (by rw [← q]; exact Nat.not_lt.mpr hD)
    have Fh := FX _ kb
    show wpAny _ A (assign (.Name y py) env (.ref D)) _ _ _
    refine wpAny_assign_Name (wpAny_storeName_local hy Fh.ns (fun h₂ hn₂ hs₂ => ?_) hp)
    have hL₀ : h₀.get? env.locals = none := Heap.get?_none_of_le F.above
    have hC₀ : h₀.get? C = none := by
      cases q : h₀.get? C with
      | none => rfl
      | some o => exact absurd (Nat.lt_of_lt_of_le (Heap.lt_size (F.keep _ _ q)) hszz) (Nat.not_lt.mpr hC)
    have hD₀ : h₀.get? D = none := by
      cases q : h₀.get? D with
      | none => rfl
      | some o => exact absurd (Nat.lt_of_lt_of_le (Heap.lt_size (F.keep _ _ q)) hszz) (Nat.not_lt.mpr hD)
    have F₂ : Fr h₀ env.locals h₂ (fun z => if z = y then some (.ref D) else m z) := ⟨hn₂, fun b o e => hs₂.extBut b o (fun q => by rw [q, hL₀] at e; cases e) (Fh.keep b o e), F.above⟩
    refine ⟨m', hn'.sameBut hs₂ hCL, fun h'' hs'' => hdone D h'' _ ys kd a' ta' b' tb' n' (fun p hp q => ?_) hDs ha' hb' hb2' (F₂.change hs'' hCL hC₀) (fun p hp => ?_) hl' hI⟩
    · exact absurd (Nat.lt_of_lt_of_le (Heap.lt_size (N p (.tail _ hp)).1) hszz) (by rw [q]; exact Nat.not_lt.mpr hD)
    · have up : ∀ b o, b ≠ env.locals → b ≠ C → h.get? b = some o → h''.get? b = some o := fun b o h1 h2 e => hs''.extBut b o h2 (hs₂.extBut b o h1 e)
      rcases List.mem_cons.mp hp with rfl | hp
      · exact ⟨up _ _ hDL hDC ed, hDL, hD₀⟩
      · rcases List.mem_cons.mp hp with rfl | hp
        · exact ⟨up _ _ hsL (Ne.symm hCs) e', hM.2⟩
        · have P := NX _ kb p hp
          have hpl : p.1 < h₂.objs.size := by
            have := Heap.lt_size (N p (.tail _ hp)).1
            rw [hs₂.1]
            exact Heap.lt_size P.1
          refine ⟨up _ _ P.2.1 (fun q => ?_) P.1, P.2⟩
          exact absurd (Nat.lt_of_lt_of_le (Heap.lt_size (N p (.tail _ hp)).1) hszz) (by rw [q]; exact Nat.not_lt.mpr hC)
end
end Mine
-- G7
namespace Mine
theorem words15 : True := by
  k_with_none
  (k_with "base k_mem" => first | exact Mine.memAt 0 rfl | exact Mine.memAt 1 rfl | exact Mine.memAt 2 rfl | exact Mine.memAt 3 rfl | exact Mine.memAt 4 rfl | exact Mine.memAt 5 rfl | exact Mine.memAt 6 rfl | exact Mine.memAt 7 rfl | (refine Mine.memSkip 8 rfl ?_; k_mem))
  (k_with "base k_all" => first | exact Mine.allNe (by with_reducible assumption) | with_reducible assumption | exact List.forall_mem_nil _ | (with_reducible refine' Mine.allApp ?a ?b; (case a => k_all); (case b => k_all)) | (refine' List.forall_mem_cons.mpr ⟨?a, ?b⟩; (case a => k_ne); (case b => k_all)) | assumption)
  (k_with "base k_ne" => first | with_reducible assumption | (refine Mine.ne_hi ?_; exact Mine.lt_mem (by with_reducible assumption) (by k_mem)) | exact Mine.neAt (by with_reducible assumption) (by k_mem) | exact Mine.neAt' (by with_reducible assumption) (by k_mem) | (refine Mine.ne_hi ?_; with_reducible first | assumption | exact Mine.pj0 (by assumption) | exact Mine.pj1 (by assumption) | exact Mine.pl1 (by assumption) | exact Mine.pj2 (by assumption) | exact Mine.pl2 (by assumption) | exact Mine.pj3 (by assumption) | exact Mine.pl3 (by assumption) | exact Mine.pj4 (by assumption) | exact Mine.pl4 (by assumption) | exact Mine.pj5 (by assumption) | exact Mine.pl5 (by assumption) | exact Mine.pj6 (by assumption) | exact Mine.pl6 (by assumption) | exact Mine.pj7 (by assumption) | exact Mine.pl7 (by assumption) | exact Mine.pj8 (by assumption) | exact Mine.pj9 (by assumption) | exact Mine.pj10 (by assumption) | exact Mine.pj11 (by assumption) | exact Mine.pj12 (by assumption) | exact Mine.pj13 (by assumption) | exact Mine.pj14 (by assumption)) | exact Ne.symm (by with_reducible assumption) | exact Ne.symm (by assumption) | (refine neN ?_; (try dsimp only); omega))
  (k_with "base k_steps" => (try ((fail_if_success (fail_if_success k_fold)); refine (let Q9z : _ → Shared → Prop := _; (?_ : wpAny _ _ _ Q9z _ _)))); (try ((fail_if_success (fail_if_success (conv in (Shared.mk _ _ _ _ _) => skip))); refine (let s9z : Shared := _; (?_ : wpAny _ _ _ _ _ s9z)))); (try ((with_reducible rename News _ _ _ (List.cons _ _) => N9z); refine (let NW9z : List (Addr × Obj) := _; have N8z : News _ _ _ (Mine.Fold NW9z) := N9z; ?_); clear N9z)); (try ((with_reducible rename Fr _ _ _ (fun _ => ite _ _ _) => F9z); refine (let FM9z : Str → Option Value := _; have F8z : Fr _ _ _ (Mine.Fold FM9z) := F9z; ?_); clear F9z)); repeat' (first | ((fail_if_success (fail_if_success k_unfold)); refine (?_ : wpAny _ _ _ _ _ _); (try ((fail_if_success (fail_if_success k_fold)); refine (let Q9z : _ → Shared → Prop := _; (?_ : wpAny _ _ _ Q9z _ _)))); (try ((fail_if_success (fail_if_success (conv in (Shared.mk _ _ _ _ _) => skip))); refine (let s9z : Shared := _; (?_ : wpAny _ _ _ _ _ s9z))))) | (k_unfold; (try dsimp only)) | (k_end; wrow_close) | ((first | walk1 | (dsimp only; walk1)); (try ((fail_if_success (fail_if_success k_fold)); refine (let Q9z : _ → Shared → Prop := _; (?_ : wpAny _ _ _ Q9z _ _)))); (try ((fail_if_success (fail_if_success (conv in (Shared.mk _ _ _ _ _) => skip))); refine (let s9z : Shared := _; (?_ : wpAny _ _ _ _ _ s9z)))); (try ((with_reducible rename News _ _ _ (List.cons _ _) => N9z); refine (let NW9z : List (Addr × Obj) := _; have N8z : News _ _ _ (Mine.Fold NW9z) := N9z; ?_); clear N9z)); (try ((with_reducible rename Fr _ _ _ (fun _ => ite _ _ _) => F9z); refine (let FM9z : Str → Option Value := _; have F8z : Fr _ _ _ (Mine.Fold FM9z) := F9z; ?_); clear F9z))) | (leave1; walk_say "STEP leave1"; try dsimp only) | fail "no step"))
  (k_with "mine env" => refine (let ev9 : Env := _; let A9 : Around := _; (?_ : wpAny _ A9 (execs _ ev9) _ _ _)))
  (k_with "mine sides" => ((case ho => k_is); (case hcd => k_is); (case hroom => (first | assumption | exact room0 (by assumption) rfl | omega | (dsimp only [Ar]; omega))); (case hbind => exact BindsTo.of_eq rfl); (case hloc => exact locs rfl); (case c2 => exact rfl); (case c3 => exact rfl); (case c4 => exact rfl); (case c5 => decide)))
  (k_with "mine units" => (first | assumption | exact room (j := 1) (by assumption) rfl rfl | exact room (j := 3) (by assumption) rfl rfl | exact room (j := 2) (by assumption) rfl rfl | exact room (j := 4) (by assumption) rfl rfl | exact room (j := 5) (by assumption) rfl rfl | exact room (j := 0) (by assumption) rfl rfl | exact roomj (j := 3) (by assumption) rfl rfl | exact roomj (j := 1) (by assumption) rfl rfl | omega | (dsimp +zetaDelta only [Around.deeper, Ar, Around.in1, Around.mark]; omega)))
  (k_with "spliced" => (k_here; k_dflt (refine' argsM ?a9w ?F9w ?e9w ?_; (case F9w => k_asm); (case a9w => rfl); (case e9w => rfl)); intro s9w157'))
  (k_with "eval Constant str" => (refine constStrM ?_; intro s9w158'))
  (k_with "eval Name" => (k_here; k_dflt (first | ((with_reducible show wpAny _ _ (PySem.eval _ (compEnvC _ _ _ _)) _ _ _); first | (refine' nm_comp ?n9w ?m9w ?_ ?k9w ?l9w ?d9w; (case k9w => with_unfolding_all rfl); (case l9w => with_unfolding_all rfl); (case n9w => assumption); (case m9w => assumption); (case d9w => decide)) | (refine' nm_compC ?N9w ?c9w ?m9w ?d9w ?_ ?k9w ?l9w ?e9w; (case k9w => with_unfolding_all rfl); (case l9w => with_unfolding_all rfl); (case N9w => k_asm); (case c9w => with_unfolding_all rfl); (case m9w => k_mem); (case d9w => k_asm); (case e9w => decide))) | ((fail_if_success (with_reducible show wpAny _ _ (PySem.eval _ (compEnvC _ _ _ _)) _ _ _)); first | (refine' nameS ?a9w ?e9w ?F9w ?_; (case F9w => k_asm); (case a9w => rfl); (case e9w => rfl)) | (refine' nameK ?a9w ?g9w ?F9w ?X9w ?T9w ?e9w ?_; (case a9w => rfl); (case g9w => rfl); (case F9w => k_asm); (case X9w => k_asm); (case T9w => k_asm); (case e9w => k_is); k_whole) | (refine' nameB ?a9w ?g9w ?F9w ?X9w ?T9w ?e9w ?v9w ?n9w ?_; (case a9w => rfl); (case g9w => rfl); (case F9w => k_asm); (case X9w => k_asm); (case T9w => k_asm); (case e9w => k_is); (case v9w => boot_fast); (case n9w => decide); k_whole)))))
  trivial
theorem blkAt_keep {h h' : Heap} (k : ∀ b o, h.get? b = some o → h'.get? b = some o) {v : Value} {b : List Dat × Dat} (r : BlkAt h v b) : BlkAt h' v b := by
  obtain ⟨a, rb, ev, k1, k2, rvs, e, e1, e2, r1, r2⟩ := r
  exact ⟨a, rb, ev, k1, k2, rvs, e, k _ _ e1, k _ _ e2, r1.mono (TLe.of k), r2.mono (TLe.of k)⟩
theorem blksAt_keep {h h' : Heap} (k : ∀ b o, h.get? b = some o → h'.get? b = some o) : ∀ {vs : List Value} {bs : List (List Dat × Dat)}, BlksAt h vs bs → BlksAt h' vs bs
  | [], [], _ => trivial
  | [], _ :: _, e => e.elim
  | _ :: _, [], e => e.elim
  | _ :: _, _ :: _, e => ⟨blkAt_keep k e.1, blksAt_keep k e.2⟩
theorem CodeAt.keep {h h' : Heap} (k : ∀ b o, h.get? b = some o → h'.get? b = some o) {x dx : Addr} {c : CodeD} {es : List DictEntry} {n rl bl : Nat} {rvs bvs : List Value} {k1 k2 : Nat} (C : CodeAt h x dx c es n rl bl rvs bvs k1 k2) : CodeAt h' x dx c es n rl bl rvs bvs k1 k2 :=
  ⟨k _ _ C.inst, k _ _ C.dict, C.ents, k _ _ C.regs, C.regsR.mono (TLe.of k), k _ _ C.blks, blksAt_keep k C.blksR, C.apart⟩
theorem news_new {h₀ h h' : Heap} {L R : Addr} {m : Str → Option Value} {o : Obj} {news : List (Addr × Obj)} (F : Fr h₀ L h m) (N : News h₀ L h news) (k : ∀ b o, h.get? b = some o → h'.get? b = some o) (e : h.get? R = none) (e' : h'.get? R = some o) : News h₀ L h' ((R, o) :: news) := fun p hp => by
  rcases List.mem_cons.mp hp with rfl | hp
  · refine ⟨e', fun q => ?_, ?_⟩
    · obtain ⟨oL, _, _, hL, _⟩ := F.ns
      rw [← q, e] at hL; cases hL
    · cases q : h₀.get? R with
      | none => rfl
      | some o => have := F.keep _ _ q; rw [e] at this; cases this
  · exact N.grown k p hp
noncomputable def JoinBig (x : Str) (xs : List Str) : Prop := ∃ B, (∀ y ∈ xs, y.length ≤ B) ∧ xs.length * (B + x.length) ≤ 15000000
theorem T_joinB {prog : Program} {w : World} {A : Around} {E : Value → Shared → Prop} {s : Shared} {h₀ : Heap} {L : Addr} {news : List (Addr × Obj)} {D : Addr} {ys : List Value} {k : Nat} {xs : List Str} {x : Str} {t : Tok} {Q : Value → Shared → Prop} (N : News h₀ L s.heap news) (hm : (D, listOf ys.toArray k) ∈ news) (hi : StrsAre ys xs) (hj : JoinBig x xs)
    (h : ∀ t' k, (Str.join x xs).length ≤ 15000000 → Q (.str (Str.join x xs) t') { s with toks := k }) : wpAny (model prog w) A (call (.builtin "str.join") [.str x t, .ref D]) Q E s := by
  obtain ⟨B, hB, hok⟩ := hj
  have h1 := len_join x xs B hB
  have h2 := sum_le (fun y => y.length) xs B hB
  rw [Nat.mul_add] at hok h1
  exact join_list (items := ys.toArray) ⟨_, N.get hm, rfl, k, rfl⟩ hi (by omega) fun t' k => by rw [join_eq]; exact h t' k (by omega)
theorem words16 : True := by
  (k_with "call builtin:str.join" => (k_here; k_dflt (refine' T_joinB ?N9w ?m9w ?i9w ?j9w ?_; (case N9w => k_asm); (case m9w => k_mem); (case i9w => assumption); (case j9w => assumption); intro t9w160' k9w160' l9w160')))
  (k_with "call ref" => (k_here; (with_reducible show wpAny _ _ (PySem.call (Value.ref 133) _) _ _ _); refine Halt.mk ?_))
  trivial
theorem code_text_spec {w : World} {mean : ExcName → Option Value} {mg mb : Str → Option Value} {H : Heap} (B : Bs w mean mg mb H) (c : CodeD) (hc : CodeOk c) (hJ : JoinBig (Str.ofString "\n") (crows c)) :
    Sp w H 140 64 260 (fun h args => ∃ x dx es n rl bl rvs bvs k1 k2, args = [.ref x] ∧ H.get? x = none ∧ H.get? dx = none ∧ CodeAt h x dx c es n rl bl rvs bvs k1 k2) (fun h _ h' r => (∃ t, r = .str (Str.join (Str.ofString "\n") (crows c) ++ Str.ofString "\n") t) ∧ But [] h h') := by
  have S0 := code_rows_spec B c hc
  refine Sp.intro ?_
  rintro dp un fr s args R hst hdp hun ⟨x, dx, es, n, rl, bl, rvs, bvs, k1, k2, rfl, hx0, hdx0, C⟩ hR
  refine' enter0 (binds := [(Str.ofString "code", .ref x)]) hst B ?ho ?hcd ?hroom ?hbind ?hloc ?h ?c2 ?c3 ?c4 ?c5
  walk_at "mine sides"
  intro L h₁ F N X T
  (try simp only [List.reverse_cons, List.reverse_nil, List.nil_append, List.cons_append] at F)
  (try dsimp only)
  walk_at "mine env"
  have hcL := cLine_is
  k_steps
  refine Halt.get ?_
  refine' call_sp S0 ?F ?N hst rfl rfl ?d ?u ⟨x, dx, es, n, rl, bl, rvs, bvs, k1, k2, rfl, hx0, hdx0, C.keep F.keep⟩ (fun _ _ p => p.2) ?_
  case F => k_asm
  case N => k_asm
  case d => walk_at "mine units"
  case u => walk_at "mine units"
  intro r' h' tk' F' N' b' p'
  obtain ⟨⟨D, ys, k, rfl, e0, e1, hi⟩, _⟩ := p'
  have N9 := news_new F N (fun b o e => b' b o e (by simp)) e0 e1
  clear F N N'
  have hJ9 := hJ
  k_steps
  all_goals exact hR _ _ _ ⟨⟨_, rfl⟩, fun b o e _ => Fr.keep (by assumption) b o e⟩
end Mine
-- G8
namespace Mine
theorem words17 : True := by
  k_with_none
  (k_with "base k_mem" => first | exact Mine.memAt 0 rfl | exact Mine.memAt 1 rfl | exact Mine.memAt 2 rfl | exact Mine.memAt 3 rfl | exact Mine.memAt 4 rfl | exact Mine.memAt 5 rfl | exact Mine.memAt 6 rfl | exact Mine.memAt 7 rfl | (refine Mine.memSkip 8 rfl ?_; k_mem))
  (k_with "base k_all" => first | exact Mine.allNe (by with_reducible assumption) | with_reducible assumption | exact List.forall_mem_nil _ | (with_reducible refine' Mine.allApp ?a ?b; (case a => k_all); (case b => k_all)) | (refine' List.forall_mem_cons.mpr ⟨?a, ?b⟩; (case a => k_ne); (case b => k_all)) | assumption)
  (k_with "base k_ne" => first | with_reducible assumption | (refine Mine.ne_hi ?_; exact Mine.lt_mem (by with_reducible assumption) (by k_mem)) | exact Mine.neAt (by with_reducible assumption) (by k_mem) | exact Mine.neAt' (by with_reducible assumption) (by k_mem) | (refine Mine.ne_hi ?_; with_reducible first | assumption | exact Mine.pj0 (by assumption) | exact Mine.pj1 (by assumption) | exact Mine.pl1 (by assumption) | exact Mine.pj2 (by assumption) | exact Mine.pl2 (by assumption) | exact Mine.pj3 (by assumption) | exact Mine.pl3 (by assumption) | exact Mine.pj4 (by assumption) | exact Mine.pl4 (by assumption) | exact Mine.pj5 (by assumption) | exact Mine.pl5 (by assumption) | exact Mine.pj6 (by assumption) | exact Mine.pl6 (by assumption) | exact Mine.pj7 (by assumption) | exact Mine.pl7 (by assumption) | exact Mine.pj8 (by assumption) | exact Mine.pj9 (by assumption) | exact Mine.pj10 (by assumption) | exact Mine.pj11 (by assumption) | exact Mine.pj12 (by assumption) | exact Mine.pj13 (by assumption) | exact Mine.pj14 (by assumption)) | exact Ne.symm (by with_reducible assumption) | exact Ne.symm (by assumption) | (refine neN ?_; (try dsimp only); omega))
  (k_with "base k_steps" => (try ((fail_if_success (fail_if_success k_fold)); refine (let Q9z : _ → Shared → Prop := _; (?_ : wpAny _ _ _ Q9z _ _)))); (try ((fail_if_success (fail_if_success (conv in (Shared.mk _ _ _ _ _) => skip))); refine (let s9z : Shared := _; (?_ : wpAny _ _ _ _ _ s9z)))); (try ((with_reducible rename News _ _ _ (List.cons _ _) => N9z); refine (let NW9z : List (Addr × Obj) := _; have N8z : News _ _ _ (Mine.Fold NW9z) := N9z; ?_); clear N9z)); (try ((with_reducible rename Fr _ _ _ (fun _ => ite _ _ _) => F9z); refine (let FM9z : Str → Option Value := _; have F8z : Fr _ _ _ (Mine.Fold FM9z) := F9z; ?_); clear F9z)); repeat' (first | ((fail_if_success (fail_if_success k_unfold)); refine (?_ : wpAny _ _ _ _ _ _); (try ((fail_if_success (fail_if_success k_fold)); refine (let Q9z : _ → Shared → Prop := _; (?_ : wpAny _ _ _ Q9z _ _)))); (try ((fail_if_success (fail_if_success (conv in (Shared.mk _ _ _ _ _) => skip))); refine (let s9z : Shared := _; (?_ : wpAny _ _ _ _ _ s9z))))) | (k_unfold; (try dsimp only)) | (k_end; wrow_close) | ((first | walk1 | (dsimp only; walk1)); (try ((fail_if_success (fail_if_success k_fold)); refine (let Q9z : _ → Shared → Prop := _; (?_ : wpAny _ _ _ Q9z _ _)))); (try ((fail_if_success (fail_if_success (conv in (Shared.mk _ _ _ _ _) => skip))); refine (let s9z : Shared := _; (?_ : wpAny _ _ _ _ _ s9z)))); (try ((with_reducible rename News _ _ _ (List.cons _ _) => N9z); refine (let NW9z : List (Addr × Obj) := _; have N8z : News _ _ _ (Mine.Fold NW9z) := N9z; ?_); clear N9z)); (try ((with_reducible rename Fr _ _ _ (fun _ => ite _ _ _) => F9z); refine (let FM9z : Str → Option Value := _; have F8z : Fr _ _ _ (Mine.Fold FM9z) := F9z; ?_); clear F9z))) | (leave1; walk_say "STEP leave1"; try dsimp only) | fail "no step"))
  (k_with "mine env" => refine (let ev9 : Env := _; let A9 : Around := _; (?_ : wpAny _ A9 (execs _ ev9) _ _ _)))
  (k_with "mine sides" => ((case ho => k_is); (case hcd => k_is); (case hroom => (first | assumption | exact room0 (by assumption) rfl | omega | (dsimp only [Ar]; omega))); (case hbind => exact BindsTo.of_eq rfl); (case hloc => exact locs rfl); (case c2 => exact rfl); (case c3 => exact rfl); (case c4 => exact rfl); (case c5 => decide)))
  (k_with "newList" => (k_here; k_dflt (refine' newListM ?F9w ?N9w ?z9w ?_; (case F9w => k_asm); (case N9w => k_asm); (case z9w => exact Nat.le_of_ble_eq_true rfl)); intro D9w163' h9w163' NW99w163 s9w163' F9w163' N9w163' l19w163; (try k_sweep)))
  (k_with "spliced" => (k_here; k_dflt (refine' argsM ?a9w ?F9w ?e9w ?_; (case F9w => k_asm); (case a9w => rfl); (case e9w => rfl)); intro s9w164'))
  (k_with "eval Constant int" => (refine constIntM ?_; intro s9w165'))
  (k_with "eval Name" => (k_here; k_dflt (first | ((with_reducible show wpAny _ _ (PySem.eval _ (compEnvC _ _ _ _)) _ _ _); first | (refine' nm_comp ?n9w ?m9w ?_ ?k9w ?l9w ?d9w; (case k9w => with_unfolding_all rfl); (case l9w => with_unfolding_all rfl); (case n9w => assumption); (case m9w => assumption); (case d9w => decide)) | (refine' nm_compC ?N9w ?c9w ?m9w ?d9w ?_ ?k9w ?l9w ?e9w; (case k9w => with_unfolding_all rfl); (case l9w => with_unfolding_all rfl); (case N9w => k_asm); (case c9w => with_unfolding_all rfl); (case m9w => k_mem); (case d9w => k_asm); (case e9w => decide))) | ((fail_if_success (with_reducible show wpAny _ _ (PySem.eval _ (compEnvC _ _ _ _)) _ _ _)); first | (refine' nameS ?a9w ?e9w ?F9w ?_; (case F9w => k_asm); (case a9w => rfl); (case e9w => rfl)) | (refine' nameK ?a9w ?g9w ?F9w ?X9w ?T9w ?e9w ?_; (case a9w => rfl); (case g9w => rfl); (case F9w => k_asm); (case X9w => k_asm); (case T9w => k_asm); (case e9w => k_is); k_whole) | (refine' nameB ?a9w ?g9w ?F9w ?X9w ?T9w ?e9w ?v9w ?n9w ?_; (case a9w => rfl); (case g9w => rfl); (case F9w => k_asm); (case X9w => k_asm); (case T9w => k_asm); (case e9w => k_is); (case v9w => boot_fast); (case n9w => decide); k_whole)))))
  (k_with "storeName" => (k_here; k_dflt (refine' storeM ?a9w ?b9w ?F9w ?N9w ?_; (case a9w => rfl); (case b9w => rfl); (case F9w => k_asm); (case N9w => k_asm)); intro h9w167' FM99w167 s9w167' F9w167' N9w167'; (try k_sweep)))
  trivial
theorem pool_x (i : Int) : 0 ≤ (if -1 - i > i then -1 - i else i) := by split <;> omega
theorem pool_a {x : Int} {p : Prop} [Decidable p] (h : 0 ≤ x) : 0 ≤ x * (if p then 1 else 0) := by split <;> simp [h]
theorem pool_b (x : Int) : 0 ≤ Int.fmod x 2147483647 := by rw [Int.fmod_eq_emod_of_nonneg _ (by decide)]; exact Int.emod_nonneg _ (by decide)
theorem pool_c (x : Int) : Int.fmod x 2147483647 < 2147483647 := by rw [Int.fmod_eq_emod_of_nonneg _ (by decide)]; exact Int.emod_lt_of_pos _ (by decide)
/-- the pool: two whole numbers -/
theorem pool_spec {w : World} {mean : ExcName → Option Value} {mg mb : Str → Option Value} {H : Heap} (B : Bs w mean mg mb H) (sl : Addr) (xs : List Int) (vs : List Value) (hi : IntsAre vs xs) (hx : xs.length ≤ 63) :
    Sp w H 156 4 20 (fun h args => args = [.ref sl] ∧ h.IsList sl vs.toArray) (fun h _ h' r => (∃ (R : Addr) (a b : Int) (ta tb : Tok) (n : Nat), r = .ref R ∧ h.get? R = none ∧ h'.get? R = some (listOf #[.int a ta, .int b tb] n) ∧ 0 ≤ a ∧ 0 ≤ b ∧ b < 2147483647) ∧ But [] h h') := by
  refine Sp.intro ?_
  rintro dp un fr s args R hst hdp hun ⟨rfl, hL⟩ hR
  refine' enter0 (binds := [(Str.ofString "script", .ref sl)]) hst B ?ho ?hcd ?hroom ?hbind ?hloc ?h ?c2 ?c3 ?c4 ?c5
  walk_at "mine sides"
  intro L h₁ F N X T
  (try simp only [List.reverse_cons, List.reverse_nil, List.nil_append, List.cons_append] at F)
  (try dsimp only)
  walk_at "mine env"
  have hcL := cLine_is
  k_steps
  all_goals exact hR _ _ _ ⟨⟨_, _, _, _, _, _, rfl, News.fresh (by k_asm) (.head _), News.get (by k_asm) (.head _), pool_a (pool_x _), pool_b _, pool_c _⟩, fun b o e _ => Fr.keep (by assumption) b o e⟩
end Mine
-- B14
namespace Mine
/-- what stands through a block: all but the block's own objects; and every tuple -/
noncomputable def StayS (Sp : List Addr) (h h' : Heap) : Prop := ∀ b o, h.get? b = some o → (b ∉ Sp ∨ ∃ vs k, o = tupO vs k) → h'.get? b = some o
section
variable {prog : Program} {w : World} {A : Around} {E : Value → Shared → Prop} {env : Env}
theorem block_S {s₂ : Shared} {elt iter : Expr} {x : Str} {px : Pos} {scope : Scope} {cl : List (Str × Addr)} {pos : Pos} {I : Addr} {fp wr : List Addr} {n : Nat} {P : Nat → Value → Prop} {St : Nat → Heap → Prop} (X : List Addr) (Inv : List Addr → Nat → List Value → Heap → Prop) (n₁ : Nat) {RR : Value → Addr → Result → Shared → Prop}
    (hcell : ∀ y ∈ scope.names, y.2 ≠ .cell) (hkind : scope.kind = .function) (hx : scope.names.lookup x = some .local)
    (W : Walks prog w A I fp wr n P St) (hn1 : n₁ ≤ s₂.heap.objs.size) (hwn : ∀ b ∈ wr, n₁ ≤ b) (hnt : ∀ i h, St i h → ∀ b ∈ wr, ∀ vs k, h.get? b ≠ some (tupO vs k)) (hwe : ∀ i h, St i h → ∀ b ∈ wr, ∃ o, h.get? b = some o) (hsz : n ≤ sizeLine) (hst : St 0 s₂.heap) (hfp : ∀ b ∈ fp, b < s₂.heap.objs.size)
    (hX : ∀ b ∈ X, b < s₂.heap.objs.size ∧ b ∉ fp) (hi0 : ∀ Sp : List Addr, (∀ b ∈ X, b ∉ Sp) → Inv Sp 0 [] s₂.heap) (hstab : ∀ Sp i ys h h', StayS Sp h h' → Inv Sp i ys h → Inv Sp i ys h')
    (helt : ∀ (Sp : List Addr) C i v ys s₃ m₃ E', (∀ b ∈ X, b ∉ Sp) → (∀ b ∈ Sp, ∃ o, s₃.heap.get? b = some o) → i < n → P i v → ys.length = i → Inv Sp i ys s₃.heap → s₃.heap.Ns C m₃ → m₃ x = some v → s₂.heap.objs.size ≤ C → (∀ b o, b ∉ wr → b ∉ X → s₂.heap.get? b = some o → s₃.heap.get? b = some o) →
        wpAny (model prog w) A (eval elt (compEnvC scope cl C env)) (fun y s₄ => (∃ h' tk', s₄ = { s₃ with heap := h', toks := tk' }) ∧ But X s₃.heap s₄.heap ∧ Inv Sp (i + 1) (ys ++ [y]) s₄.heap) E' s₃)
    (hRR : ∀ (Sp : List Addr) D C h tk m' ys, (∀ b ∈ X, b ∉ Sp) → D ∈ Sp → C ∈ Sp → s₂.heap.objs.size ≤ D → D ≠ C → s₂.heap.objs.size ≤ C → h.Ns C m' → h.PlainList D ys.toArray → ys.length = n → Inv Sp n ys h → (∀ b o, b ∉ wr → b ∉ X → s₂.heap.get? b = some o → h.get? b = some o) → RR (.ref D) C (.ok .next) { s₂ with heap := h, toks := tk }) :
    wpAny (model prog w) A (newList []) (fun acc s₃ => wpAny (model prog w) A (newFunctionEnv scope env.globals cl [] env.qual none .none (some env)) (fun cenv s₄ =>
      codeAny (model prog w) A (.compStart (.ListComp elt [⟨.Name x px, iter, [], 0⟩] scope pos) 0 (.ref I) acc { cenv with scope := relabel scope env }) (RR acc cenv.locals) s₄) E s₃) E s₂ := by
  refine wpAny_newObj_type (wpAny_newFunctionEnv hcell (by intro y hy; simp at hy) (fun h₁ hns₁ hsb₁ => ?_) hkind)
  dsimp only at hns₁ hsb₁ ⊢
  generalize hH2 : s₂.heap.push { cls := .type "list", dict := none, data := .seq ([] : List Value).toArray } = H2 at hns₁ hsb₁ ⊢
  have hC : H2.objs.size = s₂.heap.objs.size + 1 := by rw [← hH2, Heap.size_push]
  have hDC : s₂.heap.objs.size ≠ H2.objs.size := by rw [hC]; exact Nat.ne_of_lt (Nat.lt_succ_self _)
  have hCle : s₂.heap.objs.size ≤ H2.objs.size := by rw [hC]; exact Nat.le_succ _
  have below : ∀ b, b < s₂.heap.objs.size → b ≠ H2.objs.size ∧ b ≠ s₂.heap.objs.size := fun b hb => ⟨by rw [hC]; exact Nat.ne_of_lt (Nat.lt_succ_of_lt hb), Nat.ne_of_lt hb⟩
  have hDf : s₂.heap.objs.size ∉ fp := fun hm => Nat.lt_irrefl _ (hfp _ hm)
  have hCf : H2.objs.size ∉ fp := fun hm => by have := hfp _ hm; rw [hC] at this; exact Nat.lt_irrefl _ (Nat.lt_of_succ_lt this)
  have hDX : s₂.heap.objs.size ∉ X := fun hm => Nat.lt_irrefl _ (hX _ hm).1
  have hCX : H2.objs.size ∉ X := fun hm => by have := (hX _ hm).1; rw [hC] at this; exact Nat.lt_irrefl _ (Nat.lt_of_succ_lt this)
  have hfX : ∀ b ∈ fp, b ∉ X := fun b hb hm => (hX b hm).2 hb
  have old : ∀ b o, s₂.heap.get? b = some o → h₁.get? b = some o := fun b o e => hsb₁.extBut b o (below b (Heap.lt_size e)).1 (Heap.get?_push_of_some _ (hH2 ▸ Heap.get?_push_of_some _ e))
  have hacc : h₁.PlainList s₂.heap.objs.size #[] := ⟨_, hsb₁.extBut _ _ hDC (Heap.get?_push_of_some _ (hH2 ▸ Heap.get?_push_size _ rfl))⟩
  have hst₁ : St 0 h₁ := W.frame _ _ _ hst fun b _ o e => old b o e
  have fresh : ∀ a, s₂.heap.objs.size ≤ a → s₂.heap.get? a = none := fun a ha => by
    cases e : s₂.heap.get? a with
    | none => rfl
    | some o' => exact absurd (Heap.lt_size e) (Nat.not_lt.mpr ha)
  have hXS : ∀ b ∈ X, b ∉ (H2.objs.size :: s₂.heap.objs.size :: wr) := fun b hb q => by
    rcases List.mem_cons.mp q with rfl | q
    · exact hCX hb
    · rcases List.mem_cons.mp q with rfl | q
      · exact hDX hb
      · exact hfX _ (W.sub _ q) hb
  have hi1 : Inv (H2.objs.size :: s₂.heap.objs.size :: wr) 0 [] h₁ := hstab _ 0 [] _ _ (fun b o e _ => old b o e) (hi0 _ hXS)
  refine codeAny_compStart_list ?key (W.self 0 _ _ _ hst₁ ?key)
  all_goals (
    show codeAny _ _ (.compLoop _ _ _ _ (compEnvC scope cl H2.objs.size env)) _ _
    refine codeAny_compLoop_tests
      (BlkI s₂ St s₂.heap.objs.size H2.objs.size (Inv (H2.objs.size :: s₂.heap.objs.size :: wr)) n (fun h' => ∀ b o, b < s₂.heap.objs.size → b ∉ wr → b ∉ X → s₂.heap.get? b = some o → h'.get? b = some o)) ?_ (n + 1)
      ⟨h₁, _, _, [], rfl, hst₁, hacc, hns₁, hi1, Nat.zero_le _, rfl, fun b o _ _ _ e => old b o e⟩
    rintro k s' ⟨H, tk, m', ys, rfl, hst', hacc', hn', hI, hi, rfl, hk⟩
    have hCw : H2.objs.size ∉ wr := fun h => hCf (W.sub _ h)
    have hDw : s₂.heap.objs.size ∉ wr := fun h => hDf (W.sub _ h)
    by_cases hlt : ys.length < n
    · refine W.item ys.length _ _ _ hlt hst' fun v h₂ tk₂ hPv hst₂ hk₂ => ?_
      refine wpAny_assign_Name (wpAny_storeName_local (lookup_relabel_local hx) (hn'.at' fun o e => hk₂ _ o hCw e) (fun h₃ hn₃ hs₃ => ?_) (by simp [compEnvC, relabel, hkind]))
      have up₃ : ∀ b o, b ≠ H2.objs.size → b ∉ wr → H.get? b = some o → h₃.get? b = some o := fun b o hbC hbf e => hs₃.extBut b o hbC (hk₂ b o hbf e)
      have hst₃ : St (ys.length + 1) h₃ := W.frame _ _ _ hst₂ fun b hb o e => hs₃.extBut b o (fun (h : b = H2.objs.size) => hCf (h ▸ hb)) e
      refine wpAny_tests_nil ?_
      simp only [if_true]
      obtain ⟨oC, esC, epC, hoC, hcC, _⟩ := id hn'
      have hI₃ : Inv (H2.objs.size :: s₂.heap.objs.size :: wr) ys.length ys h₃ := by
        refine hstab _ _ _ _ _ (fun b o e hc => ?_) hI
        have hb : b ∉ wr := fun hb => by
          rcases hc with hc | ⟨vs9, k9, rfl⟩
          · exact hc (.tail _ (.tail _ hb))
          · exact hnt _ _ hst' b hb _ _ e
        refine up₃ b o (fun q => ?_) hb e
        subst q
        rcases hc with hc | hc
        · exact hc (.head _)
        · obtain ⟨vs9, k9, rfl⟩ := hc
          have q9 := hoC.symm.trans e
          rw [Option.some.inj q9] at hcC; cases hcC
      have hacc₂ : h₃.PlainList s₂.heap.objs.size ys.toArray := hacc'.at fun o e => up₃ _ o hDC hDw e
      have hSp : ∀ b ∈ (H2.objs.size :: s₂.heap.objs.size :: wr), ∃ o, h₃.get? b = some o := fun b hb => by
        rcases List.mem_cons.mp hb with rfl | hb
        · obtain ⟨o, es, ep, e, _⟩ := hn₃; exact ⟨o, e⟩
        · rcases List.mem_cons.mp hb with rfl | hb
          · obtain ⟨k5, e5⟩ := hacc₂; exact ⟨_, e5⟩
          · exact hwe _ _ hst₃ b hb
      refine wpAny_mono (helt _ H2.objs.size ys.length v ys _ _ _ hXS hSp hlt hPv rfl hI₃ hn₃ (by simp) hCle (fun b o hbw hbX e => up₃ b o (below b (Heap.lt_size e)).1 hbw (hk b o (Heap.lt_size e) hbw hbX e))) (fun y s₄ h₄ => ?_) fun _ _ e => e
      obtain ⟨⟨h₄, tk₄, rfl⟩, hbut, hI₄⟩ := h₄
      have hacc₃ : h₃.PlainList s₂.heap.objs.size ys.toArray := hacc'.at fun o e => up₃ _ o hDC hDw e
      refine wpAny_list_append_plain (hsz := by simp; omega) (hacc₃.at fun o e => hbut _ o e hDX) fun h₅ hl₅ hs₅ => ?_
      refine ⟨n + 1 - (ys.length + 1), by omega, h₅, tk₄, _, ys ++ [y], rfl, ?_, by simpa using hl₅, (hn₃.at' fun o e => hbut _ o e hCX).sameBut hs₅ (Ne.symm hDC), ?_, by simp; omega, by simp, fun b o hb hbw hbX e => ?_⟩
      · have := W.frame _ _ h₅ hst₃ fun b hb o e => hs₅.extBut b o (fun h => hDf (h ▸ hb)) (hbut b o e (hfX b hb))
        simpa using this
      · rw [List.length_append, List.length_singleton]
        refine hstab _ _ _ _ _ (fun b o e hc => hs₅.extBut b o (fun q => ?_) e) hI₄
        subst q
        rcases hc with hc | hc
        · exact hc (.tail _ (.head _))
        · obtain ⟨k5, e5⟩ := hacc₃.at fun o e => hbut _ o e hDX
          obtain ⟨vs9, k9, rfl⟩ := hc
          rw [e5] at e
          exact absurd (congrArg Obj.cls (Option.some.inj e)) (by simp)
      · exact hs₅.extBut b o (below b hb).2 (hbut b o (up₃ b o (below b hb).1 hbw (hk b o hb hbw hbX e)) hbX)
    · have hin : ys.length = n := by omega
      refine W.done _ _ _ (hin ▸ hst') fun h₂ tk₂ hk₂ => ?_
      obtain ⟨kd, ed⟩ := hacc'.at fun o e => hk₂ _ o hDw e
      refine hRR (H2.objs.size :: s₂.heap.objs.size :: wr) _ _ _ _ m' ys hXS (.tail _ (.head _)) (.head _) (Nat.le_refl _) hDC hCle (hn'.at' fun o e => hk₂ _ o hCw e) ⟨kd, ed⟩ hin ?_ fun b o hbw hbX e => hk₂ b o hbw (hk b o (Heap.lt_size e) hbw hbX e)
      rw [← hin]
      exact hstab _ _ _ _ _ (fun b o e hc => hk₂ b o (fun hb => by
          rcases hc with hc | ⟨vs9, k9, rfl⟩
          · exact hc (.tail _ (.tail _ hb))
          · exact hnt _ _ hst' b hb _ _ e) e) hI)
/-- the goal after the iterable of a comprehension over a range that draws: its elements may bring lists of their own -/
inductive CompS (prog : Program) (w : World) (A : Around) (env : Env) (scope : Scope) (cl : List (Str × Addr)) (x : Str) (elt : Expr) (h₀ : Heap) (L : Addr) (m : Str → Option Value) (src : Addr) (Q : Value → Shared → Prop) (xv : Value) (s₁ : Shared) : Prop
  | mk : ∀ r k t u v a ta b tb n₁ rest, ∀ (G : (Addr → Prop) → Nat → Value → Heap → Prop), (xv = .ref r) → (A.handled = none) → (IsRange s₁.heap r 0 ((k : Nat) : Int) 1 t u v) → (k ≤ 1000) → (Fr h₀ L s₁.heap m) → (News h₀ L s₁.heap ((src, listOf #[.int a ta, .int b tb] n₁) :: rest)) → (0 ≤ a) → (0 ≤ b) → (b < 2147483647) → ((∀ p ∈ rest, p.1 ≠ src)) → ((∀ Z i y h h', (∀ b o, h.get? b = some o → (Z b ∨ ∃ vs k, o = tupO vs k) → h'.get? b = some o) → G Z i y h → G Z i y h')) → ((∀ (Z : Addr → Prop) C i t s₃ m₃ E' a ta b tb n', i < k → (∀ b, s₃.heap.get? b = none → Z b) → s₃.heap.Ns C m₃ → m₃ x = some (.int (i : Nat) t) → 0 ≤ a → 0 ≤ b → b < 2147483647 → Fr h₀ L s₃.heap m → News h₀ L s₃.heap ((src, listOf #[.int a ta, .int b tb] n') :: rest) → wpAny (model prog w) A (eval elt (compEnvC scope cl C env)) (EltEnd [src] s₃ fun y h' => G Z i y h' ∧ SrcIs h' src) E' s₃)) → ((∀ (Z : Addr → Prop) D h' tk (ys : List Value) k' a ta b tb n', (∀ b, Z b → b ≠ D ∧ b ≠ src) → (∀ p ∈ rest, p.1 ≠ D) → D ≠ src → 0 ≤ a → 0 ≤ b → b < 2147483647 → Fr h₀ L h' m → News h₀ L h' ((D, listOf ys.toArray k') :: (src, listOf #[.int a ta, .int b tb] n') :: rest) → ys.length = k → (∀ i y, ys[i]? = some y → G Z i y h') → Q (.ref D) { s₁ with heap := h', toks := tk })) → CompS prog w A env scope cl x elt h₀ L m src Q xv s₁
theorem IterR {s : Shared} {r : Addr} {k : Nat} {t u v : Tok} (hh : A.handled = none) (hr : IsRange s.heap r 0 (k : Int) 1 t u v) (hk : k < 2 ^ 20) {Q : Value → Shared → Prop}
    (h : ∀ I St h₂, Walks prog w A I [I] [I] k (fun i v => ∃ t, v = .int (i : Nat) t) St → St 0 h₂ → I = s.heap.objs.size → h₂.objs.size = s.heap.objs.size + 1 → (∀ i h, St i h → ∃ x, h.get? I = some { cls := .type "range_iterator", data := .fields x }) → (∀ b o, s.heap.get? b = some o → h₂.get? b = some o) → Q (.ref I) { s with heap := h₂ }) : wpAny (model prog w) A (pyIter (.ref r)) Q E s := by
  have hsz : Builtin.Range.rangeSize 0 (k : Int) 1 = (k : Int) := by unfold Builtin.Range.rangeSize; rw [if_pos (by decide)]; split <;> omega
  refine wpAny_pyIter_range hr ?_ ?_
  · have q : ∀ i : Int, -(2 ^ 21) ≤ i → i ≤ 2 ^ 21 → Builtin.Range.rangeFitsLong i = true := by
      intro i h1 h2
      unfold Builtin.Range.rangeFitsLong
      simp only [Bool.and_eq_true, decide_eq_true_eq]
      constructor <;> omega
    unfold Builtin.Range.small
    rw [hsz, q 0 (by decide) (by decide), q k (by omega) (by omega), q 1 (by decide) (by decide), if_pos (by decide), q ((k : Int) + (1 - 1)) (by omega) (by omega)]
    simp
  rw [hsz]
  have W := Walks.range (prog := prog) (w := w) hh s.heap.objs.size 0 1 k
  refine h _ _ _ (by simpa only [Int.zero_add, Int.mul_one] using W) ?_ rfl (Heap.size_push ..) ?_ fun b o e => Heap.get?_push_of_some _ e
  · have q : (s.heap.push { cls := .type "range_iterator", data := .fields #[rawInt 0, rawInt (k : Int), rawInt 1] }).get? s.heap.objs.size = some _ := Heap.get?_push_size _ rfl
    simpa [IsRangeIter] using q
  · intro i h' st
    unfold IsRangeIter at st
    exact ⟨_, st⟩
theorem comp_KS {src : Addr} (_t : SrcTag src) {s : Shared} {elt iter : Expr} {x : Str} {px : Pos} {scope : Scope} {cl : List (Str × Addr)} {pos : Pos} {Q : Value → Shared → Prop} {h₀ : Heap} {L : Addr} {m : Str → Option Value}
    (_F : Fr h₀ L s.heap m) (hclos : closureFor scope env = pure cl) (hcell : ∀ y ∈ scope.names, y.2 ≠ .cell) (hkind : scope.kind = .function)
    (hnames : ∀ y ∈ scope.names, y.2 = .local → scope.names.lookup y.1 = some .local) (hx : scope.names.lookup x = some .local)
    (h : wpAny (model prog w) A (eval iter env) (CompS prog w A env scope cl x elt h₀ L m src Q) E s)
    (hs : ∀ x, foldedSetIterable iter env x = pure x := by intro _; rfl) :
    wpAny (model prog w) A (eval (.ListComp elt [⟨.Name x px, iter, [], 0⟩] scope pos) env) Q E s := by
  rw [eval_ListComp]
  refine wpAny_comprehension_free (use := none) rfl hs hclos hkind hnames (wpAny_mono h (fun xv s₁ h₁ => ?_) fun _ _ e => e)
  obtain ⟨r, n, t, u, v, a, ta, b, tb, n₁, rest, G, rfl, hh, hr, hn, F, N, ha, hb, hb2, hrs, hstab, helt, hdone⟩ := h₁
  refine IterR hh hr (by omega) fun I St h₂ W hst hI hsz2 hwe hk => ?_
  have hszz : s₁.heap.objs.size ≤ h₂.objs.size := by rw [hsz2]; exact Nat.le_succ _
  have hwr : ∀ b ∈ [I], s₁.heap.objs.size ≤ b := fun b hb => by rw [List.mem_singleton.mp hb, hI]; exact Nat.le_refl _
  have hM := N (src, listOf #[.int a ta, .int b tb] n₁) (.head _)
  have hlt : src < s₁.heap.objs.size := Heap.lt_size hM.1
  have hwl : ∀ b o, s₁.heap.get? b = some o → b ∉ [I] := fun b o e q => absurd (Heap.lt_size e) (Nat.not_lt.mpr (hwr b q))
  have hsL : src ≠ L := hM.2.1
  have FX : ∀ h₃ : Heap, But [src] s₁.heap h₃ → Fr h₀ L h₃ m := fun h₃ k => by
    obtain ⟨oL, es, ep, hL, a3⟩ := F.ns
    refine ⟨⟨oL, es, ep, k _ _ hL (fun q => hsL (List.mem_singleton.mp q).symm), a3⟩, fun b o e => k b o (F.keep b o e) fun q => ?_, F.above⟩
    rw [List.mem_singleton.mp q, hM.2.2] at e; cases e
  have NX : ∀ h₃ : Heap, But [src] s₁.heap h₃ → News h₀ L h₃ rest := fun h₃ k p hp => ⟨k _ _ (N p (.tail _ hp)).1 (by simpa using hrs p hp), (N p (.tail _ hp)).2⟩
  have lift : ∀ h₃ : Heap, (∀ b o, b ∉ [I] → b ∉ [src] → h₂.get? b = some o → h₃.get? b = some o) → But [src] s₁.heap h₃ := fun h₃ k b o e hb => k b o (hwl b o e) hb (hk b o e)
  have hsf : src ∉ [I] := fun q => absurd hlt (Nat.not_lt.mpr (hwr _ q))
  refine block_S [src] (fun Sp (i : Nat) (ys : List Value) (h : Heap) => src ∉ Sp ∧ (∀ j y, ys[j]? = some y → G (fun b => b ∉ src :: Sp) j y h) ∧ SrcIs h src) s₁.heap.objs.size hcell hkind hx W hszz hwr
    (fun i h st b hb vs k q => ?_) (fun i h st b hb => ?_) (Nat.le_trans hn (by decide)) hst (fun b hb => ?_)
    (fun b hb => by rw [List.mem_singleton.mp hb]; exact ⟨Nat.lt_of_lt_of_le hlt hszz, hsf⟩) (fun Sp hX9 => ⟨hX9 _ (.head _), by simp, a, ta, b, tb, n₁, hk _ _ hM.1, ha, hb, hb2⟩) (fun Sp i ys h h' st g => ?_) ?_ ?_
  · obtain ⟨x, e⟩ := hwe i h st
    rw [List.mem_singleton.mp hb, e] at q
    have q9 := congrArg Obj.cls (Option.some.inj q); simp at q9
  · obtain ⟨x, e⟩ := hwe i h st
    rw [List.mem_singleton.mp hb]; exact ⟨_, e⟩
  · rw [List.mem_singleton.mp hb, hI, hsz2]; exact Nat.lt_succ_self _
  · obtain ⟨hsp, g1, g2⟩ := g
    refine ⟨hsp, fun j y e => hstab _ _ _ _ _ (fun b o e hc => st b o e (hc.imp (fun q q2 => q (.tail _ q2)) id)) (g1 j y e), g2.stay fun o e => st src o e (.inl hsp)⟩
  · rintro Sp C i v ys s₃ m₃ E' _ hSp hi ⟨t9, rfl⟩ hl' ⟨hsp, hI3, a', ta', b', tb', n', e', ha', hb', hb2'⟩ hn' hm' _ k
    have kb := lift _ k
    refine wpAny_mono (helt (fun b => b ∉ src :: Sp) C i t9 s₃ m₃ E' a' ta' b' tb' n' hi (fun b e q => ?_) hn' hm' ha' hb' hb2' (FX _ kb) fun p hp => ?_) (fun y s₄ h₄ => ⟨h₄.1, h₄.2.1, hsp, fun j z hj => ?_, h₄.2.2.2⟩) fun _ _ e => e
    · rcases List.mem_cons.mp q with rfl | q
      · rw [e'] at e; cases e
      · obtain ⟨o, e2⟩ := hSp _ q
        rw [e] at e2; cases e2
    · rcases List.mem_cons.mp hp with rfl | hp
      · exact ⟨e', hM.2⟩
      · exact NX _ kb p hp
    · obtain ⟨⟨h4, tk4, rfl⟩, hb4, hg4, _⟩ := h₄
      rcases Nat.lt_trichotomy j ys.length with q | q | q
      · refine hstab _ _ _ _ _ (fun b o e hc => hb4 b o e (fun q2 => ?_)) (hI3 j z (by rwa [List.getElem?_append_left q] at hj))
        rw [List.mem_singleton.mp q2] at e hc
        rcases hc with hc | ⟨vs, k, rfl⟩
        · exact hc (.head _)
        · rw [e'] at e
          have q9 := congrArg Obj.cls (Option.some.inj e); simp at q9
      · subst q; simp at hj; subst hj; rw [hl']; exact hg4
      · rw [List.getElem?_eq_none (by rw [List.length_append, List.length_singleton]; omega)] at hj; cases hj
  · rintro Sp D C h tk m' ys _ hDSp hCSp hD hDC hC hn' ⟨kd, ed⟩ hl' ⟨hsp, hI3, a', ta', b', tb', n', e', ha', hb', hb2'⟩ k
    have kb := lift _ k
    have hCs : C ≠ src := fun q => absurd (Nat.lt_of_lt_of_le hlt hszz) (by rw [← q]; exact Nat.not_lt.mpr hC)
    have hDs : D ≠ src := fun q => absurd (Nat.lt_of_lt_of_le hlt hszz) (by rw [← q]; exact Nat.not_lt.mpr hD)
    have hLlt : L < s₁.heap.objs.size := F.ns.lt
    have hCL : C ≠ L := fun q => absurd (Nat.lt_of_lt_of_le hLlt hszz) (by rw [← q]; exact Nat.not_lt.mpr hC)
    have hDL : D ≠ L := fun q => absurd (Nat.lt_of_lt_of_le hLlt hszz) (by rw [← q]; exact Nat.not_lt.mpr hD)
    have none0 : ∀ a, h₂.objs.size ≤ a → h₀.get? a = none := fun a ha => by
      cases q : h₀.get? a with
      | none => rfl
      | some o => exact absurd (Nat.lt_of_lt_of_le (Heap.lt_size (F.keep _ _ q)) hszz) (Nat.not_lt.mpr ha)
    have Fh := FX _ kb
    refine ⟨m', hn', fun h'' hs'' => hdone (fun b => b ∉ src :: Sp) D h'' tk ys kd a' ta' b' tb' n' (fun b hb => ⟨fun q => hb (by rw [q]; exact .tail _ hDSp), fun q => hb (by rw [q]; exact .head _)⟩) (fun p hp q => ?_) hDs ha' hb' hb2' (Fh.change hs'' hCL (none0 _ hC)) (fun p hp => ?_) hl' fun i y e => ?_⟩
    · exact absurd (Nat.lt_of_lt_of_le (Heap.lt_size (N p (.tail _ hp)).1) hszz) (by rw [q]; exact Nat.not_lt.mpr hD)
    · rcases List.mem_cons.mp hp with rfl | hp
      · exact ⟨hs''.extBut _ _ hDC ed, hDL, none0 _ hD⟩
      · rcases List.mem_cons.mp hp with rfl | hp
        · exact ⟨hs''.extBut _ _ (Ne.symm hCs) e', hM.2⟩
        · have P := NX _ kb p hp
          refine ⟨hs''.extBut _ _ (fun q => ?_) P.1, P.2⟩
          exact absurd (Nat.lt_of_lt_of_le (Heap.lt_size (N p (.tail _ hp)).1) hszz) (by rw [q]; exact Nat.not_lt.mpr hC)
    · obtain ⟨oC, esC, epC, hoC, hcC, _⟩ := id hn'
      refine hstab _ _ _ _ _ (fun b o e hc => hs''.extBut b o (fun q => ?_) e) (hI3 i y e)
      subst q
      rcases hc with hc | ⟨vs, k, rfl⟩
      · exact hc (.tail _ hCSp)
      · have q9 := hoC.symm.trans e
        rw [Option.some.inj q9] at hcC; cases hcC
end
end Mine
-- B15
namespace Mine
/-- the goal after the iterable of a for loop over a range; its ledger may grow -/
inductive ForR (prog : Program) (w : World) (A : Around) (env : Env) (x : Str) (body : List Stmt) (h₀ : Heap) (L : Addr) (Q : Flow → Shared → Prop) (xv : Value) (s₁ : Shared) : Prop
  | mk : ∀ r k t u v m₀ news₀, ∀ (J : Nat → (Str → Option Value) → List (Addr × Obj) → Prop), (xv = .ref r) → (A.handled = none) → (IsRange s₁.heap r 0 ((k : Nat) : Int) 1 t u v) → (k ≤ 1000) → (Fr h₀ L s₁.heap m₀) → (News h₀ L s₁.heap news₀) → (J 0 m₀ news₀) → ((∀ i m nw, J i m nw → ∀ p ∈ nw, ∀ x, p.2.data ≠ .fields x)) → ((∀ i t m₁ news₁ own s₃ E', i < k → J i m₁ news₁ → (∀ p ∈ own, ∃ x, p.2.data = .fields x) → Fr h₀ L s₃.heap (fun y => if y = x then some (.int (i : Nat) t) else m₁ y) → News h₀ L s₃.heap (news₁ ++ own) → (∃ h tk, s₃ = { s₁ with heap := h, toks := tk }) → wpAny (model prog w) A (execs body env) (ForEnd h₀ L (J (i + 1)) own s₃ Q) E' s₃)) → ((∀ m₁ news₁ h tk, J k m₁ news₁ → Fr h₀ L h m₁ → News h₀ L h news₁ → Q .next { s₁ with heap := h, toks := tk })) → ForR prog w A env x body h₀ L Q xv s₁
theorem own_ne {h₀ h : Heap} {L a : Addr} {news own : List (Addr × Obj)} {its : Array Value} {n : Nat} (N : News h₀ L h (news ++ own)) (ho : ∀ p ∈ own, ∃ x, p.2.data = .fields x) (hm : (a, listOf its n) ∈ news) : ∀ p ∈ own, p.1 ≠ a := fun p hp q => by
  have h1 := (N p (List.mem_append_right _ hp)).1
  have h2 := (N _ (List.mem_append_left _ hm)).1
  obtain ⟨x, e⟩ := ho p hp
  rw [q] at h1
  have h3 : p.2 = listOf its n := Option.some.inj (h1.symm.trans h2)
  rw [h3] at e; cases e
section
variable {prog : Program} {w : World} {A : Around} {E : Value → Shared → Prop} {env : Env}
theorem for_R {s : Shared} {x : Str} {px pos : Pos} {iter : Expr} {body : List Stmt} {Q : Flow → Shared → Prop} {h₀ : Heap} {L : Addr} (hL : env.locals = L) (hx : env.kindOf x = some .local) (hp : (env.scope.kind == .class || (env.scope.kind == .module && env.locals != env.globals)) = false)
    {m : Str → Option Value} (_F : Fr h₀ L s.heap m) (h : wpAny (model prog w) A (eval iter env) (ForR prog w A env x body h₀ L Q) E s)
    (hs : ∀ x, foldedSetIterable iter env x = pure x := by intro _; rfl) :
    wpAny (model prog w) A (exec (.For (.Name x px) iter body [] pos) env) Q E s := by
  refine wpAny_For (wpAny_mono h (fun xv s₁ h₁ => ?_) fun _ _ e => e) hs
  obtain ⟨r, n, t, u, v, m₀, news₀, J, rfl, hh, hr, hn, F, N, hj, hfld, turn, done⟩ := h₁
  subst hL
  refine IterR hh hr (by omega) fun I St h₂ W hst hI hsz2 hwe hk => ?_
  have hLlt : env.locals < s₁.heap.objs.size := F.ns.lt
  have hLI : env.locals ≠ I := by rw [hI]; exact Nat.ne_of_lt hLlt
  have hI0 : h₀.get? I = none := by
    cases q : h₀.get? I with
    | none => rfl
    | some o => exact absurd (Heap.lt_size (F.keep _ _ q)) (by rw [hI]; exact Nat.lt_irrefl _)
  have hh₀ : ∀ b o, h₀.get? b = some o → b ∉ [I] := fun b o e q => by rw [List.mem_singleton.mp q, hI0] at e; cases e
  have hnwI : ∀ {i m₁ nw h}, J i m₁ nw → St i h → News h₀ env.locals h nw → ∀ p ∈ nw, p.1 ∉ [I] := fun {i m₁ nw h} hj st N p hp q => by
    obtain ⟨x, e⟩ := hwe _ _ st
    have h1 := (N p hp).1
    rw [List.mem_singleton.mp q, e] at h1
    exact hfld _ _ _ hj p hp x (by rw [← Option.some.inj h1])
  refine codeAny_forLoop (ForI s₁ n St h₀ env.locals J) ?_ (n + 1)
    ⟨0, m₀, news₀, h₂, _, rfl, Nat.zero_le _, rfl, hst, F.keptAll hk, N.grown hk, hj⟩
  rintro k s' ⟨i, m₁, news₁, h, tk, rfl, hi, rfl, hst', F', N', hj'⟩
  have hnw := hnwI hj' hst' N'
  by_cases hin : i < n
  · refine W.item i _ _ _ hin hst' fun v h₃ tk₃ hPv hst₃ hk₃ => ?_
    obtain ⟨t9, rfl⟩ := hPv
    have F₃ : Fr h₀ env.locals h₃ m₁ := ⟨F'.ns.at' fun o e => hk₃ _ o (by simpa using hLI) e, fun b o e => hk₃ b o (hh₀ b o e) (F'.keep b o e), F'.above⟩
    have N₃ : News h₀ env.locals h₃ news₁ := fun p hp => ⟨hk₃ _ _ (hnw p hp) (N' p hp).1, (N' p hp).2⟩
    refine wpAny_assign_Name (wpAny_storeName_local hx F₃.ns (fun h₄ hn₄ hs₄ => ?_) hp)
    have F₄ := F₃.set hn₄ hs₄
    have N₄ := N₃.set hs₄
    have hst₄ : St (i + 1) h₄ := W.frame _ _ _ hst₃ fun b hb o e => hs₄.extBut b o (fun q => hLI (by rw [← q]; exact List.mem_singleton.mp hb)) e
    obtain ⟨xI, eI⟩ := hwe _ _ hst₄
    have NO : News h₀ env.locals h₄ (news₁ ++ [(I, { cls := .type "range_iterator", data := .fields xI })]) := fun p hp => by
      rcases List.mem_append.mp hp with hp | hp
      · exact N₄ p hp
      · rw [List.mem_singleton.mp hp]; exact ⟨eI, Ne.symm hLI, hI0⟩
    refine wpAny_mono (turn i t9 m₁ news₁ [(I, { cls := .type "range_iterator", data := .fields xI })] _ _ hin hj' (fun p hp => by rw [List.mem_singleton.mp hp]; exact ⟨_, rfl⟩) F₄ NO ⟨_, _, rfl⟩) (fun f s₅ h₅ => ?_) fun _ _ e => e
    have fin : (∃ h' tk' m' news' , s₅ = { s₁ with heap := h', toks := tk' } ∧ Fr h₀ env.locals h' m' ∧ News h₀ env.locals h' (news' ++ [(I, { cls := .type "range_iterator", data := .fields xI })]) ∧ J (i + 1) m' news') →
        ∃ mm, mm < n + 1 - i ∧ ForI s₁ n St h₀ env.locals J mm s₅ := by
      rintro ⟨h', tk', m', news', e, F5, N5, j5⟩
      refine ⟨n + 1 - (i + 1), by omega, i + 1, m', news', h', tk', e, hin, rfl, W.frame _ _ _ hst₄ fun b hb o e => ?_, F5, News.app_left N5, j5⟩
      rw [List.mem_singleton.mp hb] at e ⊢
      rw [eI] at e; cases e
      exact (News.app_right N5 _ (.head _)).1
    cases f with
    | next => exact fin h₅
    | cont => exact fin h₅
    | brk => exact h₅
    | ret v => exact h₅
  · have hin' : i = n := by omega
    subst hin'
    refine W.done _ _ _ hst' fun h₃ tk₃ hk₃ => ?_
    refine wpAny_execs_nil ?_
    exact done m₁ news₁ h₃ tk₃ hj' ⟨F'.ns.at' fun o e => hk₃ _ o (by simpa using hLI) e, fun b o e => hk₃ b o (hh₀ b o e) (F'.keep b o e), F'.above⟩ fun p hp => ⟨hk₃ _ _ (hnw p hp) (N' p hp).1, (N' p hp).2⟩
end
end Mine
-- B16
namespace Mine
section
variable {prog : Program} {w : World} {A : Around} {E : Value → Shared → Prop} {env : Env}
theorem block_P {s₂ : Shared} {elt iter : Expr} {x x₂ : Str} {px px₂ tp : Pos} {tk9 : Nat} {scope : Scope} {cl : List (Str × Addr)} {pos : Pos} {It : Addr} {fp wr : List Addr} {n : Nat} {Pt : Nat → Array Value → Prop} {St : Nat → Heap → Prop} {Mid : Nat → Addr → Heap → Prop} {I : Nat → List Value → Prop} {RR : Value → Addr → Result → Shared → Prop}
    (hh : A.handled = none) (hcell : ∀ y ∈ scope.names, y.2 ≠ .cell) (hkind : scope.kind = .function) (hx : scope.names.lookup x = some .local) (hx₂ : scope.names.lookup x₂ = some .local) (hxx : x ≠ x₂)
    (W : WalksU prog w A It fp wr n Pt St Mid) (hst : St 0 s₂.heap) (hfp : ∀ b ∈ fp, b < s₂.heap.objs.size) (hsz : n ≤ sizeLine) (hi0 : I 0 []) (hlen : ∀ i ys, I i ys → ys.length ≤ i) (hpair : ∀ i vals, Pt i vals → ∃ v₁ v₂, vals = #[v₁, v₂])
    (helt : ∀ C i v₁ v₂ ys s₃ m₃ E', i < n → Pt i #[v₁, v₂] → I i ys → s₃.heap.Ns C m₃ → m₃ x = some v₁ → m₃ x₂ = some v₂ → s₂.heap.objs.size ≤ C → (∀ b o, b ∉ wr → s₂.heap.get? b = some o → s₃.heap.get? b = some o) →
        wpAny (model prog w) A (eval elt (compEnvC scope cl C env)) (EltEnd [] s₃ fun y _ => I (i + 1) (ys ++ [y])) E' s₃)
    (hRR : ∀ D C h tk m' ys, s₂.heap.objs.size ≤ D → D ≠ C → s₂.heap.objs.size ≤ C → h.Ns C m' → h.PlainList D ys.toArray → I n ys → (∀ b o, b ∉ wr → s₂.heap.get? b = some o → h.get? b = some o) → RR (.ref D) C (.ok .next) { s₂ with heap := h, toks := tk }) :
    wpAny (model prog w) A (newList []) (fun acc s₃ => wpAny (model prog w) A (newFunctionEnv scope env.globals cl [] env.qual none .none (some env)) (fun cenv s₄ =>
      codeAny (model prog w) A (.compStart (.ListComp elt [⟨.Tuple [.Name x px, .Name x₂ px₂] tk9 tp, iter, [], 0⟩] scope pos) 0 (.ref It) acc { cenv with scope := relabel scope env }) (RR acc cenv.locals) s₄) E s₃) E s₂ := by
  refine wpAny_newObj_type (wpAny_newFunctionEnv hcell (by intro y hy; simp at hy) (fun h₁ hns₁ hsb₁ => ?_) hkind)
  dsimp only at hns₁ hsb₁ ⊢
  generalize hH2 : s₂.heap.push { cls := .type "list", dict := none, data := .seq ([] : List Value).toArray } = H2 at hns₁ hsb₁ ⊢
  have hC : H2.objs.size = s₂.heap.objs.size + 1 := by rw [← hH2, Heap.size_push]
  have hDC : s₂.heap.objs.size ≠ H2.objs.size := by rw [hC]; exact Nat.ne_of_lt (Nat.lt_succ_self _)
  have hCle : s₂.heap.objs.size ≤ H2.objs.size := by rw [hC]; exact Nat.le_succ _
  have below : ∀ b, b < s₂.heap.objs.size → b ≠ H2.objs.size ∧ b ≠ s₂.heap.objs.size := fun b hb => ⟨by rw [hC]; exact Nat.ne_of_lt (Nat.lt_succ_of_lt hb), Nat.ne_of_lt hb⟩
  have hDf : s₂.heap.objs.size ∉ fp := fun hm => Nat.lt_irrefl _ (hfp _ hm)
  have hCf : H2.objs.size ∉ fp := fun hm => by have := hfp _ hm; rw [hC] at this; exact Nat.lt_irrefl _ (Nat.lt_of_succ_lt this)
  have old : ∀ b o, s₂.heap.get? b = some o → h₁.get? b = some o := fun b o e => hsb₁.extBut b o (below b (Heap.lt_size e)).1 (Heap.get?_push_of_some _ (hH2 ▸ Heap.get?_push_of_some _ e))
  have hacc : h₁.PlainList s₂.heap.objs.size #[] := ⟨_, hsb₁.extBut _ _ hDC (Heap.get?_push_of_some _ (hH2 ▸ Heap.get?_push_size _ rfl))⟩
  have hst₁ : St 0 h₁ := W.frame _ _ _ hst fun b _ o e => old b o e
  refine codeAny_compStart_list ?key (W.self 0 _ _ _ hst₁ ?key)
  all_goals (
    show codeAny _ _ (.compLoop _ _ _ _ (compEnvC scope cl H2.objs.size env)) _ _
    refine LCp.codeAny_compLoop_pair
      (BlkT s₂ St s₂.heap.objs.size H2.objs.size I n (fun h' => ∀ b o, b ∉ wr → s₂.heap.get? b = some o → h'.get? b = some o)) ?_ (n + 1)
      ⟨0, h₁, _, _, [], rfl, hst₁, hacc, hns₁, hi0, Nat.zero_le _, rfl, fun b o _ e => old b o e⟩
    rintro k s' ⟨i, H, tk, m', ys, rfl, hst', hacc', hn', hI, hi, rfl, hbut⟩
    have hCw : H2.objs.size ∉ wr := fun h => hCf (W.sub _ h)
    have hDw : s₂.heap.objs.size ∉ wr := fun h => hDf (W.sub _ h)
    by_cases hlt : i < n
    · refine W.item i _ _ _ hlt hst' fun T vals h₂ tk₂ hPv hT hM hk₂ => ?_
      obtain ⟨v₁, v₂, rfl⟩ := hpair i vals hPv
      refine W.go _ _ _ i T _ _ _ hM fun h₄ hst₄ hk₄ => ?_
      have hTw := W.apart i T _ hM
      have hT₄ : h₄.IsTuple T #[v₁, v₂] := hT.at fun o e => hk₄ _ o hTw e
      refine assign_Tuple_tuple hh hT₄ rfl rfl fun h₅ he => ?_
      have he' : ∀ b o, h₄.get? b = some o → h₅.get? b = some o := fun b o e => he b o (Nat.ne_of_lt (Heap.lt_size e)) e
      have up₅ : ∀ b o, b ∉ wr → H.get? b = some o → h₅.get? b = some o := fun b o hb e => he' b o (hk₄ b o hb (hk₂ b o hb e))
      refine assignInOrder_cons (wpAny_assign_Name (wpAny_storeName_local (lookup_relabel_local hx) (hn'.at' fun o e => up₅ _ o hCw e) (fun h₆ hn₆ hs₆ => ?_) (by simp [compEnvC, relabel, hkind])))
      refine assignInOrder_cons (wpAny_assign_Name (wpAny_storeName_local (lookup_relabel_local hx₂) hn₆ (fun h₃ hn₃ hs₃ => ?_) (by simp [compEnvC, relabel, hkind])))
      refine assignInOrder_nil ?_
      have old3 : ∀ b o, b ≠ H2.objs.size → h₅.get? b = some o → h₃.get? b = some o := fun b o hb e => hs₃.extBut b o hb (hs₆.extBut b o hb e)
      have hst₃ : St (i + 1) h₃ := W.frame _ _ _ hst₄ fun b hb o e => old3 b o (fun q => hCf (by rw [← q]; exact hb)) (he' b o e)
      have up₃ : ∀ b o, b ≠ H2.objs.size → b ∉ wr → H.get? b = some o → h₃.get? b = some o := fun b o hbC hbf e => old3 b o hbC (up₅ b o hbf e)
      have b₃ : ∀ b o, b ∉ wr → s₂.heap.get? b = some o → h₃.get? b = some o := fun b o hbw e => up₃ b o (below b (Heap.lt_size e)).1 hbw (hbut b o hbw e)
      have hacc₃ : h₃.PlainList s₂.heap.objs.size ys.toArray := hacc'.at fun o e => up₃ _ o hDC hDw e
      refine wpAny_mono (helt H2.objs.size i v₁ v₂ ys _ _ _ hlt hPv hI hn₃ (by simp [hxx]) (by simp) hCle b₃) (fun y s₅ h₅ => ?_) fun _ _ e => e
      obtain ⟨⟨h₇, tk₇, rfl⟩, hb5, hI5⟩ := h₅
      have hys : ys.length ≤ i := hlen i ys hI
      refine wpAny_list_append_plain (hsz := by simp; omega) (hacc₃.at fun o e => hb5 _ o e (by simp)) fun h₆ hl₆ hs₆ => ?_
      refine ⟨n + 1 - (i + 1), by omega, i + 1, h₆, tk₇, _, ys ++ [y], rfl, ?_, by simpa using hl₆, (hn₃.at' fun o e => hb5 _ o e (by simp)).sameBut hs₆ (Ne.symm hDC), hI5, hlt, rfl, fun b o hbw e => ?_⟩
      · exact W.frame _ _ h₆ hst₃ fun b hb o e => hs₆.extBut b o (fun h => hDf (h ▸ hb)) (hb5 b o e (by simp))
      · exact hs₆.extBut b o (below b (Heap.lt_size e)).2 (hb5 b o (b₃ b o hbw e) (by simp))
    · have hin : i = n := by omega
      subst hin
      refine W.done _ _ _ hst' fun h₃ tk₂ hk₂ => ?_
      obtain ⟨kd, ed⟩ := hacc'.at fun o e => hk₂ _ o hDw e
      exact hRR _ _ _ _ m' ys (Nat.le_refl _) hDC hCle (hn'.at' fun o e => hk₂ _ o hCw e) ⟨kd, ed⟩ hI fun b o hbw e => hk₂ b o hbw (hbut b o hbw e))
end
end Mine
-- B17
namespace Mine
section
variable {prog : Program} {w : World} {A : Around} {E : Value → Shared → Prop} {env : Env}
/-- the goal after the iterable of a comprehension over a list of pairs -/
inductive CompPL (prog : Program) (w : World) (A : Around) (env : Env) (scope : Scope) (cl : List (Str × Addr)) (x x₂ : Str) (elt : Expr) (h₀ : Heap) (L : Addr) (m : Str → Option Value) (Q : Value → Shared → Prop) (xv : Value) (s₁ : Shared) : Prop
  | list : ∀ (ax : Addr) (ps : List (Addr × Value × Value)) (k : Nat) (news : List (Addr × Obj)) (I : Nat → List Value → Prop), xv = .ref ax → A.handled = none → Fr h₀ L s₁.heap m → News h₀ L s₁.heap news → s₁.heap.get? ax = some (listOf (ps.map fun p => Value.ref p.1).toArray k) →
    (∀ p ∈ ps, s₁.heap.get? p.1 = some { cls := .type "tuple", data := .seq #[p.2.1, p.2.2] }) → ps.length ≤ 1000 → I 0 [] → (∀ i ys, I i ys → ys.length ≤ i) →
    (∀ C i p ys s₃ m₃ E', ps[i]? = some p → I i ys → s₃.heap.Ns C m₃ → m₃ x = some p.2.1 → m₃ x₂ = some p.2.2 → Fr h₀ L s₃.heap m → News h₀ L s₃.heap news →
      wpAny (model prog w) A (eval elt (compEnvC scope cl C env)) (EltEnd [] s₃ fun y _ => I (i + 1) (ys ++ [y])) E' s₃) →
    (∀ D h' tk (ys : List Value) k', (∀ p ∈ news, p.1 ≠ D) → Fr h₀ L h' m → News h₀ L h' ((D, listOf ys.toArray k') :: news) → I ps.length ys → Q (.ref D) { s₁ with heap := h', toks := tk }) → CompPL prog w A env scope cl x x₂ elt h₀ L m Q xv s₁
  | enum : ∀ (e it l : Addr) (vs : List Value) (news : List (Addr × Obj)) (I : Nat → List Value → Prop), xv = .ref e → A.handled = none → Fr h₀ L s₁.heap m → News h₀ L s₁.heap news → IsEnum s₁.heap e it 0 .none → s₁.heap.IsListIter it l 0 → s₁.heap.IsList l vs.toArray → e ≠ it → l ≠ e → l ≠ it → h₀.get? e = none → h₀.get? it = none → L ≠ e → L ≠ it → (∀ p ∈ news, p.1 ≠ e ∧ p.1 ≠ it) →
    vs.length ≤ 1000 → I 0 [] → (∀ i ys, I i ys → ys.length ≤ i) →
    (∀ C i t v ys s₃ m₃ E', vs[i]? = some v → I i ys → s₃.heap.Ns C m₃ → m₃ x = some (.int (i : Nat) t) → m₃ x₂ = some v → Fr h₀ L s₃.heap m → News h₀ L s₃.heap news →
      wpAny (model prog w) A (eval elt (compEnvC scope cl C env)) (EltEnd [] s₃ fun y _ => I (i + 1) (ys ++ [y])) E' s₃) →
    (∀ D h' tk (ys : List Value) k', (∀ p ∈ news, p.1 ≠ D) → Fr h₀ L h' m → News h₀ L h' ((D, listOf ys.toArray k') :: news) → I vs.length ys → Q (.ref D) { s₁ with heap := h', toks := tk }) → CompPL prog w A env scope cl x x₂ elt h₀ L m Q xv s₁
theorem comp_KPL {s : Shared} {elt iter : Expr} {x x₂ : Str} {px px₂ tp : Pos} {tk9 : Nat} {scope : Scope} {cl : List (Str × Addr)} {pos : Pos} {Q : Value → Shared → Prop} {h₀ : Heap} {L : Addr} {m : Str → Option Value}
    (_F : Fr h₀ L s.heap m) (hclos : closureFor scope env = pure cl) (hcell : ∀ y ∈ scope.names, y.2 ≠ .cell) (hkind : scope.kind = .function)
    (hnames : ∀ y ∈ scope.names, y.2 = .local → scope.names.lookup y.1 = some .local) (hx : scope.names.lookup x = some .local) (hx₂ : scope.names.lookup x₂ = some .local) (hxx : x ≠ x₂)
    (h : wpAny (model prog w) A (eval iter env) (CompPL prog w A env scope cl x x₂ elt h₀ L m Q) E s)
    (hs : ∀ x, foldedSetIterable iter env x = pure x := by intro _; rfl) :
    wpAny (model prog w) A (eval (.ListComp elt [⟨.Tuple [.Name x px, .Name x₂ px₂] tk9 tp, iter, [], 0⟩] scope pos) env) Q E s := by
  rw [eval_ListComp]
  refine wpAny_comprehension_free (use := none) rfl hs hclos hkind hnames (wpAny_mono h (fun xv s₁ h₁ => ?_) fun _ _ e => e)
  have fin : ∀ {news : List (Addr × Obj)} {s₂ : Shared} {D C : Addr} {h : Heap} {m' : Str → Option Value} {ys : List Value} {tk : Nat} {Q' : Value → Shared → Prop}, Fr h₀ L h m → News h₀ L h news → (∀ p ∈ news, p.1 < s₂.heap.objs.size) → L < s₂.heap.objs.size → s₂.heap.objs.size ≤ D → D ≠ C → s₂.heap.objs.size ≤ C → h.Ns C m' → h.PlainList D ys.toArray → (∀ a, s₂.heap.objs.size ≤ a → h₀.get? a = none) →
      (∀ k' h'', (∀ p ∈ news, p.1 ≠ D) → Fr h₀ L h'' m → News h₀ L h'' ((D, listOf ys.toArray k') :: news) → Q' (.ref D) { s₂ with heap := h'', toks := tk }) → compPost (model prog w) A E none Q' (.ref D) C (.ok .next) { s₂ with heap := h, toks := tk } := by
    intro news s₂ D C h m' ys tk Q' F N hnw hLs hD hDC hC hn ⟨kd, ed⟩ none0 hQ
    have hCL : C ≠ L := fun q => absurd hLs (by rw [← q]; exact Nat.not_lt.mpr hC)
    have hDL : D ≠ L := fun q => absurd hLs (by rw [← q]; exact Nat.not_lt.mpr hD)
    refine ⟨m', hn, fun h'' hs'' => hQ kd h'' (fun p hp q => absurd (hnw p hp) (by rw [q]; exact Nat.not_lt.mpr hD)) (F.change hs'' hCL (none0 _ hC)) fun p hp => ?_⟩
    rcases List.mem_cons.mp hp with rfl | hp
    · exact ⟨hs''.extBut _ _ hDC ed, hDL, none0 _ hD⟩
    · exact ⟨hs''.extBut _ _ (fun q => absurd (hnw p hp) (by rw [q]; exact Nat.not_lt.mpr hC)) (N p hp).1, (N p hp).2⟩
  obtain ⟨ax, ps, k, news, I, rfl, hh, F, N, hax, hps, hl, hi0, hlen, helt, hQ⟩ | ⟨e, it, l, vs, news, I, rfl, hh, F, N, hE, hIt, hLs, hei, hle, hli, he0, hi00, hLe, hLi, hnw, hl, hi0, hlen, helt, hQ⟩ := h₁
  · have hL1 : s₁.heap.IsList ax (ps.map fun p => Value.ref p.1).toArray := ⟨_, hax, rfl, _, rfl⟩
    have hlt := Heap.lt_size hax
    refine wpAny_pyIter_list hL1 ?_
    have up : ∀ b o, s₁.heap.get? b = some o → (s₁.heap.push { cls := .type "list_iterator", data := .fields #[.ref ax, .int 0 0] }).get? b = some o := fun b o e => Heap.get?_push_of_some _ e
    have hz : (ps.map fun p => Value.ref p.1).toArray.size = ps.length := by simp
    have W := WalksU.listOfTuples (prog := prog) (w := w) hh s₁.heap.objs.size ax (Nat.ne_of_lt hlt) (ps.map fun p => Value.ref p.1).toArray (fun j => ((ps[j]?).map fun p => p.1).getD 0) (fun j => ((ps[j]?).map fun p => #[p.2.1, p.2.2]).getD #[]) (fun j hj => by rw [hz] at hj; simp [List.getElem?_eq_getElem hj]) (fun j hj => by
      rw [hz] at hj
      simp only [List.getElem?_eq_getElem hj, Option.map_some, Option.getD_some]
      exact Nat.ne_of_lt (Heap.lt_size (hps _ (List.getElem_mem hj))))
    rw [hz] at W
    have W := W.bound
    have Fk : ∀ {h' : Heap}, (∀ b o, b ∉ [s₁.heap.objs.size] → (s₁.heap.push { cls := .type "list_iterator", data := .fields #[.ref ax, .int 0 0] }).get? b = some o → h'.get? b = some o) → ∀ b o, s₁.heap.get? b = some o → h'.get? b = some o := fun k b o e => k b o (fun q => by rw [List.mem_singleton.mp q] at e; exact absurd (Heap.lt_size e) (Nat.lt_irrefl _)) (up b o e)
    refine block_P (I := I) hh hcell hkind hx hx₂ hxx W ⟨⟨_, Heap.get?_push_size _ rfl, rfl, rfl⟩, hL1.push _, fun k hk => ?_⟩ (fun b hb => ?_) (Nat.le_trans hl (by decide)) hi0 hlen (fun i vals hv => ?_) ?_ ?_
    · simp only [List.getElem?_eq_getElem hk, Option.map_some, Option.getD_some]
      exact ⟨_, up _ _ (hps _ (List.getElem_mem hk)), rfl, _, rfl⟩
    · show b < (s₁.heap.push _).objs.size
      rw [Heap.size_push]
      rcases List.mem_cons.mp hb with rfl | hb
      · exact Nat.lt_succ_self _
      · rcases List.mem_cons.mp hb with rfl | hb
        · exact Nat.lt_succ_of_lt hlt
        · obtain ⟨j, hj, rfl⟩ := List.mem_map.mp hb
          have hj := List.mem_range.mp hj
          simp only [List.getElem?_eq_getElem hj, Option.map_some, Option.getD_some]
          exact Nat.lt_succ_of_lt (Heap.lt_size (hps _ (List.getElem_mem hj)))
    · obtain ⟨hi, rfl⟩ := hv
      simp only [List.getElem?_eq_getElem hi, Option.map_some, Option.getD_some]
      exact ⟨_, _, rfl⟩
    · intro C i v₁ v₂ ys s₃ m₃ E' hi hv hI hn h1 h2 _ kb
      obtain ⟨_, hv⟩ := hv
      simp only [List.getElem?_eq_getElem hi, Option.map_some, Option.getD_some] at hv
      have e1 : v₁ = ps[i].2.1 := by injection hv with hv; injection hv with h1 h2
      have e2 : v₂ = ps[i].2.2 := by injection hv with hv; injection hv with h1 h2; injection h2
      exact helt C i ps[i] ys s₃ m₃ E' (List.getElem?_eq_getElem hi) hI hn (e1 ▸ h1) (e2 ▸ h2) (F.keptAll (Fk kb)) (N.grown (Fk kb))
    · intro D C h tk m' ys hD hDC hC hn hpl hI kb
      have hsz : s₁.heap.objs.size ≤ (s₁.heap.push { cls := .type "list_iterator", data := .fields #[.ref ax, .int 0 0] }).objs.size := by rw [Heap.size_push]; exact Nat.le_succ _
      exact fin (news := news) (F.keptAll (Fk kb)) (N.grown (Fk kb)) (fun p hp => Nat.lt_of_lt_of_le (Heap.lt_size (N p hp).1) hsz) (Nat.lt_of_lt_of_le F.ns.lt hsz) hD hDC hC hn hpl (fun a ha => by
        cases q : h₀.get? a with
        | none => rfl
        | some o => exact absurd (Nat.lt_of_lt_of_le (Heap.lt_size (F.keep _ _ q)) hsz) (Nat.not_lt.mpr ha)) fun k' h'' a b c => hQ D h'' tk ys k' a b c hI
  · have W := (WalksT.enumerate (prog := prog) (w := w) hh e it l hei hle hli vs.toArray).toU
    rw [show vs.toArray.size = vs.length by simp] at W
    refine wpAny_pyIter_enum hE ?_
    have Fk : ∀ {h' : Heap}, (∀ b o, b ∉ [e, it] → s₁.heap.get? b = some o → h'.get? b = some o) → Fr h₀ L h' m ∧ News h₀ L h' news := fun k => by
      refine ⟨⟨F.ns.at' fun o q => k _ o (by simp [hLe, hLi]) q, fun b o q => k b o (fun q2 => ?_) (F.keep b o q), F.above⟩, fun p hp => ⟨k _ _ (by simpa using hnw p hp) (N p hp).1, (N p hp).2⟩⟩
      simp only [List.mem_cons, List.not_mem_nil, or_false] at q2
      rcases q2 with rfl | rfl
      · rw [he0] at q; cases q
      · rw [hi00] at q; cases q
    refine block_P (I := I) hh hcell hkind hx hx₂ hxx W ⟨⟨_, hE⟩, hIt, hLs⟩ (fun b hb => ?_) (Nat.le_trans hl (by decide)) hi0 hlen (fun i vals hv => ?_) ?_ ?_
    · simp only [List.mem_cons, List.not_mem_nil, or_false] at hb
      rcases hb with rfl | rfl | rfl
      · exact Heap.lt_size hE
      · obtain ⟨_, q, _⟩ := hIt; exact Heap.lt_size q
      · obtain ⟨_, q, _⟩ := hLs; exact Heap.lt_size q
    · obtain ⟨t, x, _, rfl⟩ := hv
      exact ⟨_, _, rfl⟩
    · intro C i v₁ v₂ ys s₃ m₃ E' hi hv hI hn h1 h2 _ kb
      obtain ⟨t, x9, hx9, hv⟩ := hv
      have e1 : v₁ = .int (i : Nat) t := by injection hv with hv; injection hv with h1 h2
      have e2 : v₂ = x9 := by injection hv with hv; injection hv with h1 h2; injection h2
      subst e1; subst e2
      exact helt C i t v₂ ys s₃ m₃ E' (by simpa using hx9) hI hn h1 h2 (Fk kb).1 (Fk kb).2
    · intro D C h tk m' ys hD hDC hC hn hpl hI kb
      exact fin (news := news) (Fk kb).1 (Fk kb).2 (fun p hp => Heap.lt_size (N p hp).1) F.ns.lt hD hDC hC hn hpl (fun a ha => by
        cases q : h₀.get? a with
        | none => rfl
        | some o => exact absurd (Heap.lt_size (F.keep _ _ q)) (Nat.not_lt.mpr ha)) fun k' h'' a b c => hQ D h'' tk ys k' a b c hI
theorem T_enum {s : Shared} {h₀ : Heap} {L l : Addr} {m : Str → Option Value} {news : List (Addr × Obj)} {vs : List Value} {k : Nat} {Q : Value → Shared → Prop} (F : Fr h₀ L s.heap m) (N : News h₀ L s.heap news) (hm : (l, listOf vs.toArray k) ∈ news)
    (h : ∀ e it h', Fr h₀ L h' m → News h₀ L h' news → IsEnum h' e it 0 .none → h'.IsListIter it l 0 → e ≠ it → h₀.get? e = none → h₀.get? it = none → L ≠ e → L ≠ it → (∀ p ∈ news, p.1 ≠ e ∧ p.1 ≠ it) → Q (.ref e) { s with heap := h' }) :
    wpAny (model prog w) A (call (.type "enumerate") [.ref l]) Q E s :=
  call_enumerate_list (isList_of N hm) fun h' hE hI _ k => by
    have none0 : ∀ a, s.heap.objs.size ≤ a → h₀.get? a = none := fun a ha => by
      cases q : h₀.get? a with
      | none => rfl
      | some o => exact absurd (Heap.lt_size (F.keep _ _ q)) (Nat.not_lt.mpr ha)
    exact h _ _ h' (F.keptAll k) (N.grown k) hE hI (Nat.succ_ne_self _) (none0 _ (Nat.le_succ _)) (none0 _ (Nat.le_refl _)) (Nat.ne_of_lt (Nat.lt_succ_of_lt F.ns.lt)) (Nat.ne_of_lt F.ns.lt)
      fun p hp => ⟨Nat.ne_of_lt (Nat.lt_succ_of_lt (Heap.lt_size (N p hp).1)), Nat.ne_of_lt (Heap.lt_size (N p hp).1)⟩
end
end Mine
-- B18
namespace Mine
noncomputable def RangeTok : Prop := True
noncomputable def ListTok : Prop := True
/-- a row at its place: its datum and the list of its registers -/
noncomputable def RowAt (Z : Addr → Prop) (h : Heap) (v : Value) (r : Dat × List Int) : Prop := RowR (fun d ns => d = r.1 ∧ ns = r.2) Z h v
noncomputable def RowsAt (Z : Addr → Prop) (h : Heap) : List Value → List (Dat × List Int) → Prop
  | [], [] => True
  | v :: vs, r :: rs => RowAt Z h v r ∧ RowsAt Z h vs rs
  | _, _ => False
theorem RowR.at_ {P : Dat → List Int → Prop} {Z : Addr → Prop} {h : Heap} {v : Value} (r : RowR P Z h v) : ∃ q : Dat × List Int, RowAt Z h v q ∧ P q.1 q.2 := by
  obtain ⟨t, rowv, l, row, ys, ns, n, e, e1, rd, e2, hi, hp, hz⟩ := r
  exact ⟨(row, ns), ⟨t, rowv, l, row, ys, ns, n, e, e1, rd, e2, hi, ⟨rfl, rfl⟩, hz⟩, hp⟩
theorem rowsAt_of {P : Dat → List Int → Prop} {Z : Addr → Prop} {h : Heap} : ∀ {ys : List Value}, (∀ (i : Nat) (y : Value), ys[i]? = some y → RowR P Z h y) → ∃ rs, RowsAt Z h ys rs ∧ ∀ r ∈ rs, P r.1 r.2
  | [], _ => ⟨[], trivial, by simp⟩
  | y :: ys, H => by
    obtain ⟨q, a, b⟩ := (H 0 y rfl).at_
    obtain ⟨rs, c, d⟩ := rowsAt_of (ys := ys) fun i z e => H (i + 1) z (by simpa using e)
    exact ⟨q :: rs, ⟨a, c⟩, fun r hr => (List.mem_cons.mp hr).elim (fun e => e ▸ b) (d r)⟩
theorem RowsAt.length {Z : Addr → Prop} {h : Heap} : ∀ {vs : List Value} {rs : List (Dat × List Int)}, RowsAt Z h vs rs → vs.length = rs.length
  | [], [], _ => rfl
  | [], _ :: _, e => e.elim
  | _ :: _, [], e => e.elim
  | _ :: _, _ :: _, e => by simp [RowsAt.length e.2]
theorem RowsAt.append {Z : Addr → Prop} {h : Heap} : ∀ {vs vs' : List Value} {rs rs' : List (Dat × List Int)}, RowsAt Z h vs rs → RowsAt Z h vs' rs' → RowsAt Z h (vs ++ vs') (rs ++ rs')
  | [], _, [], _, _, r => r
  | [], _, _ :: _, _, e, _ => e.elim
  | _ :: _, _, [], _, e, _ => e.elim
  | _ :: _, _, _ :: _, _, e, r => ⟨e.1, RowsAt.append e.2 r⟩
theorem RowsAt.weak {Z Z' : Addr → Prop} {h : Heap} (k : ∀ l, Z l → Z' l) : ∀ {vs : List Value} {rs : List (Dat × List Int)}, RowsAt Z h vs rs → RowsAt Z' h vs rs
  | [], [], _ => trivial
  | [], _ :: _, e => e.elim
  | _ :: _, [], e => e.elim
  | _ :: _, _ :: _, e => ⟨RowR.weak k (fun _ _ p => p) e.1, RowsAt.weak k e.2⟩
theorem RowR.stay {P : Dat → List Int → Prop} {Z : Addr → Prop} {h h' : Heap} {v : Value} (k : ∀ b o, h.get? b = some o → (Z b ∨ ∃ vs n, o = tupO vs n) → h'.get? b = some o) (r : RowR P Z h v) : RowR P Z h' v := by
  obtain ⟨t, rowv, l, row, ys, ns, n, e, e1, rd, e2, hi, hp, hz⟩ := r
  exact ⟨t, rowv, l, row, ys, ns, n, e, k _ _ e1 (.inr ⟨[_, _], _, rfl⟩), rd.mono fun a vs n e => k _ _ e (.inr ⟨_, _, rfl⟩), k _ _ e2 (.inl hz), hi, hp, hz⟩
theorem rowN_footB {P : Dat → List Int → Prop} {Z : Addr → Prop} {bad : List Addr} {h : Heap} {v : Value} (hZ : ∀ l, Z l → l ∉ bad) (r : RowR P Z h v) (hs : ∀ a ∈ bad, ∃ its n, h.get? a = some (listOf its n)) : ∃ fp : List (Addr × Obj), (∀ p ∈ fp, h.get? p.1 = some p.2 ∧ (∃ vs n, p.2.data = .seq vs n) ∧ p.1 ∉ bad) ∧ ∀ h' : Heap, (∀ p ∈ fp, h'.get? p.1 = some p.2) → RowR P Z h' v := by
  obtain ⟨t, rowv, l, row, ys, ns, n, rfl, e1, rd, e2, hi, hp, hz⟩ := r
  have hl := hZ l hz
  obtain ⟨fp, h1, h2⟩ := rd_foot rd
  have hne : ∀ (a : Addr) (vs : Array Value) (k : Nat), h.get? a = some { cls := .type "tuple", data := .seq vs k } → a ∉ bad := fun a vs k e q => by
    obtain ⟨its, k2, e3⟩ := hs a q
    rw [e3] at e
    have q9 := congrArg Obj.cls (Option.some.inj e); simp at q9
  refine ⟨(t, { cls := .type "tuple", data := .seq #[rowv, .ref l] }) :: (l, listOf ys.toArray n) :: fp, fun p hp => ?_, fun h' k => ?_⟩
  · rcases List.mem_cons.mp hp with rfl | hp
    · exact ⟨e1, ⟨_, _, rfl⟩, hne _ _ _ e1⟩
    · rcases List.mem_cons.mp hp with rfl | hp
      · exact ⟨e2, ⟨_, _, rfl⟩, hl⟩
      · obtain ⟨a, vs, k, e⟩ := h1 p hp
        exact ⟨a, ⟨_, _, by rw [e]⟩, hne p.1 vs.toArray k (by rw [a, e])⟩
  · exact ⟨t, rowv, l, row, ys, ns, n, rfl, k _ (.head _), h2 h' fun p hp => k p (.tail _ (.tail _ hp)), k _ (.tail _ (.head _)), hi, hp, hz⟩
theorem rowsAt_foot {Z : Addr → Prop} {bad : List Addr} {h : Heap} (hZ : ∀ l, Z l → l ∉ bad) (hs : ∀ a ∈ bad, ∃ its n, h.get? a = some (listOf its n)) : ∀ {vs : List Value} {rs : List (Dat × List Int)}, RowsAt Z h vs rs → ∃ fp : List (Addr × Obj), (∀ p ∈ fp, h.get? p.1 = some p.2 ∧ (∃ vs n, p.2.data = .seq vs n) ∧ p.1 ∉ bad) ∧ ∀ h' : Heap, (∀ p ∈ fp, h'.get? p.1 = some p.2) → RowsAt Z h' vs rs
  | [], [], _ => ⟨[], by simp, fun _ _ => trivial⟩
  | [], _ :: _, e => e.elim
  | _ :: _, [], e => e.elim
  | v :: vs, r :: rs, e => by
    obtain ⟨f1, a1, b1⟩ := rowN_footB hZ e.1 hs
    obtain ⟨f2, a2, b2⟩ := rowsAt_foot hZ hs e.2
    refine ⟨f1 ++ f2, fun p hp => ?_, fun h' k => ⟨b1 h' fun p hp => k p (List.mem_append_left _ hp), b2 h' fun p hp => k p (List.mem_append_right _ hp)⟩⟩
    rcases List.mem_append.mp hp with hp | hp
    · exact a1 p hp
    · exact a2 p hp
/-- rows, frozen: wherever the ground and the entries stand -/
noncomputable def RowsZ (g : Heap) (tl : List (Addr × Obj)) (vs : List Value) (rs : List (Dat × List Int)) : Prop := ∀ h', Keeps g tl h' → RowsAt (fun _ => True) h' vs rs
noncomputable def NotFld (p : Addr × Obj) : Prop := ∀ x, p.2.data ≠ .fields x
theorem rows_freeze {Z : Addr → Prop} {g h : Heap} {L : Addr} {m : Str → Option Value} {bad : List Addr} {vs : List Value} {rs : List (Dat × List Int)} (F : Fr g L h m) (hs : ∀ a ∈ bad, ∃ its n, h.get? a = some (listOf its n)) (hZ : ∀ l, Z l → l ∉ bad) (r : RowsAt Z h vs rs) :
    ∃ tl, News g L h tl ∧ (∀ p ∈ tl, p.1 ∉ bad) ∧ (∀ p ∈ tl, NotFld p) ∧ RowsZ g tl vs rs := by
  obtain ⟨fp, h1, h2⟩ := rowsAt_foot hZ hs r
  obtain ⟨N2, k2⟩ := foot_newsL F (fp := fp) fun p hp => ⟨(h1 p hp).1, (h1 p hp).2.1⟩
  refine ⟨_, N2, fun p hp => (h1 p (List.mem_filter.mp hp).1).2.2, fun p hp x q => ?_, fun h' q => RowsAt.weak (fun _ _ => trivial) (h2 h' (k2 h' q.1 q.2))⟩
  obtain ⟨a, b, c⟩ := (h1 p (List.mem_filter.mp hp).1).2.1
  rw [c] at q; cases q
theorem RowsZ.mono {g : Heap} {tl tl' : List (Addr × Obj)} {vs : List Value} {rs : List (Dat × List Int)} (k : ∀ p ∈ tl, p ∈ tl') (a : RowsZ g tl vs rs) : RowsZ g tl' vs rs := fun h' q => a h' (q.mono k)
/-- a block drawn: its rows and its end -/
noncomputable abbrev BD := List (Dat × List Int) × (Dat × List Int)
inductive DueE
  | head (x : Str)
  | row (d : Dat) (ns : List Int)
noncomputable def DueAt (h : Heap) (v : Value) : DueE → Prop
  | .head x => ∃ t tk n, v = .ref t ∧ h.get? t = some { cls := .type "tuple", data := .seq #[.str x tk, .none] n }
  | .row d ns => RowAt (fun _ => True) h v (d, ns)
noncomputable def DuesAt (h : Heap) : List Value → List DueE → Prop
  | [], [] => True
  | v :: vs, r :: rs => DueAt h v r ∧ DuesAt h vs rs
  | _, _ => False
noncomputable def headE (i : Nat) : Str := Str.ofString " b" ++ sInt i ++ Str.ofString ":"
noncomputable def dues1 (i : Nat) (b : BD) : List DueE := .head (headE i) :: ((b.1 ++ [b.2]).map fun r => .row r.1 r.2)
noncomputable def dues (bs : List BD) : List DueE := (bs.mapIdx dues1).flatten
noncomputable def blkOf (b : BD) : List Dat × Dat := (b.1.map (·.1), b.2.1)
structure BDOk (b : BD) : Prop where
  len : b.1.length ≤ 4
  rows : ∀ r ∈ b.1, InsRow r.1 r.2
  fin : EndRow b.2.1 b.2.2
theorem DuesAt.append {h : Heap} : ∀ {vs vs' : List Value} {rs rs' : List DueE}, DuesAt h vs rs → DuesAt h vs' rs' → DuesAt h (vs ++ vs') (rs ++ rs')
  | [], _, [], _, _, r => r
  | [], _, _ :: _, _, e, _ => e.elim
  | _ :: _, _, [], _, e, _ => e.elim
  | _ :: _, _, _ :: _, _, e, r => ⟨e.1, DuesAt.append e.2 r⟩
theorem DuesAt.rows {h : Heap} : ∀ {vs : List Value} {rs : List (Dat × List Int)}, RowsAt (fun _ => True) h vs rs → DuesAt h vs (rs.map fun r => .row r.1 r.2)
  | [], [], _ => trivial
  | [], _ :: _, e => e.elim
  | _ :: _, [], e => e.elim
  | _ :: _, _ :: _, e => ⟨e.1, DuesAt.rows e.2⟩
theorem BlksAt.append {h : Heap} : ∀ {vs vs' : List Value} {rs rs' : List (List Dat × Dat)}, BlksAt h vs rs → BlksAt h vs' rs' → BlksAt h (vs ++ vs') (rs ++ rs')
  | [], _, [], _, _, r => r
  | [], _, _ :: _, _, e, _ => e.elim
  | _ :: _, _, [], _, e, _ => e.elim
  | _ :: _, _, _ :: _, _, e, r => ⟨e.1, BlksAt.append e.2 r⟩
/-- blocks and dues, frozen -/
noncomputable def BlksZ (g : Heap) (tl : List (Addr × Obj)) (vs : List Value) (bs : List BD) : Prop := ∀ h', Keeps g tl h' → BlksAt h' vs (bs.map blkOf)
noncomputable def DuesZ (g : Heap) (tl : List (Addr × Obj)) (vs : List Value) (ds : List DueE) : Prop := ∀ h', Keeps g tl h' → DuesAt h' vs ds
theorem dues_snoc (bs : List BD) (b : BD) : dues (bs ++ [b]) = dues bs ++ dues1 bs.length b := by
  unfold dues
  rw [List.mapIdx_append]
  simp
theorem upd3 {m₀ : Str → Option Value} {x1 x2 x3 : Str} {v : Option Value} (h : m₀ x3 = v) : m₀ = fun y => if y = x1 then m₀ x1 else if y = x2 then m₀ x2 else if y = x3 then v else m₀ y := by
  funext y
  show m₀ y = ite _ _ _
  split
  · rename_i q; rw [q]
  split
  · rename_i q; rw [q]
  split
  · rename_i q; rw [q, h]
  · rfl
theorem upd3' {m₀ : Str → Option Value} {x1 x2 x3 : Str} {a b c a' b' c' : Option Value} (h12 : x1 ≠ x2) (h13 : x1 ≠ x3) (h23 : x2 ≠ x3) : (fun y => if y = x3 then c else if y = x2 then b else if y = x1 then a else if y = x1 then a' else if y = x2 then b' else if y = x3 then c' else m₀ y) = fun y => if y = x1 then a else if y = x2 then b else if y = x3 then c else m₀ y := by
  funext y
  by_cases h1 : y = x1
  · simp [h1, h12, h13]
  by_cases h2 : y = x2
  · simp [h2, h23, h12.symm]
  by_cases h3 : y = x3
  · simp [h3, h13.symm, h23.symm]
  · simp [h1, h2, h3]
noncomputable abbrev nBlock : Str := Str.ofString "block"
noncomputable abbrev nRows : Str := Str.ofString "rows"
noncomputable abbrev nDue : Str := Str.ofString "due"
/-- the loop over blocks: what stands ahead of turn i -/
inductive LoopJ (H : Heap) (Db Dr src C : Addr) (rO cO : Obj) (m0 : Str → Option Value) (i : Nat) (m : Str → Option Value) (nw : List (Addr × Obj)) : Prop
  | mk : ∀ (bs : List BD) (bvs dvs : List Value) (Dd : Addr) (kb kd : Nat) (a : Int) (ta : Tok) (b : Int) (tb : Tok) (n : Nat) (tl : List (Addr × Obj)) (rv bv : Option Value), (bs.length = i) → ((∀ b ∈ bs, BDOk b)) → (0 ≤ a) → (0 ≤ b) → (b < 2147483647) → (m = (fun y => if y = nBlock then bv else if y = nRows then rv else if y = nDue then some (.ref Dd) else m0 y)) → (nw = (Db, listOf bvs.toArray kb) :: (Dd, listOf dvs.toArray kd) :: (Dr, rO) :: (src, listOf #[.int a ta, .int b tb] n) :: (C, cO) :: tl) → ((∀ p ∈ tl, p.1 ≠ src)) → ((∀ p ∈ tl, p.1 ≠ Db)) → ((∀ p ∈ tl, NotFld p)) → ((@Ne Nat Dd Db)) → ((@Ne Nat Dd src)) → (dvs.length ≤ 6 * i) → (bvs.length ≤ i) → (BlksZ H tl bvs bs) → (DuesZ H tl dvs (dues bs)) → LoopJ H Db Dr src C rO cO m0 i m nw
noncomputable abbrev nBlocks : Str := Str.ofString "blocks"
theorem upd1 {m₀ : Str → Option Value} {x : Str} {v : Option Value} (h : m₀ x = v) : m₀ = fun y => if y = x then v else m₀ y := by
  funext y
  show m₀ y = ite _ _ _
  split
  · rename_i q; rw [q, h]
  · rfl
theorem loopJ0 {H h : Heap} {L Dt Dd' Db' Dr src C : Addr} {ot rO cO : Obj} {a b : Int} {ta tb : Tok} {n : Nat} {m₀ : Str → Option Value} (F : Fr H L h m₀) (N : News H L h [(Dt, ot), (Dd', listOf [].toArray 0), (Db', listOf [].toArray 0), (Dr, rO), (src, listOf #[.int a ta, .int b tb] n), (C, cO)])
    (hm : m₀ nDue = some (.ref Dd')) (hm2 : m₀ nBlocks = some (.ref Db')) (ha : 0 ≤ a) (hb : 0 ≤ b) (hb2 : b < 2147483647) (h1 : @Ne Nat Dd' Db') (h2 : @Ne Nat Dd' src) (h3 : @Ne Nat Db' src) (h4 : @Ne Nat Db' Dr) (h5 : @Ne Nat Db' C) :
    ∃ Db Dd : Addr, (@Ne Nat Db src) ∧ (@Ne Nat Db Dr) ∧ (@Ne Nat Db C) ∧ Fr H L h (fun y => if y = nBlocks then some (.ref Db) else m₀ y) ∧ News H L h [(Db, listOf [].toArray 0), (Dd, listOf [].toArray 0), (Dr, rO), (src, listOf #[.int a ta, .int b tb] n), (C, cO)] ∧
      LoopJ H Db Dr src C rO cO (fun y => if y = nBlocks then some (.ref Db) else m₀ y) 0 (fun y => if y = nBlocks then some (.ref Db) else m₀ y) [(Db, listOf [].toArray 0), (Dd, listOf [].toArray 0), (Dr, rO), (src, listOf #[.int a ta, .int b tb] n), (C, cO)] := by
  refine ⟨Db', Dd', h3, h4, h5, (upd1 hm2) ▸ F, fun p hp => N p ?_, [], [], [], Dd', 0, 0, a, ta, b, tb, n, [], _, _, rfl, by simp, ha, hb, hb2, upd3 (by rw [if_neg (by decide)]; exact hm), rfl, by simp, by simp, by simp, h1, h2, by simp, by simp, fun _ _ => trivial, fun _ _ => trivial⟩
  simp only [List.mem_cons, List.not_mem_nil, or_false] at hp ⊢
  rcases hp with rfl | rfl | rfl | rfl | rfl <;> simp
theorem loopJ_fld {H : Heap} {Db Dr src C : Addr} {its : Array Value} {kr : Nat} {cO : Obj} {cv : Option Value} {m0 : Str → Option Value} (hc : cO.data = .cell cv) (i : Nat) (m : Str → Option Value) (nw : List (Addr × Obj)) (j : LoopJ H Db Dr src C (listOf its kr) cO m0 i m nw) : ∀ p ∈ nw, ∀ x, p.2.data ≠ .fields x := by
  obtain ⟨bs, bvs, dvs, Dd, kb, kd, a, ta, b, tb, n, tl, rv, bv, _, _, _, _, _, _, rfl, _, _, hf, _⟩ := j
  intro p hp x q
  simp only [List.mem_cons] at hp
  rcases hp with rfl | rfl | rfl | rfl | rfl | hp
  · cases q
  · cases q
  · cases q
  · cases q
  · rw [hc] at q; cases q
  · exact hf p hp x q
theorem src_front {H h : Heap} {L x1 x2 x3 x4 x5 : Addr} {o1 o2 o3 o4 o5 : Obj} {tl : List (Addr × Obj)} (N : News H L h ((x1, o1) :: (x2, o2) :: (x3, o3) :: (x4, o4) :: (x5, o5) :: tl)) : News H L h ((x4, o4) :: (x1, o1) :: (x2, o2) :: (x3, o3) :: (x5, o5) :: tl) := fun p hp => N p (by
  simp only [List.mem_cons] at hp ⊢
  rcases hp with h | h | h | h | h | h <;> simp [h])
end Mine
-- B19
namespace Mine
section
variable {prog : Program} {w : World} {A : Around} {E : Value → Shared → Prop} {h₀ h : Heap} {L a : Addr} {m : Str → Option Value} {news : List (Addr × Obj)} {vs zs : List Value} {n : Nat} {g : Array GenState} {dr : Drawn} {tk : Nat} {os : OsState}
theorem T_lslice {value slice : Expr} {vl vu : Value} {lo hi : Option Int} {Q : Value → Shared → Prop} (F : Fr h₀ L h m) (N : News h₀ L h news) (hm : (a, listOf vs.toArray n) ∈ news) (pl : IsPart vl lo) (pu : IsPart vu hi)
    (e : slicePick vs.toArray lo hi none = zs.toArray) (hz : vs.length ≤ 12000000)
    (k : ∀ D h', Fr h₀ L h' m → News h₀ L h' ((D, listOf zs.toArray 0) :: news) → (∀ p ∈ news, p.1 < D) → Q (.ref D) ⟨h', g, dr, tk, os⟩)
    (hs : subscripted slice false (.ref a) (.ref h.objs.size) = operate [.ref h.objs.size, .ref a] (getItem (.ref a) (.ref h.objs.size)) := by with_unfolding_all rfl)
    (hg : ∀ r, letTemporaryGo value (.ref a) r = pure () := by intro _; with_unfolding_all rfl) :
    wpAny (model prog w) A (subscriptTail value slice (.ref a) (.ref h.objs.size)) Q E ⟨h.push { cls := .type "slice", data := .fields #[vl, vu, .none] }, g, dr, tk, os⟩ := by
  refine slice_list (s := ⟨h, g, dr, tk, os⟩) F N (isList_of N hm) pl pu (fun h' F' N' => ?_) hs hg (Nat.le_trans (show vs.toArray.size ≤ 12000000 by simpa using hz) (by decide))
  rw [e] at N'
  exact k _ h' F' N' fun p hp => Nat.lt_succ_of_lt (Heap.lt_size (N p hp).1)
/-- xs[:-1] -/
theorem T_lbut {value slice : Expr} {x : Value} {u : Tok} {Q : Value → Shared → Prop} (F : Fr h₀ L h m) (N : News h₀ L h news) (hm : (a, listOf (zs ++ [x]).toArray n) ∈ news) (hz : (zs ++ [x]).length ≤ 100000)
    (k : ∀ D h', Fr h₀ L h' m → News h₀ L h' ((D, listOf zs.toArray 0) :: news) → (∀ p ∈ news, p.1 < D) → Q (.ref D) ⟨h', g, dr, tk, os⟩)
    (hs : subscripted slice false (.ref a) (.ref h.objs.size) = operate [.ref h.objs.size, .ref a] (getItem (.ref a) (.ref h.objs.size)) := by with_unfolding_all rfl)
    (hg : ∀ r, letTemporaryGo value (.ref a) r = pure () := by intro _; with_unfolding_all rfl) :
    wpAny (model prog w) A (subscriptTail value slice (.ref a) (.ref h.objs.size)) Q E ⟨h.push { cls := .type "slice", data := .fields #[.none, .int (-1) u, .none] }, g, dr, tk, os⟩ := by
  refine T_lslice F N hm .none (.int _ _) ?_ (Nat.le_trans hz (by decide)) k hs hg
  have := slicePick_butLast (zs ++ [x]).toArray 1 (Nat.le_refl _)
  rw [show (-((1 : Nat) : Int)) = (-1 : Int) from rfl] at this
  rw [this]
  simp
/-- xs[a:] -/
theorem T_lfrom {value slice : Expr} {c : Nat} {u : Tok} {Q : Value → Shared → Prop} (F : Fr h₀ L h m) (N : News h₀ L h news) (hm : (a, listOf vs.toArray n) ∈ news) (hz : vs.length ≤ 12000000)
    (k : ∀ D h', Fr h₀ L h' m → News h₀ L h' ((D, listOf (vs.drop c).toArray 0) :: news) → (∀ p ∈ news, p.1 < D) → Q (.ref D) ⟨h', g, dr, tk, os⟩)
    (hs : subscripted slice false (.ref a) (.ref h.objs.size) = operate [.ref h.objs.size, .ref a] (getItem (.ref a) (.ref h.objs.size)) := by with_unfolding_all rfl)
    (hg : ∀ r, letTemporaryGo value (.ref a) r = pure () := by intro _; with_unfolding_all rfl) :
    wpAny (model prog w) A (subscriptTail value slice (.ref a) (.ref h.objs.size)) Q E ⟨h.push { cls := .type "slice", data := .fields #[.int (c : Nat) u, .none, .none] }, g, dr, tk, os⟩ :=
  T_lslice F N hm (.int _ _) .none (by rw [slicePick_from']) hz k hs hg
/-- xs[a:b] -/
theorem T_lrun {value slice : Expr} {c d : Nat} {u u2 : Tok} {Q : Value → Shared → Prop} (F : Fr h₀ L h m) (N : News h₀ L h news) (hm : (a, listOf vs.toArray n) ∈ news) (hd : d ≤ vs.length) (hc : c ≤ d) (hz : vs.length ≤ 12000000)
    (k : ∀ D h', Fr h₀ L h' m → News h₀ L h' ((D, listOf ((vs.drop c).take (d - c)).toArray 0) :: news) → (∀ p ∈ news, p.1 < D) → Q (.ref D) ⟨h', g, dr, tk, os⟩)
    (hs : subscripted slice false (.ref a) (.ref h.objs.size) = operate [.ref h.objs.size, .ref a] (getItem (.ref a) (.ref h.objs.size)) := by with_unfolding_all rfl)
    (hg : ∀ r, letTemporaryGo value (.ref a) r = pure () := by intro _; with_unfolding_all rfl) :
    wpAny (model prog w) A (subscriptTail value slice (.ref a) (.ref h.objs.size)) Q E ⟨h.push { cls := .type "slice", data := .fields #[.int (c : Nat) u, .int (d : Nat) u2, .none] }, g, dr, tk, os⟩ :=
  T_lslice F N hm (.int _ _) (.int _ _) (by rw [slicePick_run _ c d (by simpa using hd) hc]) hz k hs hg
end
section
variable {prog : Program} {w : World} {A : Around} {E : Value → Shared → Prop} {s : Shared} {h₀ : Heap} {L a : Addr} {m : Str → Option Value} {vs : List Value} {n : Nat} {news : List (Addr × Obj)}
/-- xs[-1] -/
theorem T_llast {value slice : Expr} {u : Tok} {v : Value} {Q : Value → Shared → Prop} (N : News h₀ L s.heap news) (e : (a, listOf (vs ++ [v]).toArray n) ∈ news) (h : Q v s)
    (hs : subscripted slice false (.ref a) (.int (-1) u) = operate [.ref a, .int (-1) u] (getItem (.ref a) (.int (-1) u)) := by with_unfolding_all rfl) :
    wpAny (model prog w) A (subscriptTail value slice (.ref a) (.int (-1) u)) Q E s :=
  have hL : s.heap.IsList a (vs ++ [v]).toArray := ⟨_, N.get e, rfl, n, rfl⟩
  tail_any hL.typeIs slot_list_getitem.lookup (wpAny_getItem_list_neg hL (by decide) (by simp; omega) (by decide) (by
    have e : ((-1 : Int) + ((vs ++ [v]).toArray.size : Nat)).toNat = vs.length := by simp; omega
    rw [e]; simp) h) hs
end
theorem rows_pairs {Z : Addr → Prop} {h : Heap} : ∀ {vs : List Value} {rs : List (Dat × List Int)}, RowsAt Z h vs rs → ∃ ps : List (Addr × Value × Value), vs = ps.map (fun p => Value.ref p.1) ∧ (∀ p ∈ ps, h.get? p.1 = some { cls := .type "tuple", data := .seq #[p.2.1, p.2.2] }) ∧ RdA h (ps.map fun p => p.2.1) (rs.map (·.1))
  | [], [], _ => ⟨[], rfl, by simp, .nil⟩
  | [], _ :: _, e => e.elim
  | _ :: _, [], e => e.elim
  | v :: vs, r :: rs, e => by
    obtain ⟨ps, rfl, e2, e3⟩ := rows_pairs e.2
    obtain ⟨t, rowv, l, row, ys, ns, n, rfl, f1, rd, f2, hi, ⟨rfl, rfl⟩, hz⟩ := e.1
    refine ⟨(t, rowv, .ref l) :: ps, rfl, fun p hp => ?_, .cons rd e3⟩
    rcases List.mem_cons.mp hp with rfl | hp
    · exact f1
    · exact e2 p hp
end Mine
-- B20
namespace Mine
theorem BlksZ.mono {g : Heap} {tl tl' : List (Addr × Obj)} {vs : List Value} {bs : List BD} (k : ∀ p ∈ tl, p ∈ tl') (a : BlksZ g tl vs bs) : BlksZ g tl' vs bs := fun h' q => a h' (q.mono k)
theorem DuesZ.mono {g : Heap} {tl tl' : List (Addr × Obj)} {vs : List Value} {ds : List DueE} (k : ∀ p ∈ tl, p ∈ tl') (a : DuesZ g tl vs ds) : DuesZ g tl' vs ds := fun h' q => a h' (q.mono k)
theorem rdA_map_fst {h : Heap} {ps : List (Addr × Value × Value)} {ds : List Dat} (r : RdA h (ps.map fun p => p.2.1) ds) : RdA h (ps.map fun p => p.2.1) ds := r
theorem all8 {P : Addr × Obj → Prop} {a b c : Addr × Obj} {t1 t2 t3 t4 t5 : List (Addr × Obj)} (ha : P a) (hb : P b) (hc : P c) (h1 : ∀ p ∈ t1, P p) (h2 : ∀ p ∈ t2, P p) (h3 : ∀ p ∈ t3, P p) (h4 : ∀ p ∈ t4, P p) (h5 : ∀ p ∈ t5, P p) :
    ∀ p ∈ a :: b :: c :: (t1 ++ t2 ++ t3 ++ t4 ++ t5), P p := by
  intro p hp
  simp only [List.mem_cons, List.mem_append] at hp
  rcases hp with rfl | rfl | rfl | ((((h | h) | h) | h) | h)
  · exact ha
  · exact hb
  · exact hc
  · exact h1 p h
  · exact h2 p h
  · exact h3 p h
  · exact h4 p h
  · exact h5 p h
/-- the ledger of the next turn lies within that of the turn's end -/
theorem led_next {e1 e2 e3 e4 e5 e6 e7 e8 e9 e10 e11 e12 e13 d o : Addr × Obj} {t1 t2 t3 t4 t5 own tl4 : List (Addr × Obj)} (h1 : ∀ p ∈ t1, p ∈ tl4) (h2 : ∀ p ∈ t2, p ∈ tl4) (h3 : ∀ p ∈ t3, p ∈ tl4) (h4 : ∀ p ∈ t4, p ∈ tl4) (h5 : ∀ p ∈ t5, p ∈ tl4) (h6 : ∀ p ∈ own, p ∈ tl4) :
    ∀ p ∈ (d :: e1 :: o :: e9 :: e12 :: e4 :: e5 :: e6 :: (t1 ++ t2 ++ t3 ++ t4 ++ t5)) ++ own, p ∈ e1 :: e2 :: e3 :: e4 :: e5 :: e6 :: e7 :: e8 :: e10 :: e11 :: e9 :: d :: e13 :: o :: e12 :: tl4 := by
  intro p hp
  simp only [List.cons_append, List.mem_cons, List.mem_append] at hp ⊢
  rcases hp with h | h | h | h | h | h | h | h | (((((h | h) | h) | h) | h) | h)
  · simp [h]
  · simp [h]
  · simp [h]
  · simp [h]
  · simp [h]
  · simp [h]
  · simp [h]
  · simp [h]
  · simp [h1 _ h]
  · simp [h2 _ h]
  · simp [h3 _ h]
  · simp [h4 _ h]
  · simp [h5 _ h]
  · simp [h6 _ h]
theorem turn_end {m0 : Str → Option Value} {a b c a' b' c' : Option Value} : (fun y => if y = nDue then a else if y = nRows then b else if y = nBlock then c else if y = nBlock then a' else if y = nRows then b' else if y = nDue then c' else m0 y) = fun y => if y = nBlock then c else if y = nRows then b else if y = nDue then a else m0 y := by
  funext y
  by_cases e1 : y = nBlock
  · rw [if_neg (by rw [e1]; decide), if_neg (by rw [e1]; decide), if_pos e1, if_pos e1]
  by_cases e2 : y = nRows
  · rw [if_neg (by rw [e2]; decide), if_pos e2, if_neg e1, if_pos e2]
  by_cases e3 : y = nDue
  · rw [if_pos e3, if_neg e1, if_neg e2, if_pos e3]
  · rw [if_neg e3, if_neg e2, if_neg e1, if_neg e1, if_neg e2, if_neg e3, if_neg e1, if_neg e2, if_neg e3]
/-- the end of a turn: the loop's invariant for the next one -/
theorem loop_close {H h' : Heap} {s : Shared} {Q : Flow → Shared → Prop} {tk' : Nat} {i kb k1 k2 k3 k4 : Nat} {L Db Dr src C Dd Dn x1 x2 t0 lb D y1 y2 y3 y4 te : Addr} {rO cO oy1 oy2 oy3 oy4 ox1 ox2 od : Obj} {m0 : Str → Option Value} {bs : List BD} {bvs dvs : List Value} {ps : List (Addr × Value × Value)} {rs : List (Dat × List Int)} {re : Dat × List Int} {rowe : Value} {a b : Int} {ta tb tt t9 : Tok} {n : Nat}
    {tl own tlR tlE tlA tlB tl4 : List (Addr × Obj)} {rv bv : Option Value}
    (F : Fr H L h' (fun y => if y = nDue then some (.ref Dn) else if y = nRows then some (.ref y2) else if y = nBlock then some (.int (i : Nat) t9) else if y = nBlock then bv else if y = nRows then rv else if y = nDue then some (.ref Dd) else m0 y))
    (N : News H L h' ((Dn, listOf (dvs ++ [Value.ref t0] ++ (ps.map (fun p => Value.ref p.1) ++ [Value.ref te])).toArray k1) :: (x1, ox1) :: (x2, ox2) :: (t0, { cls := .type "tuple", data := .seq #[.str (Str.ofString " b" ++ Str.ofString (toString (i : Int)) ++ Str.ofString ":") tt, .none] k2 }) :: (lb, listOf #[.ref D, rowe] k3) :: (D, listOf (ps.map fun p => p.2.1).toArray k4) :: (y1, oy1) :: (y2, oy2) :: (y3, oy3) :: (y4, oy4) ::
      (src, listOf #[.int a ta, .int b tb] n) :: (Db, listOf (bvs.toArray.push (.ref lb)) kb) :: (Dd, od) :: (Dr, rO) :: (C, cO) :: tl4))
    (k_tl : ∀ p ∈ tl, p ∈ tl4) (k_own : ∀ p ∈ own, p ∈ tl4) (k_R : ∀ p ∈ tlR, p ∈ tl4) (k_E : ∀ p ∈ tlE, p ∈ tl4) (k_A : ∀ p ∈ tlA, p ∈ tl4) (k_B : ∀ p ∈ tlB, p ∈ tl4)
    (hbl : bs.length = i) (hbs : ∀ b ∈ bs, BDOk b) (ha : 0 ≤ a) (hb : 0 ≤ b) (hb2 : b < 2147483647)
    (htl1 : ∀ p ∈ tl, p.1 ≠ src) (htl2 : ∀ p ∈ tl, p.1 ≠ Db) (htl3 : ∀ p ∈ tl, NotFld p)
    (hR1 : ∀ p ∈ tlR, p.1 ∉ [src, Db]) (hR2 : ∀ p ∈ tlR, NotFld p) (hE1 : ∀ p ∈ tlE, p.1 ∉ [src, Db]) (hE2 : ∀ p ∈ tlE, NotFld p)
    (hA1 : ∀ p ∈ tlA, p.1 ≠ src) (hA2 : ∀ p ∈ tlA, p.1 ≠ Db) (hAc : ∀ p ∈ tlA, ∃ vs n, p.2 = tupO vs n) (hB1 : ∀ p ∈ tlB, p.1 ≠ src) (hB2 : ∀ p ∈ tlB, p.1 ≠ Db) (hBc : ∀ p ∈ tlB, ∃ vs n, p.2 = tupO vs n)
    (n1 : @Ne Nat t0 src) (n2 : @Ne Nat t0 Db) (n3 : @Ne Nat lb src) (n4 : @Ne Nat lb Db) (n5 : @Ne Nat D src) (n6 : @Ne Nat D Db) (n7 : @Ne Nat Dn src) (n8 : @Ne Nat Dn Db)
    (hdl : dvs.length ≤ 6 * i) (hbvl : bvs.length ≤ i) (BZ : BlksZ H tl bvs bs) (DZ : DuesZ H tl dvs (dues bs)) (RZ : RowsZ H tlR (ps.map fun p => Value.ref p.1) rs) (REZ : RowsZ H tlE [.ref te] [re])
    (AZ : ∀ h' : Heap, (∀ b o, H.get? b = some o → h'.get? b = some o) → (∀ p ∈ tlA, h'.get? p.1 = some p.2) → RdA h' (ps.map fun p => p.2.1) (rs.map (·.1)))
    (EZ : ∀ h' : Heap, (∀ b o, H.get? b = some o → h'.get? b = some o) → (∀ p ∈ tlB, h'.get? p.1 = some p.2) → Rd h' rowe re.1)
    (hrk : ∀ r ∈ rs, InsRow r.1 r.2) (hys : rs.length ≤ 4) (hpl : ps.length = rs.length) (hrk2 : EndRow re.1 re.2) :
    ForEnd H L (LoopJ H Db Dr src C rO cO m0 (i + 1)) own s Q .next { s with heap := h', toks := tk' } := by
  refine ForEnd.intro ((Db, listOf (bvs ++ [Value.ref lb]).toArray kb) :: (Dn, listOf (dvs ++ [Value.ref t0] ++ (ps.map (fun p => Value.ref p.1) ++ [Value.ref te])).toArray k1) :: (Dr, rO) :: (src, listOf #[.int a ta, .int b tb] n) :: (C, cO) ::
    ((t0, { cls := .type "tuple", data := .seq #[.str (Str.ofString " b" ++ Str.ofString (toString (i : Int)) ++ Str.ofString ":") tt, .none] k2 }) :: (lb, listOf #[.ref D, rowe] k3) :: (D, listOf (ps.map fun p => p.2.1).toArray k4) :: (tl ++ tlR ++ tlE ++ tlA ++ tlB)))
    F (fun p hp => N p ?_) ⟨bs ++ [(rs, re)], bvs ++ [.ref lb], _, Dn, kb, k1, a, ta, b, tb, n, _, some (.ref y2), some (.int (i : Nat) t9), ?_, ?_, ha, hb, hb2, ?_, rfl, ?_, ?_, ?_, n8, n7, ?_, ?_, ?_, ?_⟩
  · rw [show (bvs ++ [Value.ref lb]).toArray = bvs.toArray.push (.ref lb) by simp] at hp
    exact led_next k_tl k_R k_E k_A k_B k_own p hp
  · simp [hbl]
  · intro b' hb'
    rcases List.mem_append.mp hb' with h | h
    · exact hbs _ h
    · rw [List.mem_singleton.mp h]
      exact ⟨hys, hrk, hrk2⟩
  · exact turn_end
  · exact all8 n1 n3 n5 htl1 (fun p h e => hR1 p h (e ▸ .head _)) (fun p h e => hE1 p h (e ▸ .head _)) hA1 hB1
  · exact all8 n2 n4 n6 htl2 (fun p h e => hR1 p h (e ▸ .tail _ (.head _))) (fun p h e => hE1 p h (e ▸ .tail _ (.head _))) hA2 hB2
  · exact all8 (fun x q => nomatch q) (fun x q => nomatch q) (fun x q => nomatch q) htl3 hR2 hE2 (fun p h x => by
      obtain ⟨vs, n, e⟩ := hAc p h
      rw [e]; intro q; cases q) fun p h x => by
      obtain ⟨vs, n, e⟩ := hBc p h
      rw [e]; intro q; cases q
  · simp only [List.length_append, List.length_cons, List.length_nil, List.length_map]; omega
  · simp only [List.length_append, List.length_cons, List.length_nil]; omega
  · intro g q
    have qt : Keeps H tl g := q.mono fun p hp => by simp [hp]
    have qA : Keeps H tlA g := q.mono fun p hp => by simp [hp]
    have qB : Keeps H tlB g := q.mono fun p hp => by simp [hp]
    rw [List.map_append]
    refine (BZ g qt).append ⟨⟨lb, D, rowe, k3, k4, _, rfl, q.2 (lb, _) (by simp), q.2 (D, _) (by simp), AZ g qA.1 qA.2, EZ g qB.1 qB.2⟩, trivial⟩
  · intro g q
    have qt : Keeps H tl g := q.mono fun p hp => by simp [hp]
    have qR : Keeps H tlR g := q.mono fun p hp => by simp [hp]
    have qE : Keeps H tlE g := q.mono fun p hp => by simp [hp]
    rw [dues_snoc, List.append_assoc]
    refine (DZ g qt).append ⟨⟨t0, tt, k2, rfl, ?_⟩, ?_⟩
    · rw [hbl]
      exact q.2 (t0, { cls := .type "tuple", data := .seq #[.str (Str.ofString " b" ++ Str.ofString (toString (i : Int)) ++ Str.ofString ":") tt, .none] k2 }) (.head _)
    · exact DuesAt.rows ((RZ g qR).append (REZ g qE))
end Mine
-- B21
namespace Mine
theorem strs_at : ∀ {ys zs : List Value} {xs : List Str}, StrsAre ys xs → StrsAre zs xs → ys.length = zs.length ∧ ∀ j (h1 : j < ys.length) (h2 : j < zs.length), ∃ x t u, ys[j] = .str x t ∧ zs[j] = .str x u
  | _, _, _, .nil, .nil => ⟨rfl, fun j h => absurd h (Nat.not_lt_zero _)⟩
  | _, _, _, .cons x t r, .cons _ u q => by
    obtain ⟨l, k⟩ := strs_at r q
    refine ⟨by simp [l], fun j h1 h2 => ?_⟩
    cases j with
    | zero => exact ⟨x, t, u, rfl, rfl⟩
    | succ j => exact k j (by simpa using h1) (by simpa using h2)
theorem ints_at : ∀ {ys zs : List Value} {xs : List Int}, IntsAre ys xs → IntsAre zs xs → ys.length = zs.length ∧ ∀ j (h1 : j < ys.length) (h2 : j < zs.length), ∃ x t u, ys[j] = .int x t ∧ zs[j] = .int x u
  | _, _, _, .nil, .nil => ⟨rfl, fun j h => absurd h (Nat.not_lt_zero _)⟩
  | _, _, _, .cons x t r, .cons _ u q => by
    obtain ⟨l, k⟩ := ints_at r q
    refine ⟨by simp [l], fun j h1 h2 => ?_⟩
    cases j with
    | zero => exact ⟨x, t, u, rfl, rfl⟩
    | succ j => exact k j (by simpa using h1) (by simpa using h2)
section
variable {prog : Program} {w : World} {A : Around} {E : Value → Shared → Prop} {s : Shared} {h₀ : Heap} {L a b : Addr} {m : Str → Option Value} {ys zs : List Value} {k1 k2 : Nat} {news : List (Addr × Obj)} {Q : Value → Shared → Prop}
theorem all_true (n : Nat) : (List.range n).all (fun _ => true) = true := by simp
theorem T_nes_same {xs : List Str} (N : News h₀ L s.heap news) (m1 : (a, listOf ys.toArray k1) ∈ news) (m2 : (b, listOf zs.toArray k2) ∈ news) (r1 : StrsAre ys xs) (r2 : StrsAre zs xs) (hu : A.units < cLine) (h : Q (.bool false) s) : wpAny (model prog w) A (compareOp .NotEq (.ref a) (.ref b)) Q E s := by
  obtain ⟨l, k⟩ := strs_at r1 r2
  have q := RcNeAt.lists (A := A) (e := fun _ => true) (isList_of N m1) (isList_of N m2) (by simpa using l) hu fun j h1 h2 => by
    obtain ⟨x, t, u, e1, e2⟩ := k j (by simpa using h1) (by simpa using h2)
    rw [List.getElem_toArray, List.getElem_toArray, e1, e2]
    simpa using EqAt.str_str (A := A.in1) (s := s) x t x u
  rw [all_true] at q
  exact q prog w E Q h
theorem T_eqs_same {xs : List Str} (N : News h₀ L s.heap news) (m1 : (a, listOf ys.toArray k1) ∈ news) (m2 : (b, listOf zs.toArray k2) ∈ news) (r1 : StrsAre ys xs) (r2 : StrsAre zs xs) (hu : A.units < cLine) (h : Q (.bool true) s) : wpAny (model prog w) A (compareOp .Eq (.ref a) (.ref b)) Q E s := by
  obtain ⟨l, k⟩ := strs_at r1 r2
  refine eq_listAt (e := fun _ => true) (isList_of N m1) (isList_of N m2) (by simpa using l) hu (fun j h1 h2 => ?_) (by rw [all_true]; exact h)
  obtain ⟨x, t, u, e1, e2⟩ := k j (by simpa using h1) (by simpa using h2)
  rw [List.getElem_toArray, List.getElem_toArray, e1, e2]
  simpa using EqAt.str_str (A := A.in1) (s := s) x t x u
theorem T_nei_same {xs : List Int} (N : News h₀ L s.heap news) (m1 : (a, listOf ys.toArray k1) ∈ news) (m2 : (b, listOf zs.toArray k2) ∈ news) (r1 : IntsAre ys xs) (r2 : IntsAre zs xs) (hu : A.units < cLine) (h : Q (.bool false) s) : wpAny (model prog w) A (compareOp .NotEq (.ref a) (.ref b)) Q E s := by
  obtain ⟨l, k⟩ := ints_at r1 r2
  have q := RcNeAt.lists (A := A) (e := fun _ => true) (isList_of N m1) (isList_of N m2) (by simpa using l) hu fun j h1 h2 => by
    obtain ⟨x, t, u, e1, e2⟩ := k j (by simpa using h1) (by simpa using h2)
    rw [List.getElem_toArray, List.getElem_toArray, e1, e2]
    simpa using EqAt.int_int (A := A.in1) (s := s) x t x u
  rw [all_true] at q
  exact q prog w E Q h
theorem T_eqi_same {xs : List Int} (N : News h₀ L s.heap news) (m1 : (a, listOf ys.toArray k1) ∈ news) (m2 : (b, listOf zs.toArray k2) ∈ news) (r1 : IntsAre ys xs) (r2 : IntsAre zs xs) (hu : A.units < cLine) (h : Q (.bool true) s) : wpAny (model prog w) A (compareOp .Eq (.ref a) (.ref b)) Q E s := by
  obtain ⟨l, k⟩ := ints_at r1 r2
  refine eq_listAt (e := fun _ => true) (isList_of N m1) (isList_of N m2) (by simpa using l) hu (fun j h1 h2 => ?_) (by rw [all_true]; exact h)
  obtain ⟨x, t, u, e1, e2⟩ := k j (by simpa using h1) (by simpa using h2)
  rw [List.getElem_toArray, List.getElem_toArray, e1, e2]
  simpa using EqAt.int_int (A := A.in1) (s := s) x t x u
theorem T_str_ne_same {x y : Str} {t u : Tok} (e : x = y) (h : Q (.bool false) s) : wpAny (model prog w) A (compareOp .NotEq (.str x t) (.str y u)) Q E s := by
  subst e
  refine ne_str ?_
  simpa using h
theorem T_str_eq_same {x y : Str} {t u : Tok} (e : x = y) (h : Q (.bool true) s) : wpAny (model prog w) A (compareOp .Eq (.str x t) (.str y u)) Q E s := by
  subst e
  refine eq_str ?_
  simpa using h
theorem wp_cut {α : Type} {M : Model} {t : Sem α} {Q Q' : α → Shared → Prop} (h : wpAny M A t Q' E s) (k : ∀ r s', Q' r s' → Q r s') : wpAny M A t Q E s := wpAny_mono h k fun _ _ e => e
end
end Mine
-- B23
namespace Mine
/-- a turn's end that leaves every object as it was -/
noncomputable def GrowZ (s₃ : Shared) (f : Flow) (s' : Shared) : Prop := (f = .next ∨ f = .cont) ∧ ∃ h' tk', s' = { s₃ with heap := h', toks := tk' } ∧ ∀ b o, s₃.heap.get? b = some o → h'.get? b = some o
theorem GrowZ.intro {s₃ : Shared} {h' : Heap} {tk' : Nat} (k : ∀ b o, s₃.heap.get? b = some o → h'.get? b = some o) : GrowZ s₃ .next { s₃ with heap := h', toks := tk' } := ⟨.inl rfl, h', tk', rfl, k⟩
/-- a zip object of two lists, fresh -/
structure ZipNew (h₀ h : Heap) (L z TI TO i1 i2 l1 l2 base : Addr) (vs1 vs2 : List Value) : Prop where
  ap : ZipApart z TI TO i1 i2 l1 l2
  hz : IsZip h z TI TO .none
  hTI : IsPair h TI (.ref i1) (.ref i2)
  hTO : IsPair h TO .none .none
  h1 : h.IsListIter i1 l1 0
  h2 : h.IsListIter i2 l2 0
  hl1 : h.IsList l1 vs1.toArray
  hl2 : h.IsList l2 vs2.toArray
  up : ∀ a ∈ [z, TO, i1, i2, TI], base ≤ a
  ls : L < base ∧ l1 < base ∧ l2 < base
  old : ∀ b o, h₀.get? b = some o → b < base
inductive ForZ (prog : Program) (w : World) (A : Around) (env : Env) (x r t : Str) (body : List Stmt) (h₀ : Heap) (L : Addr) (Q : Flow → Shared → Prop) (xv : Value) (s₁ : Shared) : Prop
  | mk : ∀ z TI TO i1 i2 l1 l2 base, ∀ (vs1 vs2 : List Value), ∀ m₀ news, (xv = .ref z) → (A.handled = none) → (ZipNew h₀ s₁.heap L z TI TO i1 i2 l1 l2 base vs1 vs2) → ((∀ p ∈ news, p.1 < base)) → (Fr h₀ L s₁.heap m₀) → (News h₀ L s₁.heap news) → (vs1.length ≤ 1000) → ((∀ v ∈ vs2, ∃ T, v = Value.ref T ∧ T < base)) → ((∀ h m', Fr h₀ L h m' → News h₀ L h news → ∀ v ∈ vs2, ∃ T a b, v = Value.ref T ∧ IsTup h T #[a, b])) → ((∀ (i : Nat) v1 T a b m₁ s₃ E', vs1[i]? = some v1 → vs2[i]? = some (Value.ref T) → IsTup s₃.heap T #[a, b] → Fr h₀ L s₃.heap (fun y => if y = t then some b else if y = r then some a else if y = x then some v1 else m₁ y) → News h₀ L s₃.heap news → (∃ vx vr vt, m₁ = fun y => if y = t then vt else if y = r then vr else if y = x then vx else m₀ y) → wpAny (model prog w) A (execs body env) (GrowZ s₃) E' s₃)) → ((∀ h tk vx vr vt, Fr h₀ L h (fun y => if y = t then vt else if y = r then vr else if y = x then vx else m₀ y) → News h₀ L h news → Q .next { s₁ with heap := h, toks := tk })) → ForZ prog w A env x r t body h₀ L Q xv s₁
noncomputable def ZipOld (h₀ : Heap) (L : Addr) (m : Str → Option Value) (news : List (Addr × Obj)) (base : Addr) : Prop := ∃ hp, Fr h₀ L hp m ∧ News h₀ L hp news ∧ ∀ b o, hp.get? b = some o → b < base
/-- the zip under way: i elements drawn -/
inductive ZInv (s₁ : Shared) (x r t : Str) (z TI TO i1 i2 l1 l2 : Addr) (vs1 vs2 : List Value) (h₀ : Heap) (L : Addr) (m₀ : Str → Option Value) (news : List (Addr × Obj)) (n k : Nat) (s' : Shared) : Prop
  | mk : ∀ i m₁ h tk, s' = { s₁ with heap := h, toks := tk } → i ≤ n → k = n + 1 - i → (IsZip h z TI TO .none ∧ IsPair h TI (.ref i1) (.ref i2) ∧ (∃ a b, IsPair h TO a b) ∧ h.IsListIter i1 l1 i ∧ h.IsListIter i2 l2 i ∧ h.IsList l1 vs1.toArray ∧ h.IsList l2 vs2.toArray) → Fr h₀ L h m₁ → News h₀ L h news → (∃ vx vr vt, m₁ = fun y => if y = t then vt else if y = r then vr else if y = x then vx else m₀ y) → ZInv s₁ x r t z TI TO i1 i2 l1 l2 vs1 vs2 h₀ L m₀ news n k s'
theorem z3_id {x r t : Str} {m₀ : Str → Option Value} : m₀ = fun y => if y = t then m₀ t else if y = r then m₀ r else if y = x then m₀ x else m₀ y := by
  funext y
  split
  · rename_i q; rw [q]
  split
  · rename_i q; rw [q]
  split
  · rename_i q; rw [q]
  · rfl
theorem z3_lt {i n : Nat} (h : i < n) : n + 1 - (i + 1) < n + 1 - i := by omega
theorem z3_up {x r t : Str} {vx vr vt a b c : Option Value} {m₀ : Str → Option Value} : (fun y => if y = t then a else if y = r then b else if y = x then c else if y = t then vt else if y = r then vr else if y = x then vx else m₀ y) = fun y => if y = t then a else if y = r then b else if y = x then c else m₀ y := by
  funext y
  by_cases q1 : y = t
  · simp [q1]
  by_cases q2 : y = r
  · simp [q1, q2]
  by_cases q3 : y = x
  · simp [q1, q2, q3]
  · simp [q1, q2, q3]
section
variable {prog : Program} {w : World} {A : Around} {E : Value → Shared → Prop} {env : Env}
theorem T_zip {s : Shared} {h₀ : Heap} {L l1 l2 : Addr} {m : Str → Option Value} {news : List (Addr × Obj)} {vs1 vs2 : List Value} {k1 k2 : Nat} {Q : Value → Shared → Prop} (F : Fr h₀ L s.heap m) (N : News h₀ L s.heap news) (m1 : (l1, listOf vs1.toArray k1) ∈ news) (m2 : (l2, listOf vs2.toArray k2) ∈ news)
    (h : ∀ z TI TO i1 i2 base h', Fr h₀ L h' m → News h₀ L h' news → ZipNew h₀ h' L z TI TO i1 i2 l1 l2 base vs1 vs2 → (∀ p ∈ news, p.1 < base) → ZipOld h₀ L m news base → Q (.ref z) { s with heap := h' }) :
    wpAny (model prog w) A (call (.type "zip") [.ref l1, .ref l2]) Q E s := by
  have n1 := N _ m1
  have n2 := N _ m2
  refine call_zip_2 (isList_of N m1) (isList_of N m2) fun h' hz hTI hTO hi1 hi2 hsz hk => ?_
  refine h _ _ _ _ _ s.heap.objs.size h' (F.keptAll hk) (N.grown hk) ⟨ktu_apart _ _ _ (Heap.lt_size n1.1) (Heap.lt_size n2.1), hz, hTI, hTO, hi1, hi2, (isList_of N m1).at fun o e => hk _ _ e, (isList_of N m2).at fun o e => hk _ _ e, ?_, ⟨F.ns.lt, Heap.lt_size n1.1, Heap.lt_size n2.1⟩, fun b o e => Heap.lt_size (F.keep _ _ e)⟩ (fun p hp => Heap.lt_size (N p hp).1) ⟨_, F, N, fun b o e => Heap.lt_size e⟩
  intro a ha
  simp only [List.mem_cons, List.not_mem_nil, or_false] at ha
  rcases ha with rfl | rfl | rfl | rfl | rfl
  · exact Nat.le_add_right _ _
  · exact Nat.le_add_right _ _
  · exact Nat.le_refl _
  · exact Nat.le_add_right _ _
  · exact Nat.le_add_right _ _
theorem for_Z {s : Shared} {x r t : Str} {px pr pt p1 p2 pos : Pos} {k1 k2 : Nat} {iter : Expr} {body : List Stmt} {Q : Flow → Shared → Prop} {h₀ : Heap} {L : Addr} (hL : env.locals = L) (hx : env.kindOf x = some .local) (hr : env.kindOf r = some .local) (ht : env.kindOf t = some .local) (hp : (env.scope.kind == .class || (env.scope.kind == .module && env.locals != env.globals)) = false)
    {m : Str → Option Value} (_F : Fr h₀ L s.heap m) (h : wpAny (model prog w) A (eval iter env) (ForZ prog w A env x r t body h₀ L Q) E s)
    (hs : ∀ x, foldedSetIterable iter env x = pure x := by intro _; rfl) :
    wpAny (model prog w) A (exec (.For (.Tuple [.Name x px, .Tuple [.Name r pr, .Name t pt] k2 p2] k1 p1) iter body [] pos) env) Q E s := by
  refine wpAny_For (wpAny_mono h (fun xv s₁ h₁ => ?_) fun _ _ e => e) hs
  obtain ⟨z, TI, TO, i1, i2, l1, l2, base, vs1, vs2, m₀, news, rfl, hh, Z, hnb, F, N, hv1, hv2, hpair, turn, done⟩ := h₁
  subst hL
  obtain ⟨ap, hz, hTI, hTO, hi1, hi2, hl1, hl2, up, ⟨lsL, ls1, ls2⟩, hold⟩ := Z
  refine wpAny_pyIter_zip hz ?_
  have W := (WalksT.zip2 (prog := prog) (w := w) (A := A) hh z TI TO i1 i2 l1 l2 ap vs1.toArray vs2.toArray).toU
  generalize hn : min vs1.toArray.size vs2.toArray.size = n at W
  have upw : ∀ a ∈ [z, TO, i1, i2], base ≤ a := fun a ha => up a (by simp only [List.mem_cons, List.not_mem_nil, or_false] at ha ⊢; rcases ha with h | h | h | h <;> simp [h])
  have low : ∀ b, b < base → b ∉ [z, TO, i1, i2] := fun b hb q => absurd hb (Nat.not_lt.mpr (upw b q))
  have lowf : ∀ b, b < base → b ≠ l1 → b ≠ l2 → b ∉ [z, TI, TO, i1, i2, l1, l2] := fun b hb n1 n2 q => by
    simp only [List.mem_cons, List.not_mem_nil, or_false] at q
    rcases q with q | q | q | q | q | q | q
    · exact absurd hb (Nat.not_lt.mpr (q ▸ up z (by simp)))
    · exact absurd hb (Nat.not_lt.mpr (q ▸ up TI (by simp)))
    · exact absurd hb (Nat.not_lt.mpr (q ▸ up TO (by simp)))
    · exact absurd hb (Nat.not_lt.mpr (q ▸ up i1 (by simp)))
    · exact absurd hb (Nat.not_lt.mpr (q ▸ up i2 (by simp)))
    · exact n1 q
    · exact n2 q
  have Lne : ∀ {a : Addr} {xs : Array Value}, s₁.heap.IsList a xs → env.locals ≠ a := fun {a xs} hl q => by
    obtain ⟨oL, es, ep, hL, hd, hr⟩ := F.ns
    obtain ⟨o, ho, hc, n, hd2⟩ := hl
    rw [← q, hL] at ho
    cases ho
    rw [hd] at hd2; cases hd2
  have hLl1 : env.locals ≠ l1 := Lne hl1
  have hLl2 : env.locals ≠ l2 := Lne hl2
  have hLf : env.locals ∉ [z, TI, TO, i1, i2, l1, l2] := lowf _ lsL hLl1 hLl2
  have hLw : env.locals ∉ [z, TO, i1, i2] := low _ lsL
  refine codeAny_forLoop_any (ZInv s₁ x r t z TI TO i1 i2 l1 l2 vs1 vs2 h₀ env.locals m₀ news n) ?_ (n + 1)
    ⟨0, m₀, _, _, rfl, Nat.zero_le _, rfl, ⟨hz, hTI, ⟨_, _, hTO⟩, hi1, hi2, hl1, hl2⟩, F, N, m₀ x, m₀ r, m₀ t, z3_id⟩
  rintro k s' ⟨i, m₁, h, tk, rfl, hi, rfl, hst', F', N', hM⟩
  by_cases hin : i < n
  · refine W.item i _ _ _ hin hst' fun T0 vals h₂ tk₂ hP hT hMid hk₂ => ?_
    obtain ⟨x0, y0, hx0, hy0, rfl⟩ := hP
    refine W.go _ _ _ i T0 _ _ _ hMid fun h₄ hst₄ hk₄ => ?_
    have hTw := W.apart i T0 _ hMid
    have hT₄ : h₄.IsTuple T0 #[x0, y0] := hT.at fun o e => hk₄ _ o hTw e
    have kk : ∀ b o, b ∉ [z, TO, i1, i2] → h.get? b = some o → h₄.get? b = some o := fun b o hb e => hk₄ b o hb (hk₂ b o hb e)
    have hy0' : vs2[i]? = some y0 := by simpa using hy0
    have hx0' : vs1[i]? = some x0 := by simpa using hx0
    obtain ⟨T, a, b, rfl, hTT⟩ := hpair h m₁ F' N' y0 (List.mem_of_getElem? hy0')
    obtain ⟨T', e9, hTb⟩ := hv2 _ (List.mem_of_getElem? hy0')
    cases e9
    have hTTw : T ∉ [z, TO, i1, i2] := low _ hTb
    have F₄ : Fr h₀ env.locals h₄ m₁ := ⟨F'.ns.at' fun o e => kk _ o hLw e, fun b o e => kk b o (low _ (hold b o e)) (F'.keep b o e), F'.above⟩
    have N₄ : News h₀ env.locals h₄ news := fun p hp => ⟨kk _ _ (low _ (hnb p hp)) (N' p hp).1, (N' p hp).2⟩
    have hTT₄ : IsTup h₄ T #[a, b] := by obtain ⟨o, ho, r⟩ := hTT; exact ⟨o, kk _ o hTTw ho, r⟩
    refine assign_Tuple_tuple hh hT₄ rfl rfl fun h₅ he₅ => ?_
    have g₅ : ∀ b o, h₄.get? b = some o → h₅.get? b = some o := fun b o e => he₅ b o (Nat.ne_of_lt (Heap.lt_size e)) e
    refine assignInOrder_cons (wpAny_assign_Name (wpAny_storeName_local hx (F₄.ns.at' fun o e => g₅ _ o e) (fun h₆ hn₆ hs₆ => ?_) hp))
    have F₆ : Fr h₀ env.locals h₆ _ := (F₄.keeps g₅).set hn₆ hs₆
    have N₆ := (N₄.grown g₅).set hs₆
    have hTL : T ≠ env.locals := fun q => by
      obtain ⟨oL, es, ep, hL, hd, hr⟩ := F₄.ns
      obtain ⟨o, ho, hc, n, hd2⟩ := hTT₄
      rw [q, hL] at ho
      cases ho
      rw [hd] at hd2; cases hd2
    have hTT₆ : IsTup h₆ T #[a, b] := by obtain ⟨o, ho, r⟩ := hTT₄.keeps g₅; exact ⟨o, hs₆.extBut _ o hTL ho, r⟩
    refine assignInOrder_cons ?_
    refine assign_Tuple_tuple (elts := [.Name r pr, .Name t pt]) (x1 := k2) (pos := p2) hh hTT₆ rfl rfl fun h₇ he₇ => ?_
    have g₇ : ∀ b o, h₆.get? b = some o → h₇.get? b = some o := fun b o e => he₇ b o (Nat.ne_of_lt (Heap.lt_size e)) e
    refine assignInOrder_cons (wpAny_assign_Name (wpAny_storeName_local hr (F₆.ns.at' fun o e => g₇ _ o e) (fun h₈ hn₈ hs₈ => ?_) hp))
    have F₈ : Fr h₀ env.locals h₈ _ := (F₆.keeps g₇).set hn₈ hs₈
    have N₈ := (N₆.grown g₇).set hs₈
    refine assignInOrder_cons (wpAny_assign_Name (wpAny_storeName_local ht F₈.ns (fun h₉ hn₉ hs₉ => ?_) hp))
    have F₉ : Fr h₀ env.locals h₉ _ := F₈.set hn₉ hs₉
    have N₉ := N₈.set hs₉
    refine assignInOrder_nil (assignInOrder_nil ?_)
    have kall : ∀ c o, c ≠ env.locals → h₄.get? c = some o → h₉.get? c = some o := fun c o hc e => hs₉.extBut _ o hc (hs₈.extBut _ o hc (g₇ _ o (hs₆.extBut _ o hc (g₅ _ o e))))
    have hst₉ := W.frame (i + 1) _ h₉ hst₄ fun c hc o e => kall c o (fun q => hLf (q ▸ hc)) e
    have hTT₉ : IsTup h₉ T #[a, b] := by obtain ⟨o, ho, r⟩ := hTT₄; exact ⟨o, kall _ o hTL ho, r⟩
    refine wpAny_mono (turn i x0 T a b m₁ _ _ hx0' hy0' hTT₉ F₉ N₉ hM) (fun f s₅ h₅ => ?_) fun _ _ e => e
    obtain ⟨hf, h', tk', rfl, kg⟩ := h₅
    have fin : ∃ mm, mm < n + 1 - i ∧ ZInv s₁ x r t z TI TO i1 i2 l1 l2 vs1 vs2 h₀ env.locals m₀ news n mm { s₁ with heap := h', toks := tk' } := by
      obtain ⟨vx, vr, vt, rfl⟩ := hM
      exact ⟨n + 1 - (i + 1), z3_lt hin, i + 1, _, h', tk', rfl, hin, rfl, W.frame (i + 1) _ h' hst₉ fun c hc o e => kg c o e, F₉.keeps kg, N₉.grown kg, some x0, some a, some b, z3_up⟩
    rcases hf with rfl | rfl
    · exact fin
    · exact fin
  · have hin' : i = n := by omega
    subst hin'
    refine W.done _ _ _ hst' fun h₃ tk₃ hk₃ => ?_
    refine wpAny_execs_nil ?_
    obtain ⟨vx, vr, vt, rfl⟩ := hM
    exact done h₃ tk₃ vx vr vt ⟨F'.ns.at' fun o e => hk₃ _ o hLw e, fun b o e => hk₃ b o (low _ (hold b o e)) (F'.keep b o e), F'.above⟩ fun p hp => ⟨hk₃ _ _ (low _ (hnb p hp)) (N' p hp).1, (N' p hp).2⟩
end
end Mine
-- Q1
namespace Mine
noncomputable abbrev isDg (c : Nat) : Prop := 48 ≤ c ∧ c ≤ 57
noncomputable abbrev NonAl (c : Nat) : Prop := Unicode.isAlpha c = false
/-- the figures of a number -/
noncomputable def figs (i : Int) : List Nat := (Str.ofString (toString i)).cps.toList
/-- the scan of a text for registers, from a place: the character ahead of it, the rest, what is found -/
inductive Told : Nat → List Nat → List Int → Prop
  | nil (p : Nat) : Told p [] []
  | skip {p c : Nat} {cs : List Nat} {ns : List Int} (ha : c < 128) (h : ¬ (c = 114 ∧ NonAl p ∧ ∃ d ds, cs = d :: ds ∧ isDg d)) (t : Told c cs ns) : Told p (c :: cs) ns
  | hit {p c : Nat} {i : Int} {cs : List Nat} {ns : List Int} (hp : NonAl p) (h0 : 0 ≤ i) (h1 : i < 100) (ha : c < 128) (hc : ¬ isDg c) (t : Told c cs ns) : Told p (114 :: figs i ++ c :: cs) (i :: ns)
  | last {p : Nat} {i : Int} (hp : NonAl p) (h0 : 0 ≤ i) (h1 : i < 100) : Told p (114 :: figs i) [i]
/-- plain, no r ahead of a figure, and none at the end -/
noncomputable def noR : List Nat → Bool
  | [] => true
  | [c] => c != 114 && decide (c < 128)
  | c :: d :: cs => (decide (c < 128) && (c != 114 || !(48 ≤ d && d ≤ 57))) && noR (d :: cs)
theorem noR_app : ∀ {s t : List Nat}, noR s = true → noR t = true → noR (s ++ t) = true
  | [], _, _, h => h
  | [c], [], h, _ => h
  | [c], d :: t, h, h2 => by
    simp only [noR, bne_iff_ne, List.cons_append, List.nil_append, Bool.and_eq_true, Bool.or_eq_true] at h ⊢
    exact ⟨⟨h.2, .inl h.1⟩, h2⟩
  | c :: d :: s, t, h, h2 => by
    simp only [noR, Bool.and_eq_true, List.cons_append] at h ⊢
    exact ⟨h.1, noR_app (s := d :: s) h.2 h2⟩
/-- the figures of a number, as digits -/
noncomputable def digs (m : Nat) : List Nat := (Nat.toDigits 10 m).map Char.toNat
theorem figs_nat (m : Nat) : figs (m : Int) = digs m := by
  show (Str.ofString (String.ofList (Nat.toDigits 10 m))).cps.toList = _
  rw [PySem.W.Fast.ofString_ofList]; rfl
theorem figs_neg (m : Nat) : figs (Int.negSucc m) = 45 :: digs (m + 1) := by
  show (Str.ofString ("-" ++ String.ofList (Nat.toDigits 10 (m + 1)))).cps.toList = _
  rw [show ("-" : String) = String.ofList ['-'] from rfl, ← String.ofList_append, PySem.W.Fast.ofString_ofList]; rfl
theorem digs_dg {m c : Nat} (h : c ∈ digs m) : 48 ≤ c ∧ c ≤ 57 := by
  obtain ⟨x, hx, rfl⟩ := List.mem_map.mp h
  exact Char.isDigit_iff_toNat.mp (Nat.isDigit_of_mem_toDigits (by decide) (by decide) hx)
theorem digs_ne (m : Nat) : digs m ≠ [] := fun e => Nat.toDigits_ne_nil (List.map_eq_nil_iff.mp e)
theorem digs_val (m : Nat) : (digs m).foldl (fun a c => 10 * a + (c - 48)) 0 = m := by
  have e := Nat.ofDigitChars_ten_toDigits (n := m)
  rw [Nat.ofDigitChars_eq_foldl] at e
  rw [digs, List.foldl_map]; exact e
theorem noR_low : ∀ {l : List Nat}, (∀ c ∈ l, c < 114) → noR l = true
  | [], _ => rfl
  | [c], h => by
    have := h c (.head _)
    simp only [noR, bne_iff_ne, Bool.and_eq_true, decide_eq_true_eq]; omega
  | c :: d :: cs, h => by
    have := h c (.head _)
    have r := noR_low (l := d :: cs) fun x hx => h x (.tail _ hx)
    simp only [noR, r, bne_iff_ne, Bool.and_eq_true, Bool.or_eq_true, decide_eq_true_eq, and_true]
    exact ⟨by omega, .inl (by omega)⟩
theorem figs_split (i : Int) : (∃ m : Nat, i = m ∧ figs i = digs m) ∨ ∃ m : Nat, i = - (m : Int) ∧ figs i = 45 :: digs m := by
  cases i with
  | ofNat m => exact .inl ⟨m, rfl, figs_nat m⟩
  | negSucc m => exact .inr ⟨m + 1, by simp [Int.negSucc_eq], figs_neg m⟩
theorem figs_low {i : Int} {c : Nat} (h : c ∈ figs i) : c = 45 ∨ (48 ≤ c ∧ c ≤ 57) := by
  rcases figs_split i with ⟨m, _, e⟩ | ⟨m, _, e⟩
  · rw [e] at h; exact .inr (digs_dg h)
  · rw [e] at h
    rcases List.mem_cons.mp h with h | h
    · exact .inl h
    · exact .inr (digs_dg h)
theorem Told.noR : ∀ {s t : List Nat} {ns : List Int} {p : Nat}, Mine.noR s = true → Told (s.getLastD p) t ns → Told p (s ++ t) ns
  | [], _, _, _, _, h => h
  | [c], t, ns, p, h, h2 => by
    simp only [Mine.noR, bne_iff_ne, Bool.and_eq_true, decide_eq_true_eq] at h
    exact .skip h.2 (fun q => h.1 q.1) h2
  | c :: d :: s, t, ns, p, h, h2 => by
    simp only [Mine.noR, Bool.and_eq_true, decide_eq_true_eq] at h
    refine .skip h.1.1 (fun q => ?_) (Told.noR (s := d :: s) h.2 (by simpa only [List.getLastD_cons] using h2))
    obtain ⟨q1, _, d', ds, q2, q3⟩ := q
    obtain ⟨rfl, rfl⟩ := List.cons.inj (by simpa using q2)
    have := h.1.2
    simp [q1, q3.1, q3.2] at this
theorem Told.noR' {s : List Nat} {p : Nat} (h : Mine.noR s = true) : Told p s [] := by
  have := Told.noR (p := p) h (.nil _)
  simpa using this
noncomputable abbrev Sep (c : Nat) : Prop := ¬ isDg c ∧ c ≠ 114 ∧ c < 128
/-- a text that tells ns, wherever it stands behind a character that is no letter and ahead of one that is neither figure nor r -/
noncomputable def Tells (s : List Nat) (ns : List Int) : Prop := (∀ p, NonAl p → Told p s ns) ∧ ∀ p c t ms, NonAl p → Sep c → Told c t ms → Told p (s ++ c :: t) (ns ++ ms)
theorem Tells.noR {s : List Nat} (h : Mine.noR s = true) : Tells s [] := ⟨fun _ _ => Told.noR' h, fun p c t ms hp hc ht => Told.noR h (.skip hc.2.2 (fun q => hc.2.1 q.1) ht)⟩
theorem Tells.reg {i : Int} (h0 : 0 ≤ i) (h1 : i < 100) : Tells (114 :: figs i) [i] := ⟨fun _ hp => .last hp h0 h1, fun p c t ms hp hc ht => by simpa using Told.hit hp h0 h1 hc.2.2 hc.1 ht⟩
/-- a ++ c ++ b, c a character that is no letter and no figure -/
theorem Tells.app {s t : List Nat} {ns ms : List Int} {c : Nat} (a : Tells s ns) (hc : Sep c) (hn : NonAl c) (b : Tells t ms) : Tells (s ++ c :: t) (ns ++ ms) := by
  refine ⟨fun p hp => a.2 p c t ms hp hc (b.1 c hn), fun p d u ls hp hd hu => ?_⟩
  rw [List.append_assoc, List.append_assoc]
  exact a.2 p c _ _ hp hc (b.2 c d u ls hn hd hu)
/-- clean text ahead, ending in no letter -/
theorem Tells.front {s t : List Nat} {ms : List Int} (hs : Mine.noR s = true) (hl : NonAl (s.getLastD 32)) (b : Tells t ms) : Tells (s ++ t) ms := by
  cases s with
  | nil => exact b
  | cons x s =>
    have e : ∀ p, (x :: s).getLastD p = (x :: s).getLastD 32 := fun p => by rw [List.getLastD_cons, List.getLastD_cons]
    refine ⟨fun p hp => Told.noR hs (by rw [e]; exact b.1 _ hl), fun p d u ls hp hd hu => ?_⟩
    rw [List.append_assoc]
    exact Told.noR hs (by rw [e]; exact b.2 _ d u ls hl hd hu)
/-- clean text behind, beginning with a character that is neither figure nor r -/
theorem Tells.back {s t : List Nat} {ns : List Int} {c : Nat} (a : Tells s ns) (hc : Sep c) (ht : Mine.noR (c :: t) = true) : Tells (s ++ c :: t) ns := by
  have ht2 : Mine.noR t = true := by cases t with
    | nil => rfl
    | cons d t => simp only [Mine.noR, Bool.and_eq_true] at ht; exact ht.2
  refine ⟨fun p hp => ?_, fun p d u ls hp hd hu => ?_⟩
  · have := a.2 p c t [] hp hc (Told.noR' ht2)
    simpa using this
  · rw [List.append_assoc]
    exact a.2 p c _ _ hp hc (Told.noR ht2 (.skip hd.2.2 (fun q => hd.2.1 q.1) hu))
end Mine
-- Q3
namespace Mine
noncomputable abbrev sp : Str := ⟨#[32]⟩
theorem list_cut {a b w r : List Nat} (ha : 32 ∉ a) (hw : 32 ∉ w) (e : a ++ 32 :: b = w ++ 32 :: r) : a = w ∧ b = r := by
  induction a generalizing w with
  | nil =>
    cases w with
    | nil => exact ⟨rfl, by simpa using e⟩
    | cons x w =>
      have := (List.cons.inj (show 32 :: b = x :: (w ++ 32 :: r) from e)).1
      exact absurd (this ▸ List.mem_cons_self ..) hw
  | cons x a ih =>
    cases w with
    | nil =>
      have := (List.cons.inj (show x :: (a ++ 32 :: b) = 32 :: r from e)).1
      exact absurd (this ▸ List.mem_cons_self ..) ha
    | cons y w =>
      obtain ⟨rfl, e2⟩ := List.cons.inj (by simpa using e)
      obtain ⟨rfl, rfl⟩ := ih (fun q => ha (.tail _ q)) (fun q => hw (.tail _ q)) e2
      exact ⟨rfl, rfl⟩
theorem words_cut {W : List Str} {w r : List Nat} (hW : ∀ p ∈ W, 32 ∉ p.cps.toList) (hw : 32 ∉ w) (e : (Str.join sp W).cps.toList = w ++ 32 :: r) : ∃ W', W = ⟨w.toArray⟩ :: W' ∧ (Str.join sp W').cps.toList = r ∧ W' ≠ [] := by
  match W, hW, e with
  | [], _, e => simp [Str.join, Str.empty] at e
  | [x], hW, e =>
    exact absurd (by rw [show (Str.join sp [x]) = x from rfl] at e; rw [e]; simp) (hW x (.head _))
  | x :: y :: W, hW, e =>
    have e2 : (Str.join sp (x :: y :: W)).cps.toList = x.cps.toList ++ 32 :: (Str.join sp (y :: W)).cps.toList := by
      show ((x ++ sp ++ Str.join sp (y :: W)).cps).toList = _
      show ((x.cps ++ #[32]) ++ (Str.join sp (y :: W)).cps).toList = _
      simp
    rw [e2] at e
    obtain ⟨h1, h2⟩ := list_cut (hW x (.head _)) hw e
    refine ⟨y :: W, ?_, h2, by simp⟩
    rw [← h1]
theorem words_end {W : List Str} {w : List Nat} (hW : ∀ p ∈ W, 32 ∉ p.cps.toList) (hn : W ≠ []) (hw : 32 ∉ w) (e : (Str.join sp W).cps.toList = w) : W = [⟨w.toArray⟩] := by
  match W, hW, e with
  | [], _, e => exact absurd rfl hn
  | [x], hW, e => rw [← e]; rfl
  | x :: y :: W, hW, e =>
    have e2 : (Str.join sp (x :: y :: W)).cps.toList = x.cps.toList ++ 32 :: (Str.join sp (y :: W)).cps.toList := by
      show ((x.cps ++ #[32]) ++ (Str.join sp (y :: W)).cps).toList = _
      simp
    exact absurd (by rw [← e, e2]; simp) hw
theorem words_of : ∀ (ws : List (List Nat)) {W : List Str} {r : List Nat}, (∀ p ∈ W, 32 ∉ p.cps.toList) → W ≠ [] → (∀ w ∈ ws, 32 ∉ w) → (Str.join sp W).cps.toList = (ws.map (· ++ [32])).flatten ++ r →
    ∃ W', W = ws.map (fun w => ⟨w.toArray⟩) ++ W' ∧ (Str.join sp W').cps.toList = r ∧ W' ≠ [] ∧ ∀ p ∈ W', 32 ∉ p.cps.toList
  | [], W, r, hW, hn, _, e => ⟨W, rfl, by simpa using e, hn, hW⟩
  | w :: ws, W, r, hW, hn, hws, e => by
    obtain ⟨W1, rfl, e2, hn2⟩ := words_cut (w := w) (r := (ws.map (· ++ [32])).flatten ++ r) hW (hws w (.head _)) (by rw [e]; simp)
    obtain ⟨W', rfl, e3, h3, h4⟩ := words_of ws (fun p hp => hW p (.tail _ hp)) hn2 (fun v hv => hws v (.tail _ hv)) e2
    exact ⟨W', by simp, e3, h3, h4⟩
/-- the words of a text that begins with ws, each followed by a blank -/
theorem split_of (x : Str) (ws : List (List Nat)) {r : List Nat} (hws : ∀ w ∈ ws, 32 ∉ w) (e : x.cps.toList = (ws.map (· ++ [32])).flatten ++ r) :
    ∃ W', Txt.split x sp = ws.map (fun w => ⟨w.toArray⟩) ++ W' ∧ (Str.join sp W').cps.toList = r ∧ W' ≠ [] ∧ ∀ p ∈ W', 32 ∉ p.cps.toList := by
  refine words_of ws (StrLaws.split_free x 32) (fun q => ?_) hws ?_
  · have := PyProof.Rows.split_pos x sp
    rw [q] at this; simp at this
  · rw [StrLaws.join_split]; exact e
end Mine
-- Q2
namespace Mine
noncomputable abbrev tx (x : Str) : List Nat := x.cps.toList
theorem tx_app (x y : Str) : tx (x ++ y) = tx x ++ tx y := by
  show (x.cps ++ y.cps).toList = _
  simp
theorem figs_is (i : Int) : tx (sInt i) = figs i := rfl
theorem figs_is' (i : Int) : tx (Str.ofString (toString i)) = figs i := rfl
theorem figs_noR2 (i : Int) (h0 : -1000 < i) (h1 : i < 1000) : Mine.noR (figs i) = true := noR_low fun c h => by have := figs_low h; omega
theorem noR_join {sep : Str} (hs : Mine.noR (tx sep) = true) : ∀ {xs : List Str}, (∀ x ∈ xs, Mine.noR (tx x) = true) → Mine.noR (tx (Str.join sep xs)) = true
  | [], _ => rfl
  | [x], h => h x (.head _)
  | x :: y :: xs, h => by
    show Mine.noR (tx (x ++ sep ++ Str.join sep (y :: xs))) = true
    rw [tx_app, tx_app]
    exact noR_app (noR_app (h x (.head _)) hs) (noR_join hs fun z hz => h z (.tail _ hz))
theorem octets_noR (b : Array UInt8) : ∀ x ∈ octets b, Mine.noR (tx x) = true := fun x hx => by
  simp only [octets, List.mem_map] at hx
  obtain ⟨c, _, rfl⟩ := hx
  have := c.toNat_lt
  exact figs_noR2 _ (by omega) (by omega)
theorem noR_ctext : ∀ (n : Nat) (d : Dat), cvOk n d = true → Mine.noR (tx (ctext n d)) = true := by
  have hb : ∀ (n : Nat) (b : Array UInt8), Mine.noR (tx (ctext n (.bytes b))) = true := fun n b => by
    have e : ctext n (.bytes b) = Str.ofString "[" ++ Str.join (Str.ofString " ") (octets b) ++ Str.ofString "]" := by cases n <;> rfl
    rw [e, tx_app, tx_app]
    exact noR_app (noR_app (by decide) (noR_join (by decide) (octets_noR b))) (by decide)
  have hsc : ∀ (n : Nat) (i : Int), cvOk n (.int i) = true → Mine.noR (tx (ctext n (.int i))) = true := fun n i h => by
    have h2 : -1000 < i ∧ i < 1000 := by cases n <;> simpa [cvOk] using h
    have e : ctext n (.int i) = Str.ofString (toString i) := by cases n <;> rfl
    rw [e]; exact figs_noR2 i h2.1 h2.2
  have hbo : ∀ (n : Nat) (b : Bool), Mine.noR (tx (ctext n (.bool b))) = true := fun n b => by
    cases n <;> cases b <;> simp only [ctext] <;> decide
  have hno : ∀ (n : Nat), Mine.noR (tx (ctext n .none)) = true := fun n => by
    cases n <;> simp only [ctext] <;> decide
  intro n
  induction n with
  | zero =>
    intro d h
    cases d with
    | none => exact hno 0
    | bool b => exact hbo 0 b
    | int i => exact hsc 0 i h
    | bytes b => exact hb 0 b
    | _ => simp [cvOk] at h
  | succ n ih =>
    intro d h
    cases d with
    | none => exact hno _
    | bool b => exact hbo _ b
    | int i => exact hsc _ i h
    | bytes b => exact hb _ b
    | tuple ds =>
      simp only [cvOk, Bool.and_eq_true, decide_eq_true_eq, List.all_eq_true] at h
      have h1 : ∀ y ∈ ds.map (celt (ctext n)), Mine.noR (tx y) = true := fun y hy => by
        obtain ⟨d, hd, rfl⟩ := List.mem_map.mp hy
        have hc := h.2 d hd
        cases d with
        | str x =>
          simp only [cokF, cw, Bool.or_eq_true, decide_eq_true_eq] at hc
          rcases hc with rfl | rfl <;> (simp only [celt]; decide)
        | _ => exact ih _ hc
      simp only [ctext, tx_app]
      exact noR_app (noR_app (by decide) (noR_join (by decide) h1)) (by decide)
    | _ => simp [cvOk] at h
theorem noR_ty {d : Dat} (h : d ∈ kinds) : Mine.noR (tx (tyText d)) = true := by
  simp only [kinds, List.mem_cons, List.not_mem_nil, or_false] at h
  rcases h with rfl | rfl | rfl | rfl <;> decide
theorem tells_op {o : Dat} (h : OpOk o) : Tells (tx (opText o)) (opRegs o) := by
  cases h with
  | reg i h0 h1 =>
    show Tells (tx (Str.ofString "r" ++ Str.ofString (toString i))) [i]
    rw [tx_app, show tx (Str.ofString "r") = [114] from by decide]
    exact Tells.reg h0 h1
  | const k c hk hc =>
    have e : opText (.tuple [.str (Str.ofString "const"), k, c]) = ctext 4 c ++ Str.ofString ": " ++ tyText k := by cases k <;> rfl
    have e2 : opRegs (.tuple [.str (Str.ofString "const"), k, c]) = [] := by cases c <;> first | rfl | (cases k <;> rfl)
    rw [e, e2, tx_app, tx_app]
    exact Tells.noR (noR_app (noR_app (noR_ctext 4 c hc) (by decide)) (noR_ty hk))
inductive TellsL : List Str → List Int → Prop
  | nil : TellsL [] []
  | cons {x : Str} {ns ms : List Int} {xs : List Str} (a : Tells (tx x) ns) (b : TellsL xs ms) : TellsL (x :: xs) (ns ++ ms)
theorem Tells.join_sp : ∀ {xs : List Str} {ns : List Int}, TellsL xs ns → Tells (tx (Str.join (Str.ofString " ") xs)) ns
  | [], _, h => by cases h; exact Tells.noR (by decide)
  | [x], _, h => by
    cases h with
    | cons a b => cases b; rw [List.append_nil]; exact a
  | x :: y :: xs, _, h => by
    cases h with
    | cons a b =>
      show Tells (tx (x ++ Str.ofString " " ++ Str.join (Str.ofString " ") (y :: xs))) _
      rw [tx_app, tx_app, show tx (Str.ofString " ") = [32] from by decide, List.append_assoc]
      exact Tells.app a (by decide) (by decide +kernel) (Tells.join_sp b)
theorem Tells.join_co : ∀ {xs : List Str} {ns : List Int}, TellsL xs ns → Tells (tx (Str.join (Str.ofString ", ") xs)) ns
  | [], _, h => by cases h; exact Tells.noR (by decide)
  | [x], _, h => by
    cases h with
    | cons a b => cases b; rw [List.append_nil]; exact a
  | x :: y :: xs, _, h => by
    cases h with
    | cons a b =>
      show Tells (tx (x ++ Str.ofString ", " ++ Str.join (Str.ofString ", ") (y :: xs))) _
      rw [tx_app, tx_app, show tx (Str.ofString ", ") = [44, 32] from by decide, List.append_assoc]
      exact Tells.app a (by decide) (by decide +kernel) (Tells.front (s := [32]) (by decide) (by decide +kernel) (Tells.join_co b))
theorem Tells.paren {J : Str} {ns : List Int} (a : Tells (tx J) ns) : Tells (tx (Str.ofString "(" ++ J ++ Str.ofString ")")) ns := by
  rw [tx_app, tx_app, show tx (Str.ofString "(") = [40] from by decide, show tx (Str.ofString ")") = [41] from by decide, List.append_assoc]
  exact Tells.front (s := [40]) (by decide) (by decide +kernel) (Tells.back a (by decide) (by decide))
theorem ptext_tup {n : Nat} {ds : List Dat} (h1 : isOp (.tuple ds) = false) (h2 : isTold (.tuple ds) = false) : ptext (n + 1) (.tuple ds) = Str.ofString "(" ++ Str.join (Str.ofString ", ") (ds.map (ptext n)) ++ Str.ofString ")" := by
  simp only [ptext, h1, h2, Bool.false_eq_true, if_false]
theorem ptext_int (n : Nat) (i : Int) : ptext n (.int i) = sInt i := by cases n <;> rfl
theorem ptext_str (n : Nat) (x : Str) : ptext n (.str x) = x := by cases n <;> rfl
theorem ptext_none (n : Nat) : ptext n .none = Str.ofString "none" := by cases n <;> rfl
theorem op_tuple {o : Dat} (h : OpOk o) : ∃ ds, o = .tuple ds := by cases h <;> exact ⟨_, rfl⟩
theorem kind_tuple {o : Dat} (h : o ∈ kinds) : ∃ ds, o = .tuple ds := by
  simp only [kinds, List.mem_cons, List.not_mem_nil, or_false] at h
  rcases h with rfl | rfl | rfl | rfl <;> exact ⟨_, rfl⟩
/-- a tuple whose first item is a tuple -/
theorem tt_op (ds es : List Dat) : isOp (.tuple (.tuple ds :: es)) = false := rfl
theorem tt_told (ds es : List Dat) : isTold (.tuple (.tuple ds :: es)) = false := rfl
theorem tells_int (i : Int) (h0 : 0 ≤ i) (h1 : i < 100) : Tells (tx (sInt i)) [] := Tells.noR (figs_noR2 i (by omega) (by omega))
theorem tells_pair {a b : Dat} (ha : OpOk a) (hb : OpOk b) (n : Nat) : Tells (tx (ptext (n + 1) (.tuple [a, b]))) (opRegs a ++ opRegs b) := by
  obtain ⟨ds, e⟩ := op_tuple ha
  rw [ptext_tup (by rw [e]; rfl) (by rw [e]; rfl)]
  refine Tells.paren (Tells.join_co ?_)
  rw [List.map_cons, List.map_cons, List.map_nil, ptext_op _ ha, ptext_op _ hb]
  simpa using TellsL.cons (tells_op ha) (TellsL.cons (tells_op hb) TellsL.nil)
theorem tells_kinds {a b : Dat} (ha : a ∈ kinds) (hb : b ∈ kinds) (n : Nat) : Tells (tx (ptext (n + 1) (.tuple [a, b]))) [] := by
  obtain ⟨ds, e⟩ := kind_tuple ha
  rw [ptext_tup (by rw [e]; rfl) (by rw [e]; rfl)]
  refine Tells.paren (Tells.join_co ?_)
  rw [List.map_cons, List.map_cons, List.map_nil, ptext_kind _ ha, ptext_kind _ hb]
  simpa using TellsL.cons (Tells.noR (noR_ty ha)) (TellsL.cons (Tells.noR (noR_ty hb)) TellsL.nil)
theorem reg_ok {i : Int} (h0 : 0 ≤ i) (h1 : i < 100) : OpOk (dReg i) := .reg i h0 h1
theorem tells_called {c : Dat} {led : List Int} (h : Called c led) (n : Nat) : Tells (tx (ptext (n + 1) c)) led := by
  cases h with
  | fn e =>
    rw [ptext_tup (by decide) (by decide)]
    refine Tells.paren (Tells.join_co ?_)
    rw [List.map_cons, List.map_cons, List.map_nil, ptext_str, ptext_str]
    simpa using TellsL.cons (Tells.noR (s := tx (Str.ofString "fn")) (by decide)) (TellsL.cons (Tells.noR (s := tx (Str.ofString "main.g")) (by decide)) TellsL.nil)
  | value e h0 h1 =>
    rw [ptext_tup (by simp [isOp]; decide) (by simp [isTold, isOp]; decide)]
    refine Tells.paren (Tells.join_co ?_)
    rw [List.map_cons, List.map_cons, List.map_nil, ptext_op _ (reg_ok h0 (by omega)), ptext_str]
    have := TellsL.cons (Tells.noR (s := tx (Str.ofString "value")) (by decide)) (TellsL.cons (tells_op (reg_ok h0 (show e < 100 by omega))) TellsL.nil)
    simpa [opRegs, dReg] using this
  | face e h0 h1 =>
    rw [ptext_tup (by simp [isOp]; decide) (by simp [isTold, isOp]; decide)]
    refine Tells.paren (Tells.join_co ?_)
    rw [List.map_cons, List.map_cons, List.map_cons, List.map_nil, ptext_op _ (reg_ok h0 (by omega)), ptext_str, ptext_str]
    have := TellsL.cons (Tells.noR (s := tx (Str.ofString "face")) (by decide)) (TellsL.cons (tells_op (reg_ok h0 (show e < 100 by omega))) (TellsL.cons (Tells.noR (s := tx (Str.ofString "Area")) (by decide)) TellsL.nil))
    simpa [opRegs, dReg] using this
theorem tells_site (j : Int) (h0 : 0 ≤ j) (h1 : j < 40) (n : Nat) : Tells (tx (ptext (n + 1) (dSite j))) [] := by
  show Tells (tx (ptext (n + 1) (.tuple [_, _]))) []
  rw [ptext_tup (by simp [isOp]; decide) (by simp [isTold, isOp]; decide)]
  refine Tells.paren (Tells.join_co ?_)
  rw [List.map_cons, List.map_cons, List.map_nil, ptext_str, ptext_int]
  simpa using TellsL.cons (Tells.noR (s := tx (Str.ofString "main.f")) (by decide)) (TellsL.cons (tells_int j h0 (by omega)) TellsL.nil)
end Mine
-- Q5
namespace Mine
theorem isOp_pair {a b : Dat} (h : OpOk a) : isOp (.tuple [a, b]) = false := by cases h <;> rfl
theorem isTold_op {a : Dat} {r : List Dat} (h : OpOk a) : isTold (.tuple (a :: r)) = false := by cases h <;> rfl
theorem headOk_op {a : Dat} {r : List Dat} (h : OpOk a) : headOk (.tuple (a :: r)) = true := by cases h <;> rfl
theorem part_pair {n : Nat} {a b : Dat} (h1 : OpOk a) (h2 : OpOk b) : PartOk (n + 1) (.tuple [a, b]) := by
  refine .tup n _ (isOp_pair h1) (isTold_op h1) (headOk_op h1) (by simp) fun d hd => ?_
  simp only [List.mem_cons, List.not_mem_nil, or_false] at hd
  rcases hd with rfl | rfl
  · exact .op _ _ h1
  · exact .op _ _ h2
theorem part_kinds {n : Nat} {k : Dat} (h : k ∈ kinds) : PartOk (n + 1) (.tuple [k, k]) := by
  refine .tup n _ ?_ ?_ ?_ (by simp) fun d hd => ?_
  · simp only [kinds, List.mem_cons, List.not_mem_nil, or_false] at h
    rcases h with rfl | rfl | rfl | rfl <;> rfl
  · simp only [kinds, List.mem_cons, List.not_mem_nil, or_false] at h
    rcases h with rfl | rfl | rfl | rfl <;> rfl
  · simp only [kinds, List.mem_cons, List.not_mem_nil, or_false] at h
    rcases h with rfl | rfl | rfl | rfl <;> rfl
  · simp only [List.mem_cons, List.not_mem_nil, or_false] at hd
    rcases hd with rfl | rfl <;> exact .kind _ _ h
theorem part_reg {n : Nat} {e : Int} (h0 : 0 ≤ e) (h1 : e < 14) : PartOk n (dReg e) := .op _ _ (.reg e h0 (by omega))
theorem part_called {n : Nat} {c : Dat} {led : List Int} (h : Called c led) : PartOk (n + 1) c := by
  cases h with
  | fn =>
    refine .tup n _ rfl rfl rfl (by simp) fun d hd => ?_
    simp only [List.mem_cons, List.not_mem_nil, or_false] at hd
    rcases hd with rfl | rfl <;> exact .str _ _ (by decide)
  | value e h0 h1 =>
    refine .tup n _ rfl rfl rfl (by simp) fun d hd => ?_
    simp only [List.mem_cons, List.not_mem_nil, or_false] at hd
    rcases hd with rfl | rfl
    · exact .str _ _ (by decide)
    · exact part_reg h0 h1
  | face e h0 h1 =>
    refine .tup n _ rfl rfl rfl (by simp) fun d hd => ?_
    simp only [List.mem_cons, List.not_mem_nil, or_false] at hd
    rcases hd with rfl | rfl | rfl
    · exact .str _ _ (by decide)
    · exact part_reg h0 h1
    · exact .str _ _ (by decide)
theorem part_site {n : Nat} {j : Int} (h0 : 0 ≤ j) (h1 : j < 40) : PartOk (n + 1) (dSite j) := by
  refine .tup n _ rfl rfl rfl (by simp) fun d hd => ?_
  simp only [List.mem_cons, List.not_mem_nil, or_false] at hd
  rcases hd with rfl | rfl
  · exact .str _ _ (by decide)
  · exact .int _ _ (by omega) (by omega)
theorem part_nil {n : Nat} : PartOk (n + 1) (.tuple []) := .tup n _ rfl rfl rfl (by simp) (by simp)
theorem all_nil {P : Dat → Prop} : ∀ d ∈ ([] : List Dat), P d := fun _ h => by cases h
theorem words18 : True := by
  k_with_none
  (k_with "base k_mem" => first | exact Mine.memAt 0 rfl | exact Mine.memAt 1 rfl | exact Mine.memAt 2 rfl | exact Mine.memAt 3 rfl | exact Mine.memAt 4 rfl | exact Mine.memAt 5 rfl | exact Mine.memAt 6 rfl | exact Mine.memAt 7 rfl | (refine Mine.memSkip 8 rfl ?_; k_mem))
  (k_with "base k_all" => first | exact Mine.allNe (by with_reducible assumption) | with_reducible assumption | exact List.forall_mem_nil _ | (with_reducible refine' Mine.allApp ?a ?b; (case a => k_all); (case b => k_all)) | (refine' List.forall_mem_cons.mpr ⟨?a, ?b⟩; (case a => k_ne); (case b => k_all)) | assumption)
  (k_with "base k_ne" => first | with_reducible assumption | (refine Mine.ne_hi ?_; exact Mine.lt_mem (by with_reducible assumption) (by k_mem)) | exact Mine.neAt (by with_reducible assumption) (by k_mem) | exact Mine.neAt' (by with_reducible assumption) (by k_mem) | (refine Mine.ne_hi ?_; with_reducible first | assumption | exact Mine.pj0 (by assumption) | exact Mine.pj1 (by assumption) | exact Mine.pl1 (by assumption) | exact Mine.pj2 (by assumption) | exact Mine.pl2 (by assumption) | exact Mine.pj3 (by assumption) | exact Mine.pl3 (by assumption) | exact Mine.pj4 (by assumption) | exact Mine.pl4 (by assumption) | exact Mine.pj5 (by assumption) | exact Mine.pl5 (by assumption) | exact Mine.pj6 (by assumption) | exact Mine.pl6 (by assumption) | exact Mine.pj7 (by assumption) | exact Mine.pl7 (by assumption) | exact Mine.pj8 (by assumption) | exact Mine.pj9 (by assumption) | exact Mine.pj10 (by assumption) | exact Mine.pj11 (by assumption) | exact Mine.pj12 (by assumption) | exact Mine.pj13 (by assumption) | exact Mine.pj14 (by assumption)) | exact Ne.symm (by with_reducible assumption) | exact Ne.symm (by assumption) | (refine neN ?_; (try dsimp only); omega))
  (k_with "base k_steps" => (try ((fail_if_success (fail_if_success k_fold)); refine (let Q9z : _ → Shared → Prop := _; (?_ : wpAny _ _ _ Q9z _ _)))); (try ((fail_if_success (fail_if_success (conv in (Shared.mk _ _ _ _ _) => skip))); refine (let s9z : Shared := _; (?_ : wpAny _ _ _ _ _ s9z)))); (try ((with_reducible rename News _ _ _ (List.cons _ _) => N9z); refine (let NW9z : List (Addr × Obj) := _; have N8z : News _ _ _ (Mine.Fold NW9z) := N9z; ?_); clear N9z)); (try ((with_reducible rename Fr _ _ _ (fun _ => ite _ _ _) => F9z); refine (let FM9z : Str → Option Value := _; have F8z : Fr _ _ _ (Mine.Fold FM9z) := F9z; ?_); clear F9z)); repeat' (first | ((fail_if_success (fail_if_success k_unfold)); refine (?_ : wpAny _ _ _ _ _ _); (try ((fail_if_success (fail_if_success k_fold)); refine (let Q9z : _ → Shared → Prop := _; (?_ : wpAny _ _ _ Q9z _ _)))); (try ((fail_if_success (fail_if_success (conv in (Shared.mk _ _ _ _ _) => skip))); refine (let s9z : Shared := _; (?_ : wpAny _ _ _ _ _ s9z))))) | (k_unfold; (try dsimp only)) | (k_end; wrow_close) | ((first | walk1 | (dsimp only; walk1)); (try ((fail_if_success (fail_if_success k_fold)); refine (let Q9z : _ → Shared → Prop := _; (?_ : wpAny _ _ _ Q9z _ _)))); (try ((fail_if_success (fail_if_success (conv in (Shared.mk _ _ _ _ _) => skip))); refine (let s9z : Shared := _; (?_ : wpAny _ _ _ _ _ s9z)))); (try ((with_reducible rename News _ _ _ (List.cons _ _) => N9z); refine (let NW9z : List (Addr × Obj) := _; have N8z : News _ _ _ (Mine.Fold NW9z) := N9z; ?_); clear N9z)); (try ((with_reducible rename Fr _ _ _ (fun _ => ite _ _ _) => F9z); refine (let FM9z : Str → Option Value := _; have F8z : Fr _ _ _ (Mine.Fold FM9z) := F9z; ?_); clear F9z))) | (leave1; walk_say "STEP leave1"; try dsimp only) | fail "no step"))
  (k_with "own parts" => repeat' (first | exact all_nil | refine List.forall_mem_cons.mpr ⟨?_, ?_⟩))
  (k_with "own part1" => first | exact .str _ _ (by decide) | exact .none _ | exact .bool _ _ | exact .int _ _ (by omega) (by omega) | exact .op _ _ (by assumption) | exact .kind _ _ (by assumption) | exact part_pair (by assumption) (by assumption) | exact part_kinds (by assumption) | exact part_called (by assumption) | exact part_site (by assumption) (by assumption) | exact part_nil)
  trivial
theorem InsRow.insOk {d : Dat} {ns : List Int} (h : InsRow d ns) : InsOk d := by
  cases h
  all_goals refine InsOk.mk _ _ (by decide) (by simp) ?_
  case select a b d e ha hb h0 h1 h2 h3 =>
    (walk_at "own parts")
    · (walk_at "own part1")
    · (walk_at "own part1")
    · (walk_at "own part1")
    · refine .tup 1 _ rfl rfl rfl (by simp) fun d hd => ?_
      rw [List.mem_singleton.mp hd]
      refine .tup 0 _ rfl rfl rfl (by simp) ?_
      (walk_at "own parts") <;> (walk_at "own part1")
    · (walk_at "own part1")
  case call a b c d led ha hb hc h0 h1 =>
    (walk_at "own parts")
    · refine .tup 1 _ rfl rfl rfl (by simp) fun d hd => ?_
      rw [List.mem_singleton.mp hd]
      (walk_at "own part1")
    · (walk_at "own part1")
    · (walk_at "own part1")
  all_goals ((walk_at "own parts") <;> (walk_at "own part1"))
theorem EndRow.insOk {d : Dat} {ns : List Int} (h : EndRow d ns) : InsOk d := by
  cases h
  all_goals refine InsOk.mk _ _ (by decide) (by simp) ?_
  all_goals ((walk_at "own parts") <;> (walk_at "own part1"))
/-- the code that law draws -/
noncomputable def codeOf (ds : List Dat) (bs : List BD) (ro : Option Int) : CodeD := ⟨Str.ofString "main.f", 2, ds, bs.map blkOf, 1, 3, ro⟩
theorem codeOk_of {ds : List Dat} {bs : List BD} {ro : Option Int} (hds : ∀ d ∈ ds, d ∈ kinds) (hl : ds.length = 14) (hbs : ∀ b ∈ bs, BDOk b) (hb : bs.length ≤ 4) (hro : ro = none ∨ ro = some 0) : CodeOk (codeOf ds bs ro) where
  key := by show (Str.ofString "main.f").length ≤ 100; decide
  p := by show (0 : Int) ≤ 2 ∧ (2 : Int) < 1000; omega
  ca := by show (0 : Int) ≤ 1 ∧ (1 : Int) < 1000; omega
  re := by show (0 : Int) ≤ 3 ∧ (3 : Int) < 1000; omega
  rc := fun i h => by
    rcases hro with e | e
    · rw [show (codeOf ds bs ro).recovery = ro from rfl, e] at h; cases h
    · rw [show (codeOf ds bs ro).recovery = ro from rfl, e] at h; cases h; omega
  regs := hds
  nregs := by show ds.length < 100; omega
  nblks := by show (bs.map blkOf).length < 100; simp; omega
  blks := fun b h => by
    obtain ⟨b', hb', rfl⟩ := List.mem_map.mp h
    have k := hbs b' hb'
    refine ⟨?_, fun d hd => ?_, k.fin.insOk⟩
    · have := k.len; show (b'.1.map (·.1)).length < 100; simp; omega
    · obtain ⟨r, hr, rfl⟩ := List.mem_map.mp hd
      exact (k.rows r hr).insOk
noncomputable def dueText : DueE → Str
  | .head x => x
  | .row d _ => Str.ofString "  " ++ itext d
noncomputable def DueOk : DueE → Prop
  | .head _ => True
  | .row d ns => InsRow d ns ∨ EndRow d ns
theorem blk_dues (i : Nat) (b : BD) : blkRows i (blkOf b) = (dues1 i b).map dueText := by
  obtain ⟨rs, re⟩ := b
  simp [blkRows, blkOf, dues1, headE, dueText, Function.comp_def]
theorem rows_dues (bs : List BD) : ((bs.map blkOf).mapIdx blkRows).flatten = (dues bs).map dueText := by
  unfold dues
  rw [List.map_flatten]
  congr 1
  apply List.ext_getElem
  · simp
  · intro i h1 h2
    simp only [List.getElem_mapIdx, List.getElem_map]
    exact blk_dues i _
theorem dues_ok {bs : List BD} (hbs : ∀ b ∈ bs, BDOk b) : ∀ e ∈ dues bs, DueOk e := by
  intro e he
  unfold dues at he
  obtain ⟨l, hl, he⟩ := List.mem_flatten.mp he
  obtain ⟨i, hi, rfl⟩ := List.mem_mapIdx.mp hl
  have k := hbs bs[i] (List.getElem_mem hi)
  rcases List.mem_cons.mp he with rfl | he
  · trivial
  · obtain ⟨r, hr, rfl⟩ := List.mem_map.mp he
    rcases List.mem_append.mp hr with hr | hr
    · exact .inl (k.rows r hr)
    · rw [List.mem_singleton.mp hr]; exact .inr k.fin
noncomputable def recT (ro : Option Int) : Str := match ro with | none => Str.ofString "" | some _ => Str.ofString ", recovery b0"
theorem head_of {ds : List Dat} {bs : List BD} {ro : Option Int} (hro : ro = none ∨ ro = some 0) : headText (codeOf ds bs ro) = Str.ofString "main.f: captured 1, parameters 2, results 3" ++ recT ro := by
  rcases hro with rfl | rfl
  · simp only [headText, codeOf]; decide +kernel
  · simp only [headText, codeOf]; decide +kernel
theorem crows_of (ds : List Dat) (bs : List BD) (ro : Option Int) : crows (codeOf ds bs ro) = (headText (codeOf ds bs ro) :: ds.mapIdx regRow) ++ (dues bs).map dueText := by
  rw [← rows_dues]; rfl
end Mine
-- Q6
namespace Mine
theorem len_app (a b : Str) : (a ++ b).length = a.length + b.length := Str.length_append a b
theorem dues_len {bs : List BD} (hbs : ∀ b ∈ bs, BDOk b) : (dues bs).length ≤ 6 * bs.length := by
  generalize hn : bs.length = n
  induction n generalizing bs with
  | zero => rw [List.length_eq_zero_iff.mp hn]; simp [dues]
  | succ n ih =>
    rcases List.eq_nil_or_concat bs with rfl | ⟨l, b, rfl⟩
    · cases hn
    rw [List.concat_eq_append] at hn hbs ⊢
    rw [dues_snoc]
    have h1 := ih (bs := l) (fun b' hb' => hbs b' (List.mem_append_left _ hb')) (by simpa using hn)
    have h2 := (hbs b (List.mem_append_right _ (.head _))).len
    simp only [dues1, List.length_append, List.length_cons, List.length_map, List.length_nil]
    omega
theorem join_big {ds : List Dat} {bs : List BD} {ro : Option Int} (hds : ∀ d ∈ ds, d ∈ kinds) (hl : ds.length = 14) (hbs : ∀ b ∈ bs, BDOk b) (hb : bs.length ≤ 4) (hro : ro = none ∨ ro = some 0) : JoinBig (Str.ofString "\n") (crows (codeOf ds bs ro)) := by
  refine ⟨200010, fun y hy => ?_, ?_⟩
  · rw [crows_of] at hy
    rcases List.mem_append.mp hy with hy | hy
    · rcases List.mem_cons.mp hy with rfl | hy
      · rw [head_of hro]
        rcases hro with rfl | rfl
        · exact Nat.le_trans (m := 100) (by decide +kernel) (by decide)
        · exact Nat.le_trans (m := 100) (by decide +kernel) (by decide)
      · obtain ⟨i, hi, rfl⟩ := List.mem_mapIdx.mp hy
        have h1 := tyText_len (hds _ (List.getElem_mem hi))
        have h2 : (sInt (i : Nat)).length ≤ 4 := int_len' _ (by omega) (by omega)
        simp only [regRow, len_app]
        have h3 : (Str.ofString "  r").length = 3 := by decide
        have h4 : (Str.ofString " ").length = 1 := by decide
        omega
    · obtain ⟨e, he, rfl⟩ := List.mem_map.mp hy
      have ok := dues_ok hbs e he
      cases e with
      | head x =>
        unfold dues at he
        obtain ⟨l, hl', he⟩ := List.mem_flatten.mp he
        obtain ⟨i, hi, rfl⟩ := List.mem_mapIdx.mp hl'
        rcases List.mem_cons.mp he with he | he
        · cases he
          have h2 : (sInt (i : Nat)).length ≤ 4 := int_len' _ (by omega) (by omega)
          simp only [dueText, headE, len_app]
          have h3 : (Str.ofString " b").length = 2 := by decide
          have h4 : (Str.ofString ":").length = 1 := by decide
          omega
        · obtain ⟨r, hr, e9⟩ := List.mem_map.mp he
          cases e9
      | row d ns =>
        have hi : InsOk d := by
          rcases ok with h | h
          · exact h.insOk
          · exact h.insOk
        have h1 := itext_len hi
        simp only [dueText, len_app]
        have h3 : (Str.ofString "  ").length = 2 := by decide
        omega
  · rw [crows_of]
    have h1 := dues_len hbs
    have h4 : (Str.ofString "\n").length = 1 := by decide
    simp only [List.length_append, List.length_cons, List.length_mapIdx, List.length_map, hl, h4]
    omega
end Mine
-- G9
namespace Mine
theorem words19 : True := by
  k_with_none
  (k_with "base k_mem" => first | exact Mine.memAt 0 rfl | exact Mine.memAt 1 rfl | exact Mine.memAt 2 rfl | exact Mine.memAt 3 rfl | exact Mine.memAt 4 rfl | exact Mine.memAt 5 rfl | exact Mine.memAt 6 rfl | exact Mine.memAt 7 rfl | (refine Mine.memSkip 8 rfl ?_; k_mem))
  (k_with "base k_all" => first | exact Mine.allNe (by with_reducible assumption) | with_reducible assumption | exact List.forall_mem_nil _ | (with_reducible refine' Mine.allApp ?a ?b; (case a => k_all); (case b => k_all)) | (refine' List.forall_mem_cons.mpr ⟨?a, ?b⟩; (case a => k_ne); (case b => k_all)) | assumption)
  (k_with "base k_ne" => first | with_reducible assumption | (refine Mine.ne_hi ?_; exact Mine.lt_mem (by with_reducible assumption) (by k_mem)) | exact Mine.neAt (by with_reducible assumption) (by k_mem) | exact Mine.neAt' (by with_reducible assumption) (by k_mem) | (refine Mine.ne_hi ?_; with_reducible first | assumption | exact Mine.pj0 (by assumption) | exact Mine.pj1 (by assumption) | exact Mine.pl1 (by assumption) | exact Mine.pj2 (by assumption) | exact Mine.pl2 (by assumption) | exact Mine.pj3 (by assumption) | exact Mine.pl3 (by assumption) | exact Mine.pj4 (by assumption) | exact Mine.pl4 (by assumption) | exact Mine.pj5 (by assumption) | exact Mine.pl5 (by assumption) | exact Mine.pj6 (by assumption) | exact Mine.pl6 (by assumption) | exact Mine.pj7 (by assumption) | exact Mine.pl7 (by assumption) | exact Mine.pj8 (by assumption) | exact Mine.pj9 (by assumption) | exact Mine.pj10 (by assumption) | exact Mine.pj11 (by assumption) | exact Mine.pj12 (by assumption) | exact Mine.pj13 (by assumption) | exact Mine.pj14 (by assumption)) | exact Ne.symm (by with_reducible assumption) | exact Ne.symm (by assumption) | (refine neN ?_; (try dsimp only); omega))
  (k_with "base k_steps" => (try ((fail_if_success (fail_if_success k_fold)); refine (let Q9z : _ → Shared → Prop := _; (?_ : wpAny _ _ _ Q9z _ _)))); (try ((fail_if_success (fail_if_success (conv in (Shared.mk _ _ _ _ _) => skip))); refine (let s9z : Shared := _; (?_ : wpAny _ _ _ _ _ s9z)))); (try ((with_reducible rename News _ _ _ (List.cons _ _) => N9z); refine (let NW9z : List (Addr × Obj) := _; have N8z : News _ _ _ (Mine.Fold NW9z) := N9z; ?_); clear N9z)); (try ((with_reducible rename Fr _ _ _ (fun _ => ite _ _ _) => F9z); refine (let FM9z : Str → Option Value := _; have F8z : Fr _ _ _ (Mine.Fold FM9z) := F9z; ?_); clear F9z)); repeat' (first | ((fail_if_success (fail_if_success k_unfold)); refine (?_ : wpAny _ _ _ _ _ _); (try ((fail_if_success (fail_if_success k_fold)); refine (let Q9z : _ → Shared → Prop := _; (?_ : wpAny _ _ _ Q9z _ _)))); (try ((fail_if_success (fail_if_success (conv in (Shared.mk _ _ _ _ _) => skip))); refine (let s9z : Shared := _; (?_ : wpAny _ _ _ _ _ s9z))))) | (k_unfold; (try dsimp only)) | (k_end; wrow_close) | ((first | walk1 | (dsimp only; walk1)); (try ((fail_if_success (fail_if_success k_fold)); refine (let Q9z : _ → Shared → Prop := _; (?_ : wpAny _ _ _ Q9z _ _)))); (try ((fail_if_success (fail_if_success (conv in (Shared.mk _ _ _ _ _) => skip))); refine (let s9z : Shared := _; (?_ : wpAny _ _ _ _ _ s9z)))); (try ((with_reducible rename News _ _ _ (List.cons _ _) => N9z); refine (let NW9z : List (Addr × Obj) := _; have N8z : News _ _ _ (Mine.Fold NW9z) := N9z; ?_); clear N9z)); (try ((with_reducible rename Fr _ _ _ (fun _ => ite _ _ _) => F9z); refine (let FM9z : Str → Option Value := _; have F8z : Fr _ _ _ (Mine.Fold FM9z) := F9z; ?_); clear F9z))) | (leave1; walk_say "STEP leave1"; try dsimp only) | fail "no step"))
  (k_with "mine env" => refine (let ev9 : Env := _; let A9 : Around := _; (?_ : wpAny _ A9 (execs _ ev9) _ _ _)))
  (k_with "spliced" => (k_here; k_dflt (refine' argsM ?a9w ?F9w ?e9w ?_; (case F9w => k_asm); (case a9w => rfl); (case e9w => rfl)); intro s9w170'))
  (k_with "eval Name" => (k_here; k_dflt (first | ((with_reducible show wpAny _ _ (PySem.eval _ (compEnvC _ _ _ _)) _ _ _); first | (refine' nm_comp ?n9w ?m9w ?_ ?k9w ?l9w ?d9w; (case k9w => with_unfolding_all rfl); (case l9w => with_unfolding_all rfl); (case n9w => assumption); (case m9w => assumption); (case d9w => decide)) | (refine' nm_compC ?N9w ?c9w ?m9w ?d9w ?_ ?k9w ?l9w ?e9w; (case k9w => with_unfolding_all rfl); (case l9w => with_unfolding_all rfl); (case N9w => k_asm); (case c9w => with_unfolding_all rfl); (case m9w => k_mem); (case d9w => k_asm); (case e9w => decide))) | ((fail_if_success (with_reducible show wpAny _ _ (PySem.eval _ (compEnvC _ _ _ _)) _ _ _)); first | (refine' nameS ?a9w ?e9w ?F9w ?_; (case F9w => k_asm); (case a9w => rfl); (case e9w => rfl)) | (refine' nameK ?a9w ?g9w ?F9w ?X9w ?T9w ?e9w ?_; (case a9w => rfl); (case g9w => rfl); (case F9w => k_asm); (case X9w => k_asm); (case T9w => k_asm); (case e9w => k_is); k_whole) | (refine' nameB ?a9w ?g9w ?F9w ?X9w ?T9w ?e9w ?v9w ?n9w ?_; (case a9w => rfl); (case g9w => rfl); (case F9w => k_asm); (case X9w => k_asm); (case T9w => k_asm); (case e9w => k_is); (case v9w => boot_fast); (case n9w => decide); k_whole)))))
  trivial
section
variable {prog : Program} {w : World} {A : Around} {E : Value → Shared → Prop} {s : Shared} {h₀ : Heap} {L a : Addr} {m : Str → Option Value} {vs : List Value} {n : Nat} {news : List (Addr × Obj)}
theorem T_listL {Q : Value → Shared → Prop} (F : Fr h₀ L s.heap m) (N : News h₀ L s.heap news) (e : h₀.get? a = some (listOf vs.toArray n)) (hz : vs.length < 1000)
    (h : ∀ D h' c, Fr h₀ L h' m → News h₀ L h' ((D, listOf vs.toArray c) :: news) → (∀ p ∈ news, p.1 < D) → Q (.ref D) { s with heap := h' }) : wpAny (model prog w) A (call (.type "list") [.ref a]) Q E s := by
  refine call_list_seq a (.inl rfl) (F.keep _ _ e) rfl rfl (fun h' c' k e' => ?_) (Nat.le_trans (show vs.toArray.size ≤ 1000 by simp; omega) (by decide))
  refine h _ h' c' (F.keptAll k) (fun p hp => ?_) fun p hp => Heap.lt_size (N p hp).1
  rcases List.mem_cons.mp hp with rfl | hp
  · exact ⟨e', fun q => Nat.lt_irrefl _ (show L < L by have := F.ns.lt; rw [← q] at this; exact q ▸ this), none_at_end F⟩
  · exact ⟨k _ _ (N p hp).1, (N p hp).2⟩
end
theorem words20 : True := by
  (k_with "call type:list" => (k_here; k_dflt ((with_reducible show wpAny _ _ (PySem.call _ [Value.ref _]) _ _ _); refine' T_listL ?F9w ?N9w ?e9w ?z9w ?_; (case F9w => k_asm); (case N9w => k_asm); (case e9w => with_reducible assumption); (case z9w => with_reducible assumption); intro D9w172' h9w172' c9w172' F9w172' N9w172' l19w172; (try k_lt l19w172); (try k_sweep))))
  trivial
theorem init_close {g h h' : Heap} {L x dx D : Addr} {m : Str → Option Value} {vs : Array Value} {c n : Nat} {es : List DictEntry} (F : Fr g L h' m) (N : News g L h' [(D, listOf vs c), (x, instObj 51 dx), (dx, dictOf es n)]) (hbut : But [x, dx] h g) (e1 : h.get? x = some (instObj 51 dx)) : But [dx] h h' ∧ h'.get? dx = some (dictOf es n) ∧ h.get? D = none ∧ h'.get? D = some (listOf vs c) := by
  have n1 := N _ (.head _)
  have n2 := N _ (.tail _ (.head _))
  have n3 := N _ (.tail _ (.tail _ (.head _)))
  refine ⟨fun b o e nb => ?_, n3.1, ?_, n1.1⟩
  · by_cases q : b = x
    · subst q; rw [e1] at e; cases e; exact n2.1
    · exact F.keep b o (hbut b o e (by simp only [List.mem_cons, List.not_mem_nil, or_false, not_or]; exact ⟨q, by simpa using nb⟩))
  · cases q : h.get? D with
    | none => rfl
    | some o =>
      have := hbut D o q (by
        simp only [List.mem_cons, List.not_mem_nil, or_false, not_or]
        refine ⟨fun e => ?_, fun e => ?_⟩
        · have a := n1.1; have b := n2.1; rw [e] at a; rw [show (x, instObj 51 dx).1 = x from rfl] at b; rw [a] at b; have q9 := congrArg Obj.cls (Option.some.inj b); simp [instObj] at q9
        · have a := n1.1; have b := n3.1; rw [e] at a; rw [show (dx, dictOf es n).1 = dx from rfl] at b; rw [a] at b; have q9 := congrArg Obj.cls (Option.some.inj b); simp [dictOf] at q9)
      rw [show g.get? D = none from n1.2.2] at this; cases this
/-- what Code.__init__ leaves: the seven fields, and the registers copied -/
inductive CodeEs (es : List DictEntry) (key : Str) (p c r : Int) (rec : Value) (rl bl : Addr) : Prop
  | mk : ∀ h0 h1 h2 h3 h4 h5 h6 t0 t1 t2 t3 t4 t5 t6 u0 u1 u4 u5, (es = [⟨h0, .str (Str.ofString "key") t0, .str key u0⟩, ⟨h1, .str (Str.ofString "params") t1, .int p u1⟩, ⟨h2, .str (Str.ofString "registers") t2, .ref rl⟩, ⟨h3, .str (Str.ofString "blocks") t3, .ref bl⟩, ⟨h4, .str (Str.ofString "captured") t4, .int c u4⟩, ⟨h5, .str (Str.ofString "results") t5, .int r u5⟩, ⟨h6, .str (Str.ofString "recovery") t6, rec⟩]) → CodeEs es key p c r rec rl bl
theorem code_initG {w : World} {mean : ExcName → Option Value} {mg mb : Str → Option Value} {H : Heap} (B : Bs w mean mg mb H) {dp un : Nat} {fr : Option (List Env)} {s : Shared} {x dx rg bl : Addr} {key : Str} {p c r : Int} {t0 tp tc tr : Tok} {rec : Value} {rvs : List Value} {kr : Nat} {args : List Value} {R : Result → Shared → Prop}
    (hx0 : H.get? x = none) (hdx0 : H.get? dx = none) (hst : H.StaysIn s.heap) (hdp : dp + 20 < recursionLimit) (hun : un + 60 < cLine) (e1 : s.heap.get? x = some (instObj 51 dx)) (e2 : s.heap.get? dx = some (dictOf [] 0)) (e3 : s.heap.get? rg = some (listOf rvs.toArray kr)) (hne : rg ≠ x ∧ rg ≠ dx) (hxd : x ≠ dx) (hz : rvs.length < 1000)
    (hargs : args = [.ref x, .str key t0, .int p tp, .ref rg, .ref bl, .int c tc, .int r tr, rec] ∨ (args = [.ref x, .str key t0, .int p tp, .ref rg, .ref bl] ∧ c = 0 ∧ tc = 201 ∧ r = 0 ∧ tr = 202 ∧ rec = .none))
    (hR : ∀ h' tk' rl es n k, But [dx] s.heap h' → h'.get? dx = some (dictOf es n) → CodeEs es key p c r rec rl bl → s.heap.get? rl = none → h'.get? rl = some (listOf rvs.toArray k) → R (.ok (.ret .none)) { s with heap := h', toks := tk' }) :
    codeAny (model PySem.Challenge.rw_on0012_01.row.prog w) (Ar dp un fr) (.call (.ref 29) ⟨args, []⟩) R s := by
  have X0 : (hd.heap_1 w.params).In s.heap := B.k.keeps hst
  refine' enter (binds := [(Str.ofString "self", .ref x), (Str.ofString "key", .str key t0), (Str.ofString "params", .int p tp), (Str.ofString "registers", .ref rg), (Str.ofString "blocks", .ref bl), (Str.ofString "captured", .int c tc), (Str.ofString "results", .int r tr), (Str.ofString "recovery", rec)]) [x, dx] (by simp [hx0, hdx0]) hst B ?ho ?hcd ?hroom ?hbind ?hloc ?h ?c2 ?c3 ?c4 ?c5
  (case ho => k_is); (case hcd => k_is); (case hroom => (first | assumption | exact room0 (by assumption) rfl | omega | (dsimp only [Ar]; omega))); (case hbind => rcases hargs with rfl | ⟨rfl, rfl, rfl, rfl, rfl, rfl⟩ <;> exact binds_K X0 rfl (by k_is) rfl rfl rfl); (case hloc => exact locs rfl); (case c2 => exact rfl); (case c3 => exact rfl); (case c4 => exact rfl); (case c5 => decide)
  intro g L h₁ F N X T hgs hbut hg
  have N1 := N (x, instObj 51 dx) (by simp) e1
  have N2 := N (dx, _) (by simp) e2
  have N3 : News g L h₁ [(x, instObj 51 dx), (dx, dictOf [] 0)] := fun p hp => by
    rcases List.mem_cons.mp hp with rfl | hp
    · exact N1 _ (by simp)
    · exact N2 _ hp
  clear N N1 N2
  (try simp only [List.reverse_cons, List.reverse_nil, List.nil_append, List.cons_append] at F)
  (try dsimp only)
  walk_at "mine env"
  have hcL := cLine_is
  have e3' : g.get? rg = some (listOf rvs.toArray kr) := hbut _ _ e3 (by simp [hne])
  clear X0
  k_steps
  obtain ⟨q1, q2, q3, q4⟩ := init_close (by k_asm) (by k_asm) hbut e1
  exact hR _ _ _ _ _ _ q1 q2 ⟨_, _, _, _, _, _, _, _, _, _, _, _, _, _, _, _, _, _, rfl⟩ q3 q4
theorem code_init {w : World} {mean : ExcName → Option Value} {mg mb : Str → Option Value} {H : Heap} (B : Bs w mean mg mb H) {dp un : Nat} {fr : Option (List Env)} {s : Shared} {x dx rg bl : Addr} {key : Str} {p c r : Int} {t0 tp tc tr : Tok} {rec : Value} {rvs : List Value} {kr : Nat} {R : Result → Shared → Prop}
    (hx0 : H.get? x = none) (hdx0 : H.get? dx = none) (hst : H.StaysIn s.heap) (hdp : dp + 20 < recursionLimit) (hun : un + 60 < cLine) (e1 : s.heap.get? x = some (instObj 51 dx)) (e2 : s.heap.get? dx = some (dictOf [] 0)) (e3 : s.heap.get? rg = some (listOf rvs.toArray kr)) (hne : rg ≠ x ∧ rg ≠ dx) (hxd : x ≠ dx) (hz : rvs.length < 1000)
    (hR : ∀ h' tk' rl es n k, But [dx] s.heap h' → h'.get? dx = some (dictOf es n) → CodeEs es key p c r rec rl bl → s.heap.get? rl = none → h'.get? rl = some (listOf rvs.toArray k) → R (.ok (.ret .none)) { s with heap := h', toks := tk' }) :
    codeAny (model PySem.Challenge.rw_on0012_01.row.prog w) (Ar dp un fr) (.call (.ref 29) ⟨[.ref x, .str key t0, .int p tp, .ref rg, .ref bl, .int c tc, .int r tr, rec], []⟩) R s := code_initG B hx0 hdx0 hst hdp hun e1 e2 e3 hne hxd hz (.inl rfl) hR
theorem code_init0 {w : World} {mean : ExcName → Option Value} {mg mb : Str → Option Value} {H : Heap} (B : Bs w mean mg mb H) {dp un : Nat} {fr : Option (List Env)} {s : Shared} {x dx rg bl : Addr} {key : Str} {p : Int} {t0 tp : Tok} {rvs : List Value} {kr : Nat} {R : Result → Shared → Prop}
    (hx0 : H.get? x = none) (hdx0 : H.get? dx = none) (hst : H.StaysIn s.heap) (hdp : dp + 20 < recursionLimit) (hun : un + 60 < cLine) (e1 : s.heap.get? x = some (instObj 51 dx)) (e2 : s.heap.get? dx = some (dictOf [] 0)) (e3 : s.heap.get? rg = some (listOf rvs.toArray kr)) (hne : rg ≠ x ∧ rg ≠ dx) (hxd : x ≠ dx) (hz : rvs.length < 1000)
    (hR : ∀ h' tk' rl es n k, But [dx] s.heap h' → h'.get? dx = some (dictOf es n) → CodeEs es key p 0 0 .none rl bl → s.heap.get? rl = none → h'.get? rl = some (listOf rvs.toArray k) → R (.ok (.ret .none)) { s with heap := h', toks := tk' }) :
    codeAny (model PySem.Challenge.rw_on0012_01.row.prog w) (Ar dp un fr) (.call (.ref 29) ⟨[.ref x, .str key t0, .int p tp, .ref rg, .ref bl], []⟩) R s := code_initG B hx0 hdx0 hst hdp hun e1 e2 e3 hne hxd hz (.inr ⟨rfl, rfl, rfl, rfl, rfl, rfl⟩) hR
end Mine
-- G10
namespace Mine
theorem code_mk {h₀ : Heap} {L : Addr} {m : Str → Option Value} {news : List (Addr × Obj)} {h' h2 : Heap} {x dx rl : Addr} {es : List DictEntry} {n k : Nat} {vs : Array Value} (F : Fr h₀ L h' m) (N : News h₀ L h' ((x, instObj 51 dx) :: (dx, dictOf [] 0) :: news)) (l1 : ∀ p ∈ news, p.1 < dx) (l2 : dx < x)
    (q1 : But [dx] h' h2) (q2 : h2.get? dx = some (dictOf es n)) (q3 : h'.get? rl = none) (q4 : h2.get? rl = some (listOf vs k)) : Fr h₀ L h2 m ∧ News h₀ L h2 ((x, instObj 51 dx) :: (dx, dictOf es n) :: (rl, listOf vs k) :: news) := by
  have n1 := N _ (.head _)
  have n2 := N _ (.tail _ (.head _))
  obtain ⟨oL, esL, epL, hL, hd', hr⟩ := F.ns
  have hLdx : L ≠ dx := fun e => n2.2.1 e.symm
  refine ⟨⟨F.ns.at' fun o e => q1 _ o e (by simpa using hLdx), fun b o e => q1 b o (F.keep b o e) (fun q => ?_), F.above⟩, fun p hp => ?_⟩
  · rw [List.mem_singleton.mp q] at e; rw [show h₀.get? dx = none from n2.2.2] at e; cases e
  · simp only [List.mem_cons] at hp
    rcases hp with rfl | rfl | rfl | hp
    · exact ⟨q1 _ _ n1.1 (by simpa using (Nat.ne_of_gt l2)), n1.2⟩
    · exact ⟨q2, n2.2⟩
    · refine ⟨q4, fun e => ?_, ?_⟩
      · have e9 : rl = L := e
        rw [e9, hL] at q3; cases q3
      · cases q : h₀.get? rl with
        | none => rfl
        | some o => rw [F.keep _ _ q] at q3; cases q3
    · have np := N p (.tail _ (.tail _ hp))
      exact ⟨q1 _ _ np.1 (by simpa using Nat.ne_of_lt (l1 p hp)), np.2⟩
theorem T_code {w : World} {mean : ExcName → Option Value} {mg mb : Str → Option Value} {H h₀ : Heap} (B : Bs w mean mg mb H) {A : Around} {E : Value → Shared → Prop} {s : Shared} {L : Addr} {m : Str → Option Value} {news : List (Addr × Obj)} {Q : Value → Shared → Prop}
    {rg bl : Addr} {key : Str} {p c r : Int} {t0 tp tc tr : Tok} {rec : Value} {rvs : List Value} {kr : Nat}
    (hst : H.StaysIn h₀) (F : Fr h₀ L s.heap m) (N : News h₀ L s.heap news) (hm : (rg, listOf rvs.toArray kr) ∈ news) (hz : rvs.length < 1000) (hA : A.handled = none) (hG : A.guards = some []) (hdp : A.depth + 22 < recursionLimit) (hun : A.units + 64 < cLine)
    (h : ∀ x dx rl es n k h' tk', Fr h₀ L h' m → News h₀ L h' ((x, instObj 51 dx) :: (dx, dictOf es n) :: (rl, listOf rvs.toArray k) :: news) → CodeEs es key p c r rec rl bl → (∀ p ∈ news, p.1 < dx) → dx < x → (∀ p ∈ news, p.1 ≠ rl) → Q (.ref x) { s with heap := h', toks := tk' }) :
    wpAny (model PySem.Challenge.rw_on0012_01.row.prog w) A (call (.ref 51) [.str key t0, .int p tp, .ref rg, .ref bl, .int c tc, .int r tr, rec]) Q E s := by
  obtain ⟨hh, dp, fr, gd, un⟩ := A
  cases hA; cases hG
  have X0 : (hd.heap_1 w.params).In h₀ := B.k.keeps hst
  refine' call_cls (fI := 29) F X0 N (by k_is) (by k_is) (by k_is) fun x dx h' F' N' l1 l2 => ?_
  have hU : (({ handled := none, depth := dp, frames := fr, guards := some [], units := un } : Around).under (.builtin "type.__call__" ⟨[.ref 51, .str key t0, .int p tp, .ref rg, .ref bl, .int c tc, .int r tr, rec], []⟩)) = Ar (dp + 1) (un + 1) fr := by
    cases fr <;> kernel_rfl
  rw [hU]
  have n1 := N' _ (.head _)
  have n2 := N' _ (.tail _ (.head _))
  have nr := N' (rg, _) (.tail _ (.tail _ hm))
  have hsH : H.StaysIn h' := fun b o e => F'.keep b o (hst b o e)
  have none_of : ∀ a, h₀.get? a = none → H.get? a = none := fun a e => by
    cases q : H.get? a with
    | none => rfl
    | some o => rw [hst _ _ q] at e; cases e
  have hrd : rg < dx := l1 (rg, _) hm
  refine code_init B (none_of _ n1.2.2) (none_of _ n2.2.2) hsH (by dsimp only at hdp; omega) (by dsimp only at hun; omega) n1.1 n2.1 nr.1 ⟨Nat.ne_of_lt (Nat.lt_trans hrd l2), Nat.ne_of_lt hrd⟩ (Nat.ne_of_gt l2) hz fun h2 tk' rl es n k q1 q2 q3 q4 q5 => ⟨rfl, ?_⟩
  obtain ⟨F2, N2⟩ := code_mk F' N' l1 l2 q1 q2 q4 q5
  exact h x dx rl es n k h2 tk' F2 N2 q3 l1 l2 fun p hp e => by
    have := (N' p (.tail _ (.tail _ hp))).1
    rw [e, q4] at this; cases this
theorem T_code0 {w : World} {mean : ExcName → Option Value} {mg mb : Str → Option Value} {H h₀ : Heap} (B : Bs w mean mg mb H) {A : Around} {E : Value → Shared → Prop} {s : Shared} {L : Addr} {m : Str → Option Value} {news : List (Addr × Obj)} {Q : Value → Shared → Prop}
    {rg bl : Addr} {key : Str} {p : Int} {t0 tp : Tok} {rvs : List Value} {kr : Nat}
    (hst : H.StaysIn h₀) (F : Fr h₀ L s.heap m) (N : News h₀ L s.heap news) (hm : (rg, listOf rvs.toArray kr) ∈ news) (hz : rvs.length < 1000) (hA : A.handled = none) (hG : A.guards = some []) (hdp : A.depth + 22 < recursionLimit) (hun : A.units + 64 < cLine)
    (h : ∀ x dx rl es n k h' tk', Fr h₀ L h' m → News h₀ L h' ((x, instObj 51 dx) :: (dx, dictOf es n) :: (rl, listOf rvs.toArray k) :: news) → CodeEs es key p 0 0 .none rl bl → (∀ p ∈ news, p.1 < dx) → dx < x → (∀ p ∈ news, p.1 ≠ rl) → Q (.ref x) { s with heap := h', toks := tk' }) :
    wpAny (model PySem.Challenge.rw_on0012_01.row.prog w) A (call (.ref 51) [.str key t0, .int p tp, .ref rg, .ref bl]) Q E s := by
  obtain ⟨hh, dp, fr, gd, un⟩ := A
  cases hA; cases hG
  have X0 : (hd.heap_1 w.params).In h₀ := B.k.keeps hst
  refine' call_cls (fI := 29) F X0 N (by k_is) (by k_is) (by k_is) fun x dx h' F' N' l1 l2 => ?_
  have hU : (({ handled := none, depth := dp, frames := fr, guards := some [], units := un } : Around).under (.builtin "type.__call__" ⟨[.ref 51, .str key t0, .int p tp, .ref rg, .ref bl], []⟩)) = Ar (dp + 1) (un + 1) fr := by
    cases fr <;> kernel_rfl
  rw [hU]
  have n1 := N' _ (.head _)
  have n2 := N' _ (.tail _ (.head _))
  have nr := N' (rg, _) (.tail _ (.tail _ hm))
  have hsH : H.StaysIn h' := fun b o e => F'.keep b o (hst b o e)
  have none_of : ∀ a, h₀.get? a = none → H.get? a = none := fun a e => by
    cases q : H.get? a with
    | none => rfl
    | some o => rw [hst _ _ q] at e; cases e
  have hrd : rg < dx := l1 (rg, _) hm
  refine code_init0 B (none_of _ n1.2.2) (none_of _ n2.2.2) hsH (by dsimp only at hdp; omega) (by dsimp only at hun; omega) n1.1 n2.1 nr.1 ⟨Nat.ne_of_lt (Nat.lt_trans hrd l2), Nat.ne_of_lt hrd⟩ (Nat.ne_of_gt l2) hz fun h2 tk' rl es n k q1 q2 q3 q4 q5 => ⟨rfl, ?_⟩
  obtain ⟨F2, N2⟩ := code_mk F' N' l1 l2 q1 q2 q4 q5
  exact h x dx rl es n k h2 tk' F2 N2 q3 l1 l2 fun p hp e => by
    have := (N' p (.tail _ (.tail _ hp))).1
    rw [e, q4] at this; cases this
end Mine
-- B24
namespace Mine
theorem rec_of {r : Value} {t : Tok} (h : ∃ i : Nat, ([Value.none, Value.int 0 t] : List Value)[i]? = some r) : ∃ (ro : Option Int) (tR : Tok), (ro = none ∨ ro = some 0) ∧ r = recV ro tR := by
  obtain ⟨i, e⟩ := h
  match i, e with
  | 0, e => cases e; exact ⟨none, 0, .inl rfl, rfl⟩
  | 1, e => cases e; exact ⟨some 0, t, .inr rfl, rfl⟩
  | n + 2, e => simp at e
/-- the statement that writes the letter y, whatever its value's token -/
noncomputable def StrMid (H : Heap) (L : Addr) (m : Str → Option Value) (news : List (Addr × Obj)) (y x : Str) (s : Shared) (f : Flow) (s' : Shared) : Prop :=
  f = .next ∧ ∃ h' tk' t, s' = { s with heap := h', toks := tk' } ∧ Fr H L h' (fun z => if z = y then some (.str x t) else m z) ∧ News H L h' news
theorem StrMid.intro {H : Heap} {L : Addr} {m : Str → Option Value} {news : List (Addr × Obj)} {y x : Str} {s : Shared} {h' : Heap} {tk' : Nat} {t : Tok} (F : Fr H L h' (fun z => if z = y then some (.str x t) else m z)) (N : News H L h' news) : StrMid H L m news y x s .next { s with heap := h', toks := tk' } := ⟨rfl, h', tk', t, rfl, F, N⟩
theorem str_cut {M : Model} {A : Around} {E : Value → Shared → Prop} {Q : Flow → Shared → Prop} {t : Sem Flow} {s : Shared} {H : Heap} {L : Addr} {m : Str → Option Value} {news : List (Addr × Obj)} (F : Fr H L s.heap m) (N : News H L s.heap news) (y x : Str)
    (h : wpAny M A t (StrMid H L m news y x s) E s) (k : ∀ h' tk' t, Fr H L h' (fun z => if z = y then some (.str x t) else m z) → News H L h' news → Q .next { s with heap := h', toks := tk' }) : wpAny M A t Q E s :=
  wp_cut h fun f s' q => by
    obtain ⟨rfl, h', tk', t, rfl, F', N'⟩ := q
    exact k h' tk' t F' N'
theorem codeAt_of {H h : Heap} {L x dx rl Db : Addr} {m : Str → Option Value} {news tl : List (Addr × Obj)} {es : List DictEntry} {n kr kb : Nat} {rys bvs : List Value} {ds : List Dat} {bs : List BD} {ro : Option Int} {tR : Tok} (F : Fr H L h m) (N : News H L h news)
    (mx : (x, instObj 51 dx) ∈ news) (md : (dx, dictOf es n) ∈ news) (mr : (rl, listOf rys.toArray kr) ∈ news) (mb : (Db, listOf bvs.toArray kb) ∈ news) (hE : CodeEs es (Str.ofString "main.f") 2 1 3 (recV ro tR) rl Db) (hrd : RdA H rys ds) (BZ : BlksZ H tl bvs bs) (kt : ∀ p ∈ tl, p ∈ news) :
    CodeAt h x dx (codeOf ds bs ro) es n rl Db rys bvs kr kb := by
  have e1 := (N _ mx).1
  have e2 := (N _ md).1
  have e3 := (N _ mr).1
  have e4 := (N _ mb).1
  have c1 : ∀ {a : Addr} {its : Array Value} {k : Nat}, h.get? a = some (listOf its k) → a ≠ x := fun e q => by
    rw [q] at e; rw [show (x, instObj 51 dx).1 = x from rfl, e] at e1
    have q9 := congrArg Obj.cls (Option.some.inj e1); simp [instObj, W.listOf] at q9
  have c2 : ∀ {a : Addr} {its : Array Value} {k : Nat}, h.get? a = some (listOf its k) → a ≠ dx := fun e q => by
    rw [q] at e; rw [show (dx, dictOf es n).1 = dx from rfl, e] at e2
    have q9 := congrArg Obj.cls (Option.some.inj e2); simp [dictOf, W.listOf] at q9
  refine ⟨e1, e2, ?_, e3, hrd.fr F, e4, BZ h (Keeps.of F N kt), ⟨fun q => ?_, c1 e3, c2 e3, c1 e4, c2 e4⟩⟩
  · obtain ⟨h0, h1, h2, h3, h4, h5, h6, t0, t1, t2, t3, t4, t5, t6, u0, u1, u4, u5, rfl⟩ := hE
    exact ⟨h0, h1, h2, h3, h4, h5, h6, t0, t1, t2, t3, t4, t5, t6, u0, u1, u4, u5, tR, rfl⟩
  · rw [show (x, instObj 51 dx).1 = x from rfl, q] at e1; rw [show (dx, dictOf es n).1 = dx from rfl, e1] at e2
    have q9 := congrArg Obj.cls (Option.some.inj e2); simp [instObj, dictOf] at q9
theorem News.none' {h₀ h : Heap} {L a : Addr} {o : Obj} {news : List (Addr × Obj)} (N : News h₀ L h news) (hm : (a, o) ∈ news) : h₀.get? a = none := (N _ hm).2.2
theorem ne_new {h₀ h : Heap} {L a R : Addr} {o : Obj} {news : List (Addr × Obj)} (N : News h₀ L h news) (hm : (a, o) ∈ news) (e : h.get? R = none) : @Ne Nat a R := fun q => by
  have h1 := (N _ hm).1
  rw [show (a, o).1 = R from q, e] at h1; cases h1
theorem strs_cons {ys : List Value} {x : Str} {xs : List Str} (h : StrsAre ys (x :: xs)) : ∃ t ys', ys = .str x t :: ys' ∧ StrsAre ys' xs := by
  cases h with
  | cons x t r => exact ⟨t, _, rfl, r⟩
theorem strs_app {xs1 xs2 : List Str} : ∀ {ys : List Value}, StrsAre ys (xs1 ++ xs2) → StrsAre (ys.take xs1.length) xs1 ∧ StrsAre (ys.drop xs1.length) xs2 := by
  induction xs1 with
  | nil => intro ys h; exact ⟨by simpa using StrsAre.nil, by simpa using h⟩
  | cons x xs ih =>
    intro ys h
    obtain ⟨t, ys', rfl, r⟩ := strs_cons h
    obtain ⟨a, b⟩ := ih r
    exact ⟨by simpa using StrsAre.cons x t a, by simpa using b⟩
theorem DuesAt.length {h : Heap} : ∀ {vs : List Value} {rs : List DueE}, DuesAt h vs rs → vs.length = rs.length
  | [], [], _ => rfl
  | [], _ :: _, e => e.elim
  | _ :: _, [], e => e.elim
  | _ :: _, _ :: _, e => by simp [DuesAt.length e.2]
theorem DuesAt.get {h : Heap} : ∀ {vs : List Value} {rs : List DueE} {i : Nat} {v : Value}, DuesAt h vs rs → vs[i]? = some v → ∃ b, rs[i]? = some b ∧ DueAt h v b
  | [], _, _, _, _, e => by simp at e
  | _ :: _, [], _, _, e, _ => e.elim
  | _ :: _, _ :: _, 0, _, e, q => by cases q; exact ⟨_, rfl, e.1⟩
  | _ :: _, _ :: _, i + 1, _, e, q => by simpa using DuesAt.get (i := i) e.2 (by simpa using q)
theorem DueAt.tup {h : Heap} {v : Value} {e : DueE} (d : DueAt h v e) : ∃ T a b, v = .ref T ∧ IsTup h T #[a, b] := by
  cases e with
  | head x =>
    obtain ⟨t, tk, n, rfl, e⟩ := d
    exact ⟨t, _, _, rfl, _, e, rfl, n, rfl⟩
  | row d ns =>
    obtain ⟨t, rowv, l, row, ys, ns, n, rfl, e, _⟩ := d
    exact ⟨t, _, _, rfl, _, e, rfl, 0, rfl⟩
theorem DuesAt.mem {h : Heap} {vs : List Value} {rs : List DueE} (d : DuesAt h vs rs) {v : Value} (hv : v ∈ vs) : ∃ e, DueAt h v e := by
  obtain ⟨i, hi, rfl⟩ := List.getElem_of_mem hv
  obtain ⟨b, _, q⟩ := d.get (List.getElem?_eq_getElem hi)
  exact ⟨b, q⟩
theorem tup_same {h : Heap} {T : Addr} {a b a' b' : Value} {n : Nat} (x : IsTup h T #[a, b]) (e : h.get? T = some { cls := .type "tuple", data := .seq #[a', b'] n }) : a = a' ∧ b = b' := by
  obtain ⟨o, ho, hc, k, hd⟩ := x
  rw [e] at ho
  cases ho
  injection hd with h1 h2
  have h3 := congrArg Array.toList h1
  simp at h3
  exact ⟨h3.1.symm, h3.2.symm⟩
theorem strs_get : ∀ {vs : List Value} {xs : List Str}, StrsAre vs xs → ∀ {i : Nat} {v : Value} {x : Str}, vs[i]? = some v → xs[i]? = some x → ∃ t, v = .str x t
  | _, _, .nil, i, _, _, e, _ => by simp at e
  | _, _, .cons y t r, 0, v, x, e, q => by
    have e : Value.str y t = v := by simpa using e
    have q : y = x := by simpa using q
    exact ⟨t, by rw [← e, q]⟩
  | _, _, .cons y t r, i + 1, v, x, e, q => strs_get r (i := i) (by simpa using e) (by simpa using q)
section
variable {prog : Program} {w : World} {A : Around} {E : Value → Shared → Prop} {s : Shared} {h₀ : Heap} {L a : Addr} {m : Str → Option Value} {vs : List Value} {n : Nat} {news : List (Addr × Obj)} {Q : Value → Shared → Prop}
theorem T_len_led (N : News h₀ L s.heap news) (e : (a, listOf vs.toArray n) ∈ news) (hl : vs.length < 100000) (h : Q (.int vs.length (s.toks + 1)) { s with toks := s.toks + 1 + 1 }) :
    wpAny (model prog w) A (call (.builtin "len") [.ref a]) Q E s := len_list (items := vs.toArray) ⟨_, N.get e, rfl, n, rfl⟩ (by simp; omega) (by simpa using h)
theorem T_int_ne_same {x y : Int} {t u : Tok} (e : x = y) (h : Q (.bool false) s) : wpAny (model prog w) A (compareOp .NotEq (.int x t) (.int y u)) Q E s := by
  subst e
  refine ne_int ?_
  simpa using h
end
noncomputable def smallC : CodeD := ⟨Str.ofString "f", 0, [.tuple [.str (Str.ofString "bool")]], [([.tuple [.str (Str.ofString "move"), .int 0, dReg 5]], .tuple [.str (Str.ofString "return"), .tuple []])], 0, 0, none⟩
theorem words21 : True := by
  k_with_none
  (k_with "base k_mem" => first | exact Mine.memAt 0 rfl | exact Mine.memAt 1 rfl | exact Mine.memAt 2 rfl | exact Mine.memAt 3 rfl | exact Mine.memAt 4 rfl | exact Mine.memAt 5 rfl | exact Mine.memAt 6 rfl | exact Mine.memAt 7 rfl | (refine Mine.memSkip 8 rfl ?_; k_mem))
  (k_with "base k_all" => first | exact Mine.allNe (by with_reducible assumption) | with_reducible assumption | exact List.forall_mem_nil _ | (with_reducible refine' Mine.allApp ?a ?b; (case a => k_all); (case b => k_all)) | (refine' List.forall_mem_cons.mpr ⟨?a, ?b⟩; (case a => k_ne); (case b => k_all)) | assumption)
  (k_with "base k_ne" => first | with_reducible assumption | (refine Mine.ne_hi ?_; exact Mine.lt_mem (by with_reducible assumption) (by k_mem)) | exact Mine.neAt (by with_reducible assumption) (by k_mem) | exact Mine.neAt' (by with_reducible assumption) (by k_mem) | (refine Mine.ne_hi ?_; with_reducible first | assumption | exact Mine.pj0 (by assumption) | exact Mine.pj1 (by assumption) | exact Mine.pl1 (by assumption) | exact Mine.pj2 (by assumption) | exact Mine.pl2 (by assumption) | exact Mine.pj3 (by assumption) | exact Mine.pl3 (by assumption) | exact Mine.pj4 (by assumption) | exact Mine.pl4 (by assumption) | exact Mine.pj5 (by assumption) | exact Mine.pl5 (by assumption) | exact Mine.pj6 (by assumption) | exact Mine.pl6 (by assumption) | exact Mine.pj7 (by assumption) | exact Mine.pl7 (by assumption) | exact Mine.pj8 (by assumption) | exact Mine.pj9 (by assumption) | exact Mine.pj10 (by assumption) | exact Mine.pj11 (by assumption) | exact Mine.pj12 (by assumption) | exact Mine.pj13 (by assumption) | exact Mine.pj14 (by assumption)) | exact Ne.symm (by with_reducible assumption) | exact Ne.symm (by assumption) | (refine neN ?_; (try dsimp only); omega))
  (k_with "base k_steps" => (try ((fail_if_success (fail_if_success k_fold)); refine (let Q9z : _ → Shared → Prop := _; (?_ : wpAny _ _ _ Q9z _ _)))); (try ((fail_if_success (fail_if_success (conv in (Shared.mk _ _ _ _ _) => skip))); refine (let s9z : Shared := _; (?_ : wpAny _ _ _ _ _ s9z)))); (try ((with_reducible rename News _ _ _ (List.cons _ _) => N9z); refine (let NW9z : List (Addr × Obj) := _; have N8z : News _ _ _ (Mine.Fold NW9z) := N9z; ?_); clear N9z)); (try ((with_reducible rename Fr _ _ _ (fun _ => ite _ _ _) => F9z); refine (let FM9z : Str → Option Value := _; have F8z : Fr _ _ _ (Mine.Fold FM9z) := F9z; ?_); clear F9z)); repeat' (first | ((fail_if_success (fail_if_success k_unfold)); refine (?_ : wpAny _ _ _ _ _ _); (try ((fail_if_success (fail_if_success k_fold)); refine (let Q9z : _ → Shared → Prop := _; (?_ : wpAny _ _ _ Q9z _ _)))); (try ((fail_if_success (fail_if_success (conv in (Shared.mk _ _ _ _ _) => skip))); refine (let s9z : Shared := _; (?_ : wpAny _ _ _ _ _ s9z))))) | (k_unfold; (try dsimp only)) | (k_end; wrow_close) | ((first | walk1 | (dsimp only; walk1)); (try ((fail_if_success (fail_if_success k_fold)); refine (let Q9z : _ → Shared → Prop := _; (?_ : wpAny _ _ _ Q9z _ _)))); (try ((fail_if_success (fail_if_success (conv in (Shared.mk _ _ _ _ _) => skip))); refine (let s9z : Shared := _; (?_ : wpAny _ _ _ _ _ s9z)))); (try ((with_reducible rename News _ _ _ (List.cons _ _) => N9z); refine (let NW9z : List (Addr × Obj) := _; have N8z : News _ _ _ (Mine.Fold NW9z) := N9z; ?_); clear N9z)); (try ((with_reducible rename Fr _ _ _ (fun _ => ite _ _ _) => F9z); refine (let FM9z : Str → Option Value := _; have F8z : Fr _ _ _ (Mine.Fold FM9z) := F9z; ?_); clear F9z))) | (leave1; walk_say "STEP leave1"; try dsimp only) | fail "no step"))
  (k_with "own parts" => repeat' (first | exact all_nil | refine List.forall_mem_cons.mpr ⟨?_, ?_⟩))
  trivial
theorem small_ok : CodeOk smallC where
  key := by show (Str.ofString "f").length ≤ 100; decide
  p := by show (0 : Int) ≤ 0 ∧ (0 : Int) < 1000; omega
  ca := by show (0 : Int) ≤ 0 ∧ (0 : Int) < 1000; omega
  re := by show (0 : Int) ≤ 0 ∧ (0 : Int) < 1000; omega
  rc := fun i h => by cases h
  regs := fun d h => by
    rw [List.mem_singleton.mp h]
    simp [kinds, dBool]
  nregs := by decide
  nblks := by decide
  blks := fun b h => by
    rw [List.mem_singleton.mp h]
    refine ⟨by show 1 < 100; decide, fun d hd => ?_, ?_⟩
    · rw [List.mem_singleton.mp hd]
      refine InsOk.mk _ _ (by decide) (by simp) ?_
      walk_at "own parts"
      · exact .int _ _ (by omega) (by omega)
      · exact part_reg (by omega) (by omega)
    · refine InsOk.mk _ _ (by decide) (by simp) ?_
      walk_at "own parts"
      exact part_nil
theorem small_rows : crows smallC = [Str.ofString "f: captured 0, parameters 0, results 0", Str.ofString "  r0 bool", Str.ofString " b0:", Str.ofString "  move 0 r5", Str.ofString "  return ()"] := by
  decide +kernel
theorem small_at {H h : Heap} {L x dx rl bl ab rb tb tm tg tr te : Addr} {news : List (Addr × Obj)} {es : List DictEntry} {n kr kb ka krb : Nat} {t1 t2 t3 t4 t5 t6 : Tok} (N : News H L h news)
    (mx : (x, instObj 51 dx) ∈ news) (md : (dx, dictOf es n) ∈ news) (mr : (rl, listOf #[.ref tb] kr) ∈ news) (mb : (bl, listOf #[.ref ab] kb) ∈ news) (ma : (ab, listOf #[.ref rb, .ref tr] ka) ∈ news) (mrb : (rb, listOf #[.ref tm] krb) ∈ news)
    (mt : (tb, { cls := .type "tuple", data := .seq #[.str (Str.ofString "bool") t1] }) ∈ news) (mm : (tm, { cls := .type "tuple", data := .seq #[.str (Str.ofString "move") t2, .int 0 t3, .ref tg] }) ∈ news) (mg : (tg, { cls := .type "tuple", data := .seq #[.str (Str.ofString "reg") t4, .int 5 t5] }) ∈ news)
    (mtr : (tr, { cls := .type "tuple", data := .seq #[.str (Str.ofString "return") t6, .ref te] }) ∈ news) (mte : (te, { cls := .type "tuple", data := .seq #[] }) ∈ news)
    (hE : CodeEs es (Str.ofString "f") 0 0 0 .none rl bl) : CodeAt h x dx smallC es n rl bl [.ref tb] [.ref ab] kr kb := by
  have e1 := (N _ mx).1
  have e2 := (N _ md).1
  have e3 := (N _ mr).1
  have e4 := (N _ mb).1
  have c1 : ∀ {a : Addr} {its : Array Value} {k : Nat}, h.get? a = some (listOf its k) → a ≠ x := fun e q => by
    rw [q] at e; rw [show (x, instObj 51 dx).1 = x from rfl, e] at e1
    have q9 := congrArg Obj.cls (Option.some.inj e1); simp [instObj, W.listOf] at q9
  have c2 : ∀ {a : Addr} {its : Array Value} {k : Nat}, h.get? a = some (listOf its k) → a ≠ dx := fun e q => by
    rw [q] at e; rw [show (dx, dictOf es n).1 = dx from rfl, e] at e2
    have q9 := congrArg Obj.cls (Option.some.inj e2); simp [dictOf, W.listOf] at q9
  refine ⟨e1, e2, ?_, e3, ?_, e4, ⟨⟨ab, rb, .ref tr, ka, krb, [.ref tm], rfl, (N _ ma).1, (N _ mrb).1, ?_, ?_⟩, trivial⟩, ⟨fun q => ?_, c1 e3, c2 e3, c1 e4, c2 e4⟩⟩
  · obtain ⟨h0, h1, h2, h3, h4, h5, h6, t0, t1, t2, t3, t4, t5, t6, u0, u1, u4, u5, rfl⟩ := hE
    exact ⟨h0, h1, h2, h3, h4, h5, h6, t0, t1, t2, t3, t4, t5, t6, u0, u1, u4, u5, 0, rfl⟩
  · exact .cons (.tuple (vs := [_]) (n := 0) (N _ mt).1 (by simp) (.cons (.str _ _) .nil)) .nil
  · exact .cons (.tuple (vs := [_, _, _]) (n := 0) (N _ mm).1 (by simp) (.cons (.str _ _) (.cons (.int _ _) (.cons (.tuple (vs := [_, _]) (n := 0) (N _ mg).1 (by simp) (.cons (.str _ _) (.cons (.int _ _) .nil))) .nil)))) .nil
  · exact .tuple (vs := [_, _]) (n := 0) (N _ mtr).1 (by simp) (.cons (.str _ _) (.cons (.tuple (vs := []) (n := 0) (N _ mte).1 (by simp) .nil) .nil))
  · rw [show (x, instObj 51 dx).1 = x from rfl, q] at e1; rw [show (dx, dictOf es n).1 = dx from rfl, e1] at e2
    have q9 := congrArg Obj.cls (Option.some.inj e2); simp [instObj, dictOf] at q9
end Mine
-- B25
namespace Mine
theorem adjust_run (a b n : Nat) (ha : a ≤ n) : Builtin.Slice.sliceAdjust (some (a : Int)) (some (b : Int)) 1 (n : Int) = ((a : Int), ((min b n : Nat) : Int)) := by
  unfold Builtin.Slice.sliceAdjust
  have h1 : ¬ ((1 : Int) < 0) := by omega
  have h2 : ¬ ((a : Int) < 0) := by omega
  have h3 : ¬ ((b : Int) < 0) := by omega
  simp only [h1, h2, h3, if_false]
  congr 1
  · omega
  · omega
theorem places_run (a c : Nat) : Builtin.Slice.slicePlaces (a : Int) (c : Int) 1 = c - a := by
  unfold Builtin.Slice.slicePlaces
  have h1 : (1 : Int) > 0 := by omega
  simp only [h1, if_true, Int.ediv_one]
  split <;> omega
section
variable {prog : Program} {w : World} {A : Around} {E : Value → Shared → Prop} {s : Shared}
theorem sliceApplied_run {sl : Addr} {a b n : Nat} {u v : Tok} {Q : Int × Int × Nat → Shared → Prop} (hs : s.heap.IsSliceOf sl (.int a u) (.int b v) .none) (ha : a ≤ n) (h : Q ((a : Int), 1, min b n - a) s) :
    wpAny (model prog w) A (Builtin.Slice.sliceApplied (.ref sl) (pure (n : Int))) Q E s := by
  obtain ⟨os, hos, hcs, hds⟩ := id hs
  unfold Builtin.Slice.sliceApplied Builtin.Slice.sliceFields
  refine wpAny_bind (wpAny_bind (wpAny_field hos hds (x := .int a u) rfl (wpAny_bind (wpAny_field hos hds (x := .int b v) rfl (wpAny_bind (wpAny_field hos hds (x := .none) rfl (wpAny_pure ?_)))))))
  refine wpAny_bind (slicePart_none ?_)
  show wpAny _ _ (if ((1 : Int) == 0) = true then _ else _) _ _ s
  rw [if_neg (by decide)]
  refine wpAny_bind (slicePart_int (wpAny_bind (slicePart_int (wpAny_bind (wpAny_pure ?_)))))
  show wpAny _ _ (match Builtin.Slice.sliceAdjust (some (a : Int)) (some (b : Int)) 1 (n : Int) with | (lo, hi) => pure (lo, (1 : Int), Builtin.Slice.slicePlaces lo hi 1)) _ _ s
  rw [adjust_run a b n ha]
  show wpAny _ _ (pure ((a : Int), (1 : Int), Builtin.Slice.slicePlaces (a : Int) ((min b n : Nat) : Int) 1)) _ _ s
  rw [places_run a (min b n)]
  exact wpAny_pure h
theorem pick_run' (xs : Array Value) (a k : Nat) : ((List.range k).filterMap fun (k : Nat) => xs[((a : Int) + (k : Int) * 1).toNat]?).toArray = ((xs.toList.drop a).take k).toArray := by
  have e : (fun (k : Nat) => xs[((a : Int) + (k : Int) * 1).toNat]?) = fun k => xs[a + k]? := by
    funext k
    have : ((a : Int) + (k : Int) * 1).toNat = a + k := by omega
    rw [this]
  rw [e]
  have := pick_run xs a k
  rw [List.filterMap_map] at this
  have e2 : ((fun x => xs[x]?) ∘ fun x => a + x) = fun k => xs[a + k]? := rfl
  rw [e2] at this
  rw [this]
theorem getItem_tuple_run {t sl : Addr} {items : Array Value} {a b : Nat} {u v : Tok} {Q : Value → Shared → Prop} (ht : IsTup s.heap t items) (hs : s.heap.IsSliceOf sl (.int a u) (.int b v) .none) (h1 : 1 ≤ a) (ha : a ≤ items.size)
    (h : Q (.ref s.heap.objs.size) { s with heap := s.heap.push { cls := .type "tuple", data := .seq ((items.toList.drop a).take (min b items.size - a)).toArray } })
    (hsz : items.size ≤ sizeLine := by size_fits) : wpAny (model prog w) A (getItem (.ref t) (.ref sl)) Q E s := by
  have hdrop : sizeOk (.seq ((items.toList.drop a).take (min b items.size - a)).toArray) := by
    show ((items.toList.drop a).take (min b items.size - a)).toArray.size ≤ sizeLine
    rw [List.size_toArray, List.length_take, List.length_drop, Array.length_toList]
    omega
  obtain ⟨os, hos, hcs, hds⟩ := id hs
  have hTs : s.TypeIs (.ref sl) "slice" := ⟨os, hos, hcs⟩
  unfold getItem
  try with_reducible refine wpAny_holding ?_
  first | refine wpAny_bind (wpAny_pure ?_) | skip
  refine wpAny_bind (wpAny_sequenceKey ht.typeIs (by decide) ?_)
  refine wpAny_bind (wpAny_callSpecial?_slot (name := Str.ofString "__getitem__") ht.typeIs slot_tuple_getitem
    (wpAny_call_entry slot_tuple_getitem ht.typeIs entry_tuple_getitem ?_ (args_tuple_getitem _ _)))
  show wpAny _ _ (Builtin.Tuple.tupleItemsOf (.ref t) >>= _) _ _ s
  refine wpAny_bind (tupleItemsOf_ ht ?_)
  refine wpAny_bind (wpAny_typeOf hTs ?_)
  rw [if_pos (by decide)]
  refine wpAny_bind (sliceApplied_run hs ha ?_)
  have hno : ¬ (((a : Int) == 0 && (1 : Int) == 1 && (min b items.size - a) == items.size) = true) := by
    have : ((a : Int) == 0) = false := by rw [beq_eq_false_iff_ne]; omega
    rw [this]; simp
  show wpAny _ _ (if ((a : Int) == 0 && (1 : Int) == 1 && (min b items.size - a) == items.size) = true then _ else _) _ _ s
  rw [if_neg hno, pick_run' items a]
  first
    | exact wpAny_bind (m := Builtin.Tuple.tupleExact _) (wpAny_newObj_type (wpAny_pure ⟨_, rfl, wpAny_pure h⟩) hdrop)
    | exact wpAny_bind (m := Builtin.Tuple.tupleExact _) (wpAny_newObj_type (wpAny_bind (wpAny_pure (wpAny_pure ⟨_, rfl, wpAny_pure h⟩))) hdrop)
    | exact wpAny_bind (wpAny_bind (m := Builtin.Tuple.tupleExact _) (wpAny_newObj_type (wpAny_pure (wpAny_pure ⟨_, rfl, wpAny_pure h⟩)) hdrop))
    | exact wpAny_bind (wpAny_bind (m := Builtin.Tuple.tupleExact _) (wpAny_newObj_type (wpAny_pure ⟨_, rfl, wpAny_pure h⟩) hdrop))
end
section
variable {prog : Program} {w : World} {A : Around} {E : Value → Shared → Prop} {h₀ h : Heap} {L a : Addr} {m : Str → Option Value} {news : List (Addr × Obj)} {vs : List Value} {n : Nat} {g : Array GenState} {dr : Drawn} {tk : Nat} {os : OsState}
/-- t[1:4] -/
theorem T_trun {value slice : Expr} {v0 : Value} {u v : Tok} {Q : Value → Shared → Prop} (F : Fr h₀ L h m) (N : News h₀ L h news) (e : h₀.get? a = some (tupO (v0 :: vs) n)) (hl : (v0 :: vs).length < 1000)
    (k : ∀ h' q, Fr h₀ L h' m → News h₀ L h' ((q, tupO (vs.take 3) 0) :: news) → (∀ p ∈ news, p.1 < q) → Q (.ref q) ⟨h', g, dr, tk, os⟩)
    (hs : subscripted slice false (.ref a) (.ref h.objs.size) = operate [.ref h.objs.size, .ref a] (getItem (.ref a) (.ref h.objs.size)) := by with_unfolding_all rfl)
    (hg : ∀ r, letTemporaryGo value (.ref a) r = pure () := by intro _; with_unfolding_all rfl) :
    wpAny (model prog w) A (subscriptTail value slice (.ref a) (.ref h.objs.size)) Q E ⟨h.push { cls := .type "slice", data := .fields #[.int 1 u, .int 4 v, .none] }, g, dr, tk, os⟩ := by
  have ht : IsTup h a (v0 :: vs).toArray := ⟨_, F.keep _ _ e, rfl, n, rfl⟩
  have ht' : IsTup (h.push { cls := .type "slice", data := .fields #[.int 1 u, .int 4 v, .none] }) a (v0 :: vs).toArray := ht.keeps fun _ _ e => Heap.get?_push_of_some _ e
  have hz : (v0 :: vs).toArray.size ≤ sizeLine := Nat.le_trans (show (v0 :: vs).toArray.size ≤ 1000 by simp at hl ⊢; omega) (by decide)
  refine subscriptTail_ops (s := ⟨h.push { cls := .type "slice", data := .fields #[.int 1 u, .int 4 v, .none] }, g, dr, tk, os⟩) ht'.typeIs slot_tuple_getitem.lookup
    (getItem_tuple_run (a := 1) (b := 4) ht' (Heap.IsSliceOf.new ..) (Nat.le_refl _) (by simp) ?_ hz) hs hg
  have e9 : (((v0 :: vs).toArray.toList.drop 1).take (min 4 (v0 :: vs).toArray.size - 1)) = vs.take 3 := by
    simp only [List.drop_succ_cons, List.drop_zero, List.size_toArray, List.length_cons]
    rcases Nat.le_total 4 (vs.length + 1) with q | q
    · rw [Nat.min_eq_left q]
    · rw [Nat.min_eq_right q, Nat.add_sub_cancel, List.take_length, List.take_of_length_le (by omega)]
  rw [e9]
  have N1 := News.push (F.push { cls := .type "slice", data := .fields #[.int 1 u, .int 4 v, .none] }) (N.grown fun _ _ e => Heap.get?_push_of_some _ e) { cls := .type "tuple", data := .seq (vs.take 3).toArray }
  refine k _ _ ((F.push _).push _) N1 fun p hp => ?_
  have := Heap.lt_size (N p hp).1
  show p.1 < (h.push _).objs.size
  rw [Heap.size_push]; exact Nat.lt_succ_of_lt this
/-- xs[c:] of a list that the call did not make -/
theorem T_hfrom {value slice : Expr} {c : Nat} {u : Tok} {Q : Value → Shared → Prop} (F : Fr h₀ L h m) (N : News h₀ L h news) (e : h₀.get? a = some (listOf vs.toArray n)) (hz : vs.length ≤ 100000)
    (k : ∀ D h', Fr h₀ L h' m → News h₀ L h' ((D, listOf (vs.drop c).toArray 0) :: news) → (∀ p ∈ news, p.1 < D) → Q (.ref D) ⟨h', g, dr, tk, os⟩)
    (hs : subscripted slice false (.ref a) (.ref h.objs.size) = operate [.ref h.objs.size, .ref a] (getItem (.ref a) (.ref h.objs.size)) := by with_unfolding_all rfl)
    (hg : ∀ r, letTemporaryGo value (.ref a) r = pure () := by intro _; with_unfolding_all rfl) :
    wpAny (model prog w) A (subscriptTail value slice (.ref a) (.ref h.objs.size)) Q E ⟨h.push { cls := .type "slice", data := .fields #[.int (c : Nat) u, .none, .none] }, g, dr, tk, os⟩ := by
  refine slice_list (s := ⟨h, g, dr, tk, os⟩) F N (⟨_, F.keep _ _ e, rfl, n, rfl⟩ : h.IsList a vs.toArray) (.int _ _) .none (fun h' F' N' => ?_) hs hg (Nat.le_trans (show vs.toArray.size ≤ 100000 by simpa using hz) (by decide))
  rw [slicePick_from'] at N'
  exact k _ h' F' N' fun p hp => Nat.lt_succ_of_lt (Heap.lt_size (N p hp).1)
end
end Mine
-- Q7
namespace Mine
noncomputable abbrev ch1 (c : Nat) : Str := ⟨#[c]⟩
noncomputable def ChA (x : Str) (k c : Nat) : Prop := (tx x)[k]? = some c
noncomputable def ChB (x : Str) (k c : Nat) : Prop := (tx x)[k]? = some c
noncomputable def SlA (x : Str) (a b : Nat) (y : Str) : Prop := Txt.slice x (some (a : Int)) (some (b : Int)) = y
noncomputable def SlB (x : Str) (a b : Nat) (y : Str) : Prop := Txt.slice x (some (a : Int)) (some (b : Int)) = y
theorem slice_nat (x : Str) (a b : Nat) (hab : a ≤ b) (hb : b ≤ (tx x).length) : Txt.slice x (some (a : Int)) (some (b : Int)) = ⟨(((tx x).drop a).take (b - a)).toArray⟩ :=
  StrLaws.sliceText_nat x hab (by simpa [Str.length] using hb)
theorem slice_end (x : Str) : Txt.slice x (some (((tx x).length : Nat) : Int)) (some (((tx x).length + 1 : Nat) : Int)) = ⟨#[]⟩ := by
  have e2 : x.length = (tx x).length := by simp [Str.length]
  have e : Builtin.Str.strSliceIndices (some (((tx x).length : Nat) : Int)) (some (((tx x).length + 1 : Nat) : Int)) 1 x.length = [] := by
    rw [e2]
    unfold Builtin.Str.strSliceIndices sliceRange
    generalize (tx x).length = n
    have h1 : ¬ ((n : Int) < 0) := by omega
    have h2 : ¬ (((n + 1 : Nat) : Int) < 0) := by omega
    simp only [h1, h2, if_false, show (1 : Int) > 0 from by decide, if_true]
    have h3 : max (0 : Int) (min (n : Int) (n : Int)) = n := by omega
    have h4 : max (0 : Int) (min ((n + 1 : Nat) : Int) (n : Int)) = n := by omega
    simp
    split <;> omega
  show Txt.slice x _ _ = _
  unfold Txt.slice
  rw [e]
  split
  · rename_i q
    have q3 : 0 = x.length := by simpa using q
    exact Str.ext' (Array.eq_empty_of_size_eq_zero q3.symm)
  · rfl
theorem isDigit_tab : ∀ c : Fin 128, Unicode.isDigit c.val = decide (48 ≤ c.val ∧ c.val ≤ 57) := by decide +kernel
theorem isdigit_one {c : Nat} (h : c < 128) : Txt.isdigit (ch1 c) = decide (isDg c) := by
  have := isDigit_tab ⟨c, h⟩
  show (decide (1 > 0) && (#[c] : Array Nat).all Unicode.isDigit) = _
  simp [isDg, this]
theorem isalpha_one (c : Nat) : Txt.isalpha (ch1 c) = Unicode.isAlpha c := by
  show (decide (1 > 0) && (#[c] : Array Nat).all Unicode.isAlpha) = _
  simp
theorem isdigit_nil : Txt.isdigit ⟨#[]⟩ = false := rfl
theorem ch1_r (c : Nat) : (ch1 c == Str.ofString "r") = decide (c = 114) := by
  have e : Str.ofString "r" = ch1 114 := by decide
  rw [e]
  by_cases h : c = 114
  · simp [h]
  · have : ch1 c ≠ ch1 114 := fun q => h (by
      have := congrArg Str.cps q
      simpa using this)
    simp [h, this]
theorem drop_cons {l : List Nat} {k c : Nat} {cs : List Nat} (h : l.drop k = c :: cs) : k < l.length ∧ l[k]? = some c ∧ l.drop (k + 1) = cs := by
  have hk : k < l.length := by
    by_cases q : k < l.length
    · exact q
    · rw [List.drop_eq_nil_of_le (by omega)] at h; cases h
  refine ⟨hk, ?_, ?_⟩
  · have := congrArg (·[0]?) h
    simpa using this
  · rw [← List.drop_drop, h]; rfl
theorem item_nat {x : Str} {k c : Nat} (h : (tx x)[k]? = some c) : Txt.item x (k : Int) = ch1 c := by
  have hk : k < x.cps.size := by simpa using (List.getElem?_eq_some_iff.mp h).1
  have h' : x.cps[k]? = some c := by simpa using h
  have e : Txt.charAt x (k : Int) = some c := StrLaws.at_nonneg (by omega) (by simpa using h')
  unfold Txt.item
  rw [e]; rfl
section
variable {prog : Program} {w : World} {A : Around} {E : Value → Shared → Prop} {s : Shared} {x : Str} {t : Tok} {Q : Value → Shared → Prop} {h₀ : Heap} {L : Addr} {m : Str → Option Value} {news : List (Addr × Obj)}
theorem T_ch {value slice : Expr} {i : Int} {u : Tok} {k c : Nat} (hk : ChA x k c) (e : i = (k : Int)) (hz : x.length ≤ 10000000) (h : Q (.str (ch1 c) s.toks) { s with toks := s.toks + 1 })
    (hs : subscripted slice false (.str x t) (.int i u) = operate [.str x t, .int i u] (getItem (.str x t) (.int i u)) := by with_unfolding_all rfl)
    (ht : ∀ r, letTemporaryGo value (.str x t) r = pure () := by intro _; with_unfolding_all rfl) :
    wpAny (model prog w) A (subscriptTail value slice (.str x t) (.int i u)) Q E s := by
  subst e
  have hlt : k < x.length := by have := (List.getElem?_eq_some_iff.mp (show (tx x)[k]? = some c from hk)).1; simpa [Str.length] using this
  refine item_str (fitsSsize_of (N := 10000000) (by omega) (by omega) (by decide)) (by omega) (by omega) (fun _ => ?_) hs ht
  rw [item_nat hk]; exact h
theorem T_chB {value slice : Expr} {i : Int} {u : Tok} {k c : Nat} (hk : ChB x k c) (e : i = (k : Int)) (hz : x.length ≤ 10000000) (h : Q (.str (ch1 c) s.toks) { s with toks := s.toks + 1 })
    (hs : subscripted slice false (.str x t) (.int i u) = operate [.str x t, .int i u] (getItem (.str x t) (.int i u)) := by with_unfolding_all rfl)
    (ht : ∀ r, letTemporaryGo value (.str x t) r = pure () := by intro _; with_unfolding_all rfl) :
    wpAny (model prog w) A (subscriptTail value slice (.str x t) (.int i u)) Q E s := T_ch (k := k) hk e hz h hs ht
theorem T_sl {value slice : Expr} {i j : Int} {ui uj : Tok} {a b : Nat} {y : Str} {g : Array GenState} {dr : Drawn} {tk : Nat} {os : OsState} {hp : Heap} (hF : Fr h₀ L hp m) (hN : News h₀ L hp news) (e : Txt.slice x (some (a : Int)) (some (b : Int)) = y) (e1 : i = (a : Int)) (e2 : j = (b : Int)) (hz : x.length ≤ 10000000)
    (h : ∀ h' t' k, Fr h₀ L h' m → News h₀ L h' news → Q (.str y t') ⟨h', g, dr, k, os⟩)
    (hs : subscripted slice false (.str x t) (.ref hp.objs.size) = operate [.ref hp.objs.size, .str x t] (getItem (.str x t) (.ref hp.objs.size)) := by with_unfolding_all rfl)
    (ht : ∀ r, letTemporaryGo value (.str x t) r = pure () := by intro _; with_unfolding_all rfl) :
    wpAny (model prog w) A (subscriptTail value slice (.str x t) (.ref hp.objs.size)) Q E ⟨hp.push { cls := .type "slice", data := .fields #[.int i ui, .int j uj, .none] }, g, dr, tk, os⟩ := by
  subst e1 e2
  refine slice_strN_ss (s := ⟨hp, g, dr, tk, os⟩) hF hN (fun h' t' k a b => ?_) hs ht (Nat.le_trans hz (by decide))
  rw [e]; exact h h' t' k a b
theorem T_isd {b : Bool} (e : Txt.isdigit x = b) (h : Q (.bool b) s) : wpAny (model prog w) A (call (.builtin "str.isdigit") [.str x t]) Q E s := SC.isdigit (by rw [e]; exact h)
theorem T_isal {b : Bool} (e : Txt.isalpha x = b) (h : Q (.bool b) s) : wpAny (model prog w) A (call (.builtin "str.isalpha") [.str x t]) Q E s := SC.isalpha (by rw [e]; exact h)
theorem T_seq {y : Str} {u : Tok} {b : Bool} (e : (x == y) = b) (h : Q (.bool b) s) : wpAny (model prog w) A (compareOp .Eq (.str x t) (.str y u)) Q E s := by
  refine eq_str ?_
  rw [e]; exact h
theorem T_intof {n : Int} (h0 : 0 ≤ n) (h1 : n < 100) (h : Q (.int n s.toks) { s with toks := s.toks + 1 }) : wpAny (model prog w) A (call (.type "int") [.str (Str.ofString (toString n)) t]) Q E s := KIN.call_num h0 (by omega) h
end
end Mine
-- G12
namespace Mine
theorem words22 : True := by
  k_with_none
  (k_with "base k_mem" => first | exact Mine.memAt 0 rfl | exact Mine.memAt 1 rfl | exact Mine.memAt 2 rfl | exact Mine.memAt 3 rfl | exact Mine.memAt 4 rfl | exact Mine.memAt 5 rfl | exact Mine.memAt 6 rfl | exact Mine.memAt 7 rfl | (refine Mine.memSkip 8 rfl ?_; k_mem))
  (k_with "base k_all" => first | exact Mine.allNe (by with_reducible assumption) | with_reducible assumption | exact List.forall_mem_nil _ | (with_reducible refine' Mine.allApp ?a ?b; (case a => k_all); (case b => k_all)) | (refine' List.forall_mem_cons.mpr ⟨?a, ?b⟩; (case a => k_ne); (case b => k_all)) | assumption)
  (k_with "base k_ne" => first | with_reducible assumption | (refine Mine.ne_hi ?_; exact Mine.lt_mem (by with_reducible assumption) (by k_mem)) | exact Mine.neAt (by with_reducible assumption) (by k_mem) | exact Mine.neAt' (by with_reducible assumption) (by k_mem) | (refine Mine.ne_hi ?_; with_reducible first | assumption | exact Mine.pj0 (by assumption) | exact Mine.pj1 (by assumption) | exact Mine.pl1 (by assumption) | exact Mine.pj2 (by assumption) | exact Mine.pl2 (by assumption) | exact Mine.pj3 (by assumption) | exact Mine.pl3 (by assumption) | exact Mine.pj4 (by assumption) | exact Mine.pl4 (by assumption) | exact Mine.pj5 (by assumption) | exact Mine.pl5 (by assumption) | exact Mine.pj6 (by assumption) | exact Mine.pl6 (by assumption) | exact Mine.pj7 (by assumption) | exact Mine.pl7 (by assumption) | exact Mine.pj8 (by assumption) | exact Mine.pj9 (by assumption) | exact Mine.pj10 (by assumption) | exact Mine.pj11 (by assumption) | exact Mine.pj12 (by assumption) | exact Mine.pj13 (by assumption) | exact Mine.pj14 (by assumption)) | exact Ne.symm (by with_reducible assumption) | exact Ne.symm (by assumption) | (refine neN ?_; (try dsimp only); omega))
  (k_with "base k_steps" => (try ((fail_if_success (fail_if_success k_fold)); refine (let Q9z : _ → Shared → Prop := _; (?_ : wpAny _ _ _ Q9z _ _)))); (try ((fail_if_success (fail_if_success (conv in (Shared.mk _ _ _ _ _) => skip))); refine (let s9z : Shared := _; (?_ : wpAny _ _ _ _ _ s9z)))); (try ((with_reducible rename News _ _ _ (List.cons _ _) => N9z); refine (let NW9z : List (Addr × Obj) := _; have N8z : News _ _ _ (Mine.Fold NW9z) := N9z; ?_); clear N9z)); (try ((with_reducible rename Fr _ _ _ (fun _ => ite _ _ _) => F9z); refine (let FM9z : Str → Option Value := _; have F8z : Fr _ _ _ (Mine.Fold FM9z) := F9z; ?_); clear F9z)); repeat' (first | ((fail_if_success (fail_if_success k_unfold)); refine (?_ : wpAny _ _ _ _ _ _); (try ((fail_if_success (fail_if_success k_fold)); refine (let Q9z : _ → Shared → Prop := _; (?_ : wpAny _ _ _ Q9z _ _)))); (try ((fail_if_success (fail_if_success (conv in (Shared.mk _ _ _ _ _) => skip))); refine (let s9z : Shared := _; (?_ : wpAny _ _ _ _ _ s9z))))) | (k_unfold; (try dsimp only)) | (k_end; wrow_close) | ((first | walk1 | (dsimp only; walk1)); (try ((fail_if_success (fail_if_success k_fold)); refine (let Q9z : _ → Shared → Prop := _; (?_ : wpAny _ _ _ Q9z _ _)))); (try ((fail_if_success (fail_if_success (conv in (Shared.mk _ _ _ _ _) => skip))); refine (let s9z : Shared := _; (?_ : wpAny _ _ _ _ _ s9z)))); (try ((with_reducible rename News _ _ _ (List.cons _ _) => N9z); refine (let NW9z : List (Addr × Obj) := _; have N8z : News _ _ _ (Mine.Fold NW9z) := N9z; ?_); clear N9z)); (try ((with_reducible rename Fr _ _ _ (fun _ => ite _ _ _) => F9z); refine (let FM9z : Str → Option Value := _; have F8z : Fr _ _ _ (Mine.Fold FM9z) := F9z; ?_); clear F9z))) | (leave1; walk_say "STEP leave1"; try dsimp only) | fail "no step"))
  (k_with "mine keep" => (intros; repeat (first | rfl | refine (if_neg (by assumption)).trans ?_)))
  (k_with "mine env" => refine (let ev9 : Env := _; let A9 : Around := _; (?_ : wpAny _ A9 (execs _ ev9) _ _ _)))
  (k_with "mine sides" => ((case ho => k_is); (case hcd => k_is); (case hroom => (first | assumption | exact room0 (by assumption) rfl | omega | (dsimp only [Ar]; omega))); (case hbind => exact BindsTo.of_eq rfl); (case hloc => exact locs rfl); (case c2 => exact rfl); (case c3 => exact rfl); (case c4 => exact rfl); (case c5 => decide)))
  (k_with "mine size" => (first | assumption | exact Nat.le_of_ble_eq_true rfl | (simp only [List.size_toArray, Array.size_push, Array.size_append, List.length_cons, List.length_nil]; omega)))
  (k_with "call builtin:list.append" => (k_here; k_dflt (refine' T_append ?F9w ?N9w ?m9w ?U9w ?z9w ?_; (case F9w => k_asm); (case N9w => k_asm); (case m9w => k_mem); (case U9w => (intro k9w176'; k_upd)); (case z9w => walk_at "mine size"); intro h9w176' k9w176' F9w176' N9w176'; (try k_sweep))))
  (k_with "exec While Compare" => (k_here; k_dflt (refine Halt.mk ?_)))
  (k_with "exec While BoolOp" => (k_here; k_dflt (refine Halt.mk ?_)))
  (k_with "subscriptTail Name Name str int" => (k_here; k_dflt (refine' T_ch ?hk9w ?e9w ?z9w ?_; (case hk9w => with_reducible assumption); (case e9w => rfl); (case z9w => with_reducible assumption); k_whole)))
  (k_with "subscriptTail Name BinOp str int" => (k_here; k_dflt (refine' T_chB ?hk9w ?e9w ?z9w ?_; (case hk9w => with_reducible assumption); (case e9w => omega); (case z9w => with_reducible assumption); k_whole)))
  (k_with "subscriptTail Name Slice str ref" => (k_here; (with_reducible show wpAny _ _ (subscriptTail _ (PySem.Expr.Slice (some (PySem.Expr.BinOp _ _ _ _)) (some (PySem.Expr.BinOp _ _ _ _)) none _) (Value.str _ _) (Value.ref _)) _ _ _); k_dflt ((with_reducible rename SlA _ _ _ _ => hSl9w181); refine' T_sl ?F9w ?N9w hSl9w181 ?e19w ?e29w ?z9w ?_; (case F9w => k_asm); (case N9w => k_asm); (case e19w => omega); (case e29w => omega); (case z9w => with_reducible assumption); intro h9w181' t9w181' k9w181' F9w181' N9w181'; (try k_sweep))))
  (k_with "subscriptTail Name Slice str ref" => (k_here; (with_reducible show wpAny _ _ (subscriptTail _ (PySem.Expr.Slice (some (PySem.Expr.BinOp _ _ _ _)) (some (PySem.Expr.Name _ _)) none _) (Value.str _ _) (Value.ref _)) _ _ _); k_dflt ((with_reducible rename SlB _ _ _ _ => hSl9w182); refine' T_sl ?F9w ?N9w hSl9w182 ?e19w ?e29w ?z9w ?_; (case F9w => k_asm); (case N9w => k_asm); (case e19w => omega); (case e29w => omega); (case z9w => with_reducible assumption); intro h9w182' t9w182' k9w182' F9w182' N9w182'; (try k_sweep))))
  (k_with "call builtin:str.isdigit" => (k_here; k_dflt (refine' T_isd ?e9w ?_; (case e9w => with_reducible assumption); k_whole)))
  (k_with "call builtin:str.isalpha" => (k_here; k_dflt (refine' T_isal ?e9w ?_; (case e9w => with_reducible assumption); k_whole)))
  (k_with "compareOp Eq str str" => (k_here; k_dflt (refine' T_seq ?e9w ?_; (case e9w => with_reducible assumption); k_whole)))
  (k_with "call type:int" => (k_here; k_dflt ((with_reducible show wpAny _ _ (PySem.call _ [Value.str _ _]) _ _ _); refine' T_intof ?e19w ?e29w ?_; (case e19w => with_reducible assumption); (case e29w => with_reducible assumption); k_whole)))
  (k_with "newTuple" => (k_here; k_dflt (refine' newTupleM ?F9w ?N9w ?z9w ?_; (case F9w => k_asm); (case N9w => k_asm); (case z9w => exact Nat.le_of_ble_eq_true rfl)); intro D9w187' h9w187' NW99w187 s9w187' F9w187' N9w187' l19w187; (try k_sweep)))
  (k_with "spliced" => (k_here; k_dflt (refine' argsM ?a9w ?F9w ?e9w ?_; (case F9w => k_asm); (case a9w => rfl); (case e9w => rfl)); intro s9w188'))
  (k_with "eval List" => (k_here; k_dflt (refine' lstM ?a9w ?F9w ?e9w ?N9w ?z9w ?_; (case F9w => k_asm); (case a9w => rfl); (case e9w => rfl); (case N9w => k_asm); (case z9w => exact Nat.le_of_ble_eq_true rfl)); intro D9w189' h9w189' NW99w189 s9w189' F9w189' N9w189' l19w189; (try k_sweep)))
  (k_with "eval Constant str" => (refine constStrM ?_; intro s9w190'))
  (k_with "eval Constant int" => (refine constIntM ?_; intro s9w191'))
  (k_with "eval Name" => (k_here; k_dflt (first | ((with_reducible show wpAny _ _ (PySem.eval _ (compEnvC _ _ _ _)) _ _ _); first | (refine' nm_comp ?n9w ?m9w ?_ ?k9w ?l9w ?d9w; (case k9w => with_unfolding_all rfl); (case l9w => with_unfolding_all rfl); (case n9w => assumption); (case m9w => assumption); (case d9w => decide)) | (refine' nm_compC ?N9w ?c9w ?m9w ?d9w ?_ ?k9w ?l9w ?e9w; (case k9w => with_unfolding_all rfl); (case l9w => with_unfolding_all rfl); (case N9w => k_asm); (case c9w => with_unfolding_all rfl); (case m9w => k_mem); (case d9w => k_asm); (case e9w => decide))) | ((fail_if_success (with_reducible show wpAny _ _ (PySem.eval _ (compEnvC _ _ _ _)) _ _ _)); first | (refine' nameS ?a9w ?e9w ?F9w ?_; (case F9w => k_asm); (case a9w => rfl); (case e9w => rfl)) | (refine' nameK ?a9w ?g9w ?F9w ?X9w ?T9w ?e9w ?_; (case a9w => rfl); (case g9w => rfl); (case F9w => k_asm); (case X9w => k_asm); (case T9w => k_asm); (case e9w => k_is); k_whole) | (refine' nameB ?a9w ?g9w ?F9w ?X9w ?T9w ?e9w ?v9w ?n9w ?_; (case a9w => rfl); (case g9w => rfl); (case F9w => k_asm); (case X9w => k_asm); (case T9w => k_asm); (case e9w => k_is); (case v9w => boot_fast); (case n9w => decide); k_whole)))))
  (k_with "storeName" => (k_here; k_dflt (refine' storeM ?a9w ?b9w ?F9w ?N9w ?_; (case a9w => rfl); (case b9w => rfl); (case F9w => k_asm); (case N9w => k_asm)); intro h9w193' FM99w193 s9w193' F9w193' N9w193'; (try k_sweep)))
  trivial
noncomputable abbrev nFound : Str := Str.ofString "found"
noncomputable abbrev nPlace : Str := Str.ofString "place"
noncomputable abbrev nBehind : Str := Str.ofString "behind"
/-- the scan's invariant -/
inductive ScanJ (x : Str) (ns : List Int) (D : Addr) (m0 : Str → Option Value) (n : Nat) (m : Str → Option Value) (nw : List (Addr × Obj)) : Prop
  | mk : ∀ (pl p : Nat) (t : Tok) (ys : List Value) (k : Nat) (ms ms' : List Int) (bv : Option Value), (n = (tx x).length + 2 - pl) → (pl ≤ (tx x).length + 1) → (m = (fun y => if y = nBehind then bv else if y = nPlace then some (.int (pl : Nat) t) else m0 y)) → (nw = [(D, listOf ys.toArray k)]) → (IntsAre ys ms) → (ns = ms ++ ms') → (ys.length ≤ pl) → (Told p ((tx x).drop pl) ms') → ((pl = 0 → ∃ cs, (tx x).drop pl = 32 :: cs)) → ((1 ≤ pl → pl ≤ (tx x).length → (tx x)[pl - 1]? = some p)) → ScanJ x ns D m0 n m nw
theorem scan0 {H h : Heap} {L D : Addr} {m : Str → Option Value} {news : List (Addr × Obj)} {k : Nat} {t : Tok} {x : Str} {ns : List Int} (F : Fr H L h m) (N : News H L h news) (hD : (D, listOf #[] k) ∈ news) (hp : m nPlace = some (.int 0 t)) (hx : Told 32 (tx x) ns) (hx1 : ∃ cs, tx x = 32 :: cs) :
    ∃ m', Fr H L h m' ∧ News H L h [(D, listOf [].toArray k)] ∧ ScanJ x ns D m ((tx x).length + 2) m' [(D, listOf [].toArray k)] := by
  refine ⟨fun y => if y = nBehind then m nBehind else if y = nPlace then some (.int ((0 : Nat) : Int) t) else m y, ?_, fun p hp => ?_, 0, 32, t, [], k, [], ns, m nBehind, rfl, by omega, rfl, rfl, .nil, rfl, by simp, by simpa using hx, fun _ => by simpa using hx1, fun h => absurd h (by omega)⟩
  · have e : (fun y => if y = nBehind then m nBehind else if y = nPlace then some (.int ((0 : Nat) : Int) t) else m y) = m := by
      funext y
      show ite _ _ _ = _
      split
      · rename_i q; rw [q]
      split
      · rename_i q; rw [q, hp]; rfl
      · rfl
    rw [e]; exact F
  · rw [List.mem_singleton.mp hp]; exact N _ hD
theorem scan_close {H h' : Heap} {L D : Addr} {s : Shared} {m0 m' : Str → Option Value} {n pl p tk' : Nat} {t : Tok} {ys : List Value} {k : Nat} {ms ms' ns : List Int} {x : Str}
    (F : Fr H L h' m') (N : News H L h' [(D, listOf ys.toArray k)]) (hm1 : m' nPlace = some (.int (pl : Nat) t)) (hm2 : ∀ y, y ≠ nPlace → y ≠ nBehind → m' y = m0 y) (hn : (tx x).length + 2 - pl < n) (hpl : pl ≤ (tx x).length + 1) (hi : IntsAre ys ms) (hns : ns = ms ++ ms') (hyl : ys.length ≤ pl)
    (hT : Told p ((tx x).drop pl) ms') (h0 : 1 ≤ pl) (h1 : pl ≤ (tx x).length → (tx x)[pl - 1]? = some p) : WhileStep H L s (ScanJ x ns D m0) n .next { s with heap := h', toks := tk' } := by
  refine WhileStep.intro F N hn ⟨pl, p, t, ys, k, ms, ms', m' nBehind, rfl, hpl, ?_, rfl, hi, hns, hyl, hT, fun q => absurd q (by omega), fun _ => h1⟩
  funext y
  show m' y = ite _ _ _
  split
  · rename_i q; rw [q]
  split
  · rename_i q; rw [q, hm1]
  · rename_i q1 q2; exact hm2 y q2 q1
theorem Told.lt {p c : Nat} {cs : List Nat} {ns : List Int} (h : Told p (c :: cs) ns) : c < 128 := by
  generalize hl : c :: cs = l at h
  cases h with
  | nil => cases hl
  | skip ha _ _ => cases hl; exact ha
  | hit => cases hl; omega
  | last => cases hl; omega
theorem figs_tab : ∀ i : Fin 100, (figs (i.val : Int)).all (fun d => decide (48 ≤ d ∧ d ≤ 57)) = true ∧ 1 ≤ (figs (i.val : Int)).length ∧ (figs (i.val : Int)).length ≤ 2 := by decide +kernel
theorem figs_dg {i : Int} (h0 : 0 ≤ i) (h1 : i < 100) : (∀ d ∈ figs i, isDg d) ∧ 1 ≤ (figs i).length ∧ (figs i).length ≤ 2 := by
  have := figs_tab ⟨i.toNat, by omega⟩
  simp only at this
  rw [show ((i.toNat : Nat) : Int) = i by omega] at this
  refine ⟨fun d hd => ?_, this.2⟩
  have := List.all_eq_true.mp this.1 d hd
  simpa using this
theorem dg_true {d : Nat} (h : isDg d) : Txt.isdigit (ch1 d) = true := by
  rw [isdigit_one (by omega)]; simpa using h
theorem dg_false {d : Nat} (h : ¬ isDg d) (h2 : d < 128) : Txt.isdigit (ch1 d) = false := by
  rw [isdigit_one h2]; simpa using h
/-- the inner loop: the figures -/
inductive FigJ (len pl : Nat) (D : Addr) (ys : List Value) (k : Nat) (m1 : Str → Option Value) (n : Nat) (m : Str → Option Value) (nw : List (Addr × Obj)) : Prop
  | mk : ∀ (j : Nat) (t : Tok), (n = len - j) → (j ≤ len) → (m = (fun y => if y = nBehind then some (.int ((pl + 1 + j : Nat) : Int) t) else m1 y)) → (nw = [(D, listOf ys.toArray k)]) → FigJ len pl D ys k m1 n m nw
theorem fig0 {H h : Heap} {L D : Addr} {m : Str → Option Value} {pl len k : Nat} {ys : List Value} {t : Tok} (F : Fr H L h m) (N : News H L h [(D, listOf ys.toArray k)]) (hp : m nBehind = some (.int ((pl : Int) + 1) t)) :
    ∃ m', Fr H L h m' ∧ News H L h [(D, listOf ys.toArray k)] ∧ FigJ len pl D ys k m len m' [(D, listOf ys.toArray k)] := by
  refine ⟨_, ?_, N, 0, t, rfl, by omega, rfl, rfl⟩
  have e : (fun y => if y = nBehind then some (Value.int ((pl + 1 + 0 : Nat) : Int) t) else m y) = m := by
    funext y
    show ite _ _ _ = _
    split
    · rename_i q; rw [q, hp]; rfl
    · rfl
  rw [e]; exact F
theorem fig_close {H h' : Heap} {L D : Addr} {s : Shared} {m1 m' : Str → Option Value} {len pl j k tk' : Nat} {ys : List Value} {t : Tok} (F : Fr H L h' m') (N : News H L h' [(D, listOf ys.toArray k)]) (hm1 : m' nBehind = some (.int (((pl + 1 + j : Nat) : Int) + 1) t)) (hm2 : ∀ y, y ≠ nBehind → m' y = m1 y) (hj : j < len) :
    WhileStep H L s (FigJ len pl D ys k m1) (len - j) .next { s with heap := h', toks := tk' } := by
  refine WhileStep.intro F N (show len - (j + 1) < len - j by omega) ⟨j + 1, t, rfl, hj, ?_, rfl⟩
  funext y
  show m' y = ite _ _ _
  split
  · rename_i q; rw [q, hm1]; rfl
  · rename_i q; exact hm2 y q
theorem drop_figs {l f r : List Nat} {k : Nat} (h : l.drop k = f ++ r) : (∀ j, j < f.length → l[k + j]? = f[j]?) ∧ l.drop (k + f.length) = r ∧ (l.drop k).take f.length = f := by
  refine ⟨fun j hj => ?_, ?_, by rw [h]; simp⟩
  · have : (l.drop k)[j]? = (f ++ r)[j]? := by rw [h]
    rw [List.getElem?_drop, List.getElem?_append_left hj] at this
    exact this
  · rw [← List.drop_drop, h]; simp
theorem push_news {g h : Heap} {L D : Addr} {ys : List Value} {v : Value} {k : Nat} {tl : List (Addr × Obj)} (N : News g L h ((D, listOf (ys.toArray.push v) k) :: tl)) : News g L h ((D, listOf (ys ++ [v]).toArray k) :: tl) := by
  rw [List.push_toArray] at N; exact N
theorem scan_next {H h' : Heap} {L D : Addr} {s : Shared} {m0 m' : Str → Option Value} {pl p tk' : Nat} {t : Tok} {ys : List Value} {k : Nat} {ms ms' : List Int} {x : Str}
    (F : Fr H L h' m') (N : News H L h' [(D, listOf ys.toArray k)]) (hm1 : m' nPlace = some (.int (pl + 1 : Nat) t)) (hm2 : ∀ y, y ≠ nPlace → y ≠ nBehind → m' y = m0 y) (hlt : pl < (tx x).length) (hi : IntsAre ys ms) (hyl : ys.length ≤ pl)
    (hT : Told p ((tx x).drop (pl + 1)) ms') (h1 : (tx x)[pl]? = some p) : WhileStep H L s (ScanJ x (ms ++ ms') D m0) ((tx x).length + 2 - pl) .next { s with heap := h', toks := tk' } :=
  scan_close F N hm1 hm2 (by omega) (Nat.le_succ_of_le hlt) hi rfl (Nat.le_succ_of_le hyl) hT (Nat.le_add_left ..) fun _ => h1
theorem fig_next {pl n l : Nat} (h : pl + 1 + n ≤ l) : l + 2 - (pl + 1 + n + 1) < l + 2 - pl ∧ pl + 1 + n + 1 ≤ l + 1 ∧ pl + 1 + n + 1 - 1 = pl + 1 + n := by omega
theorem told_elim {p : Nat} {rest : List Nat} {ms : List Int} {G : Prop} (h : Told p rest ms) (nil : rest = [] → ms = [] → G)
    (skip : ∀ c cs, rest = c :: cs → c < 128 → ¬ (c = 114 ∧ NonAl p ∧ ∃ d ds, cs = d :: ds ∧ isDg d) → Told c cs ms → G)
    (fig : ∀ i suf nsr, rest = 114 :: (figs i ++ suf) → ms = i :: nsr → NonAl p → 0 ≤ i → i < 100 → (∀ c cs, suf = c :: cs → c < 128 ∧ ¬ isDg c ∧ Told c cs nsr) → (suf = [] → nsr = []) → G) : G := by
  cases h with
  | nil => exact nil rfl rfl
  | skip ha h t => exact skip _ _ rfl ha h t
  | hit hp h0 h1 ha hc t => exact fig _ _ _ rfl rfl hp h0 h1 (fun c cs e => by cases e; exact ⟨ha, hc, t⟩) fun e => nomatch e
  | last hp h0 h1 => exact fig _ [] _ (by rw [List.append_nil]) rfl hp h0 h1 (fun c cs e => nomatch e) fun _ => rfl
theorem told_spec {w : World} {mean : ExcName → Option Value} {mg mb : Str → Option Value} {H : Heap} (B : Bs w mean mg mb H) (x : Str) (ns : List Int) (hx : Told 32 (tx x) ns) (hx1 : ∃ cs, tx x = 32 :: cs) (hz : x.length ≤ 10000000) (hz2 : ns.length ≤ 1000) :
    Sp w H 201 6 60 (fun h args => ∃ t, args = [.str x t]) (fun h _ h' r => (∃ (R : Addr) (ys : List Value) (k : Nat), r = .ref R ∧ h.get? R = none ∧ h'.get? R = some (listOf ys.toArray k) ∧ IntsAre ys ns) ∧ But [] h h') := by
  refine Sp.intro ?_
  rintro dp un fr s args R hst hdp hun ⟨t, rfl⟩ hR
  refine' enter0 (binds := [(Str.ofString "text", .str x t)]) hst B ?ho ?hcd ?hroom ?hbind ?hloc ?h ?c2 ?c3 ?c4 ?c5
  walk_at "mine sides"
  intro L h₁ F N X T
  (try simp only [List.reverse_cons, List.reverse_nil, List.nil_append, List.cons_append] at F)
  (try dsimp only)
  walk_at "mine env"
  have hcL := cLine_is
  have hxl : x.length = (tx x).length := by simp [Str.length]
  k_steps
  refine Halt.get ?_
  rename (News _ _ _ (_ :: _)) => N9
  rename (Fr _ _ _ _) => F9
  obtain ⟨m', F0, N0, J0⟩ := scan0 F9 N9 (by k_mem) (by with_unfolding_all rfl) hx hx1
  clear F9 N9
  refine While_inv (ScanJ x ns _ _) F0 N0 J0 ?turn
  case turn =>
    clear F0 N0 J0
    intro n m₁ news₁ h₁ tk₁ F N hJ
    obtain ⟨pl, p, t9, ys, k, ms, ms', bv, rfl, hpl, rfl, rfl, hi, rfl, hyl, hT, h0, h1⟩ := hJ
    have hys : ys.toArray.size ≤ 100000 := by
      have e1 := ints_len hi
      rw [List.length_append] at hz2
      rw [List.size_toArray]; omega
    have hp0 : ∀ {cs : List Nat}, (tx x).drop pl = 114 :: cs → 1 ≤ pl := fun {cs} e => by
      rcases Nat.eq_zero_or_pos pl with q | q
      · obtain ⟨ds, e2⟩ := h0 q
        rw [e] at e2
        cases e2
      · exact q
    have hpl2 : pl ≤ (tx x).length → (pl : Int) ≤ 10000000 := fun q => by omega
    generalize hr : (tx x).drop pl = rest at hT
    refine told_elim hT ?tnil ?tskip ?tfig
    case tnil =>
      rintro rfl rfl
      have hge : (tx x).length ≤ pl := List.drop_eq_nil_iff.mp hr
      k_steps
      rename (News _ _ _ _) => N
      rename (Fr _ _ _ _) => F
      exact hR _ _ _ ⟨⟨_, ys, k, rfl, (N _ (.head _)).2.2, (N _ (.head _)).1, by simpa using hi⟩, fun b o e _ => F.keep b o e⟩
    case tskip =>
      rintro c cs rfl ha hn ht
      obtain ⟨hlt, hc, hd⟩ := drop_cons hr
      have hA : ChA x pl c := hc
      by_cases q : c = 114
      · subst q
        have e1 : (ch1 114 == Str.ofString "r") = true := by rw [ch1_r]; rfl
        have hpl1 := hp0 hr
        have hB : ChB x (pl - 1) p := h1 hpl1 (by omega)
        by_cases q2 : Unicode.isAlpha p = true
        · have e2 : Txt.isalpha (ch1 p) = true := by rw [isalpha_one]; exact q2
          k_steps
          exact scan_next (by assumption) (by assumption) (by with_unfolding_all rfl) (by walk_at "mine keep") hlt hi hyl (by rw [hd]; exact ht) hc
        · have e2 : Txt.isalpha (ch1 p) = false := by rw [isalpha_one]; simpa using q2
          cases cs with
          | nil =>
            have hend : pl + 1 = (tx x).length := by
              have := List.drop_eq_nil_iff.mp hd
              omega
            have hS : SlA x (pl + 1) (pl + 2) ⟨#[]⟩ := by
              show Txt.slice x _ _ = _
              rw [show pl + 2 = (tx x).length + 1 by omega, hend]
              exact slice_end x
            have e3 : Txt.isdigit ⟨#[]⟩ = false := rfl
            k_steps
            exact scan_next (by assumption) (by assumption) (by with_unfolding_all rfl) (by walk_at "mine keep") hlt hi hyl (by rw [hd]; exact ht) hc
          | cons d ds =>
            obtain ⟨hlt2, hc2, hd2⟩ := drop_cons hd
            have hS : SlA x (pl + 1) (pl + 2) (ch1 d) := by
              show Txt.slice x _ _ = _
              rw [slice_nat x _ _ (by omega) (by omega), hd]
              simp [show pl + 2 - (pl + 1) = 1 by omega]
            have e3 : Txt.isdigit (ch1 d) = false := dg_false (fun q => hn ⟨rfl, by simpa using q2, d, ds, rfl, q⟩) ht.lt
            k_steps
            exact scan_next (by assumption) (by assumption) (by with_unfolding_all rfl) (by walk_at "mine keep") hlt hi hyl (by rw [hd]; exact ht) hc
      · have e1 : (ch1 c == Str.ofString "r") = false := by rw [ch1_r]; simpa using q
        k_steps
        exact scan_next (by assumption) (by assumption) (by with_unfolding_all rfl) (by walk_at "mine keep") hlt hi hyl (by rw [hd]; exact ht) hc
    case tfig =>
      rintro i suf nsr rfl rfl hp i0 i1 hsuf hsuf0
      obtain ⟨hlt, hcc, hd⟩ := drop_cons hr
      obtain ⟨fd, fl1, fl2⟩ := figs_dg i0 i1
      obtain ⟨g1, g2, g3⟩ := drop_figs hd
      have hA : ChA x pl 114 := hcc
      have e1 : (ch1 114 == Str.ofString "r") = true := by rw [ch1_r]; rfl
      have hpl1 := hp0 hr
      have hB : ChB x (pl - 1) p := h1 hpl1 (by omega)
      have e2 : Txt.isalpha (ch1 p) = false := by rw [isalpha_one]; exact hp
      obtain ⟨d0, hd0⟩ : ∃ d, (figs i)[0]? = some d := ⟨_, List.getElem?_eq_getElem (by omega)⟩
      have hlen0 : pl + 1 + (figs i).length ≤ (tx x).length := by
        have q := congrArg List.length hd
        simp only [List.length_drop, List.length_append] at q
        omega
      have hS : SlA x (pl + 1) (pl + 2) (ch1 d0) := by
        show Txt.slice x _ _ = _
        rw [slice_nat x _ _ (by omega) (by omega)]
        have q := g1 0 (by omega)
        rw [hd0, Nat.add_zero] at q
        have q2 : (tx x).drop (pl + 1) = d0 :: (tx x).drop (pl + 2) := by
          rw [List.drop_eq_getElem_cons (by omega)]
          congr 1
          have := List.getElem?_eq_getElem (l := tx x) (i := pl + 1) (by omega)
          rw [q] at this
          exact (Option.some.inj this).symm
        rw [q2, show pl + 2 - (pl + 1) = 1 by omega]
        rfl
      have e3 : Txt.isdigit (ch1 d0) = true := dg_true (fd d0 (List.mem_of_getElem? hd0))
      have hSB : SlB x (pl + 1) (pl + 1 + (figs i).length) (Str.ofString (toString i)) := by
        show Txt.slice x _ _ = _
        rw [slice_nat x _ _ (by omega) hlen0, show pl + 1 + (figs i).length - (pl + 1) = (figs i).length by omega, g3]
        exact Str.ext' (by simp [figs])
      k_steps
      refine Halt.get ?_
      rename (News _ _ _ (_ :: _)) => N9
      rename (Fr _ _ _ _) => F9
      obtain ⟨m8, F8, N8, J8⟩ := fig0 (len := (figs i).length) (pl := pl) F9 N9 (by with_unfolding_all rfl)
      clear hA e3 F9 N9
      refine While_inv (FigJ (figs i).length pl _ ys k _) F8 N8 J8 ?_
      clear F8 N8 J8
      intro n8 m8 news8 h8 tk8 F N hJ
      obtain ⟨j, t8, rfl, hj, rfl, rfl⟩ := hJ
      by_cases hjl : j < (figs i).length
      · obtain ⟨dj, hdj⟩ : ∃ d, (figs i)[j]? = some d := ⟨_, List.getElem?_eq_getElem hjl⟩
        have hA : ChA x (pl + 1 + j) dj := by
          have q := g1 j hjl
          rw [hdj] at q; exact q
        have e3 : Txt.isdigit (ch1 dj) = true := dg_true (fd dj (List.mem_of_getElem? hdj))
        k_steps
        exact fig_close (by assumption) (by assumption) (by with_unfolding_all rfl) (by walk_at "mine keep") hjl
      · have hje : j = (figs i).length := by omega
        subst hje
        obtain ⟨w1, w2, w3⟩ := fig_next hlen0
        cases suf with
        | cons c cs =>
          obtain ⟨ha, hc, ht⟩ := hsuf c cs rfl
          obtain ⟨hlt2, hc2, hd2⟩ := drop_cons g2
          have hA : ChA x (pl + 1 + (figs i).length) c := hc2
          have e3 : Txt.isdigit (ch1 c) = false := dg_false hc ha
          k_steps
          rename (News _ _ _ (_ :: _)) => N9
          have N9 := push_news N9
          exact scan_close (pl := pl + 1 + (figs i).length + 1) (p := c) (ms' := nsr) (by assumption) N9 (by with_unfolding_all rfl) (by walk_at "mine keep") w1 w2 (ints_snoc hi) (by simp) (by simp; omega) (by rw [hd2]; exact ht) (Nat.le_add_left ..) (fun _ => hc2)
        | nil =>
          cases hsuf0 rfl
          have hend : (tx x).length ≤ pl + 1 + (figs i).length := List.drop_eq_nil_iff.mp g2
          k_steps
          rename (News _ _ _ (_ :: _)) => N9
          have N9 := push_news N9
          exact scan_close (pl := pl + 1 + (figs i).length + 1) (p := 0) (ms' := []) (by assumption) N9 (by with_unfolding_all rfl) (by walk_at "mine keep") w1 w2 (ints_snoc hi) (by simp) (by simp; omega) (by rw [List.drop_eq_nil_of_le (by omega)]; exact .nil _) (Nat.le_add_left ..) (fun q => absurd q (by omega))
end Mine
-- Q8
namespace Mine
theorem pt_op {a : Dat} (h : OpOk a) : Tells (tx (ptext 2 a)) (opRegs a) := by rw [ptext_op _ h]; exact tells_op h
theorem pt_kind {a : Dat} (h : a ∈ kinds) : Tells (tx (ptext 2 a)) [] := by rw [ptext_kind _ h]; exact Tells.noR (noR_ty h)
theorem pt_int {i : Int} (h0 : 0 ≤ i) (h1 : i < 100) : Tells (tx (ptext 2 (.int i))) [] := by rw [ptext_int]; exact tells_int i h0 h1
theorem pt_str {x : Str} (h : Mine.noR (tx x) = true) : Tells (tx (ptext 2 (.str x))) [] := by rw [ptext_str]; exact Tells.noR h
theorem pt_none : Tells (tx (ptext 2 .none)) [] := by rw [ptext_none]; exact Tells.noR (by decide)
theorem pt_true : Tells (tx (ptext 2 (.bool true))) [] := Tells.noR (by decide)
theorem pt_pair {a b : Dat} (ha : OpOk a) (hb : OpOk b) : Tells (tx (ptext 2 (.tuple [a, b]))) (opRegs a ++ opRegs b) := tells_pair ha hb 1
theorem pt_kinds {k : Dat} (h : k ∈ kinds) : Tells (tx (ptext 2 (.tuple [k, k]))) [] := tells_kinds h h 1
theorem pt_called {c : Dat} {led : List Int} (h : Called c led) : Tells (tx (ptext 2 c)) led := tells_called h 1
theorem pt_site {j : Int} (h0 : 0 ≤ j) (h1 : j < 40) : Tells (tx (ptext 2 (dSite j))) [] := tells_site j h0 h1 1
theorem pt_nil : Tells (tx (ptext 2 (.tuple []))) [] := Tells.noR (by decide)
theorem one_text (i : Int) : ptext 2 (.tuple [.int i]) = Str.ofString "(" ++ sInt i ++ Str.ofString ")" := by
  rw [ptext_tup rfl rfl]
  rw [List.map_cons, List.map_nil, ptext_int]
  rfl
theorem pt_one {i : Int} (h0 : 0 ≤ i) (h1 : i < 100) : Tells (tx (ptext 2 (.tuple [.int i]))) [] := by
  rw [one_text]
  exact Tells.paren (tells_int i h0 h1)
theorem pt_send {a b : Dat} (ha : OpOk a) (hb : OpOk b) : Tells (tx (ptext 2 (.tuple [.tuple [.str (Str.ofString "send"), a, b]]))) (opRegs a ++ opRegs b) := by
  rw [ptext_tup rfl rfl]
  refine Tells.paren (Tells.join_co ?_)
  rw [List.map_cons, List.map_nil, ptext_tup (by simp [isOp]; decide) (by simp [isTold, isOp]; decide)]
  have h : Tells (tx (Str.ofString "(" ++ Str.join (Str.ofString ", ") ([.str (Str.ofString "send"), a, b].map (ptext 0)) ++ Str.ofString ")")) (opRegs a ++ opRegs b) := by
    refine Tells.paren (Tells.join_co ?_)
    rw [List.map_cons, List.map_cons, List.map_cons, List.map_nil, ptext_str, ptext_op _ ha, ptext_op _ hb]
    simpa using TellsL.cons (Tells.noR (s := tx (Str.ofString "send")) (by decide)) (TellsL.cons (tells_op ha) (TellsL.cons (tells_op hb) TellsL.nil))
  simpa using TellsL.cons h TellsL.nil
noncomputable abbrev rowT (d : Dat) : Str := Str.ofString "  " ++ itext d
theorem told_row {w : Str} {ds : List Dat} {ns : List Int} (hw : Mine.noR (tx w) = true) (h : TellsL (ds.map (ptext 2)) ns) : Told 32 (tx (rowT (.tuple (.str w :: ds)))) ns := by
  have h1 : Tells (tx (itext (.tuple (.str w :: ds)))) ns := by
    show Tells (tx (Str.join (Str.ofString " ") (w :: ds.map (ptext 2)))) ns
    refine Tells.join_sp ?_
    simpa using TellsL.cons (Tells.noR hw) h
  have h2 : Tells (tx (rowT (.tuple (.str w :: ds)))) ns := by
    show Tells (tx (Str.ofString "  " ++ itext (.tuple (.str w :: ds)))) ns
    rw [tx_app, show tx (Str.ofString "  ") = [32, 32] from by decide]
    exact Tells.front (by decide) (by decide +kernel) h1
  exact h2.1 32 (by decide +kernel)
theorem row_space (d : Dat) : ∃ cs, tx (rowT d) = 32 :: cs := by
  refine ⟨32 :: tx (itext d), ?_⟩
  show tx (Str.ofString "  " ++ itext d) = _
  rw [tx_app, show tx (Str.ofString "  ") = [32, 32] from by decide]
  rfl
theorem join_front {R : List Str} (hR : R ≠ []) : ∀ (A : List Str), tx (Str.join (Str.ofString " ") (A ++ R)) = ((A.map tx).map (· ++ [32])).flatten ++ tx (Str.join (Str.ofString " ") R)
  | [] => by simp
  | a :: A => by
    have ih := join_front hR A
    cases hAR : A ++ R with
    | nil => exact absurd (List.append_eq_nil_iff.mp hAR).2 hR
    | cons y l =>
      rw [hAR] at ih
      show tx (Str.join (Str.ofString " ") (a :: (A ++ R))) = _
      rw [hAR]
      show tx (a ++ Str.ofString " " ++ Str.join (Str.ofString " ") (y :: l)) = _
      rw [tx_app, tx_app, ih, show tx (Str.ofString " ") = [32] from by decide]
      simp
theorem split_row {w : Str} {A R : List Str} (hR : R ≠ []) (hw : 32 ∉ tx w) (hA : ∀ a ∈ A, 32 ∉ tx a) :
    ∃ W', Txt.split (Str.ofString "  " ++ Str.join (Str.ofString " ") (w :: (A ++ R))) sp = (Str.ofString "" :: Str.ofString "" :: w :: A) ++ W' ∧ tx (Str.join sp W') = tx (Str.join (Str.ofString " ") R) ∧ W' ≠ [] ∧ ∀ p ∈ W', 32 ∉ tx p := by
  have e := join_front hR (w :: A)
  obtain ⟨W', h1, h2, h3, h4⟩ := split_of (Str.ofString "  " ++ Str.join (Str.ofString " ") (w :: (A ++ R))) ([] :: [] :: (w :: A).map tx) (r := tx (Str.join (Str.ofString " ") R)) (fun v hv => by
    simp only [List.mem_cons, List.map_cons, List.mem_map] at hv
    rcases hv with rfl | rfl | rfl | ⟨a, ha, rfl⟩
    · simp
    · simp
    · exact hw
    · exact hA a ha) (by
    show tx (Str.ofString "  " ++ Str.join (Str.ofString " ") (w :: (A ++ R))) = _
    rw [tx_app, show tx (Str.ofString "  ") = [32, 32] from by decide]
    rw [show w :: (A ++ R) = (w :: A) ++ R from rfl, e]
    simp)
  refine ⟨W', ?_, h2, h3, h4⟩
  rw [h1]
  have e2 : ∀ l : List Str, (l.map tx).map (fun w => (⟨w.toArray⟩ : Str)) = l := fun l => by
    rw [List.map_map]
    conv => rhs; rw [← List.map_id l]
    congr 1
  simp only [List.map_cons]
  rw [show (List.map tx A).map (fun w => (⟨w.toArray⟩ : Str)) = A from e2 A]
  rfl
theorem figs_free {i : Int} (h0 : 0 ≤ i) (h1 : i < 100) : 32 ∉ tx (sInt i) := fun h => by
  have := (figs_dg h0 h1).1 32 h
  omega
noncomputable def wantS : List Dat → List Int := List.filterMap fun d => match d with | .int i => some i | _ => none
inductive RowOk : Dat → List Int → Prop
  | jump (i : Int) : 0 ≤ i → i < 14 → Txt.split (rowT (.tuple [.str (Str.ofString "jump"), .int i])) sp = [Str.ofString "", Str.ofString "", Str.ofString "jump", sInt i] → RowOk (.tuple [.str (Str.ofString "jump"), .int i]) []
  | call (i : Int) (ds : List Dat) (ns : List Int) (W' : List Str) : 0 ≤ i → i < 14 → ns.length ≤ 20 → ds.length ≤ 8 → Told 32 (tx (rowT (.tuple (.str (Str.ofString "call") :: .tuple [.int i] :: ds)))) ns →
      Txt.split (rowT (.tuple (.str (Str.ofString "call") :: .tuple [.int i] :: ds))) sp = [Str.ofString "", Str.ofString "", Str.ofString "call", Str.ofString "(" ++ sInt i ++ Str.ofString ")"] ++ W' → RowOk (.tuple (.str (Str.ofString "call") :: .tuple [.int i] :: ds)) (i :: ns)
  | other (w : Str) (ds : List Dat) (ns ws : List Int) (W' : List Str) : w ≠ Str.ofString "call" → w ≠ Str.ofString "jump" → (w = Str.ofString "branch" ∧ ws = []) ∨ (w ≠ Str.ofString "branch" ∧ wantS (ds.take 3) = ws) → (ws ++ ns).length ≤ 20 → ds.length ≤ 8 → (∀ i ∈ ws, 0 ≤ i ∧ i < 14) →
      Told 32 (tx (rowT (.tuple (.str w :: ds)))) ns → Txt.split (rowT (.tuple (.str w :: ds))) sp = (Str.ofString "" :: Str.ofString "" :: w :: ws.map sInt) ++ W' → RowOk (.tuple (.str w :: ds)) (ws ++ ns)
theorem opRegs_len1 {o : Dat} (h : OpOk o) : (opRegs o).length ≤ 1 := by
  cases h with
  | reg i => exact Nat.le_refl _
  | const k c hk hc =>
    have e2 : opRegs (.tuple [.str (Str.ofString "const"), k, c]) = [] := by cases c <;> first | rfl | (cases k <;> rfl)
    rw [e2]; simp
theorem called_len {c : Dat} {led : List Int} (h : Called c led) : led.length ≤ 1 := by cases h <;> simp
theorem want_op {o : Dat} {ds : List Dat} (h : OpOk o) : wantS (o :: ds) = wantS ds := by
  obtain ⟨l, rfl⟩ := op_tuple h; rfl
theorem want_kind {o : Dat} {ds : List Dat} (h : o ∈ kinds) : wantS (o :: ds) = wantS ds := by
  obtain ⟨l, rfl⟩ := kind_tuple h; rfl
theorem want_called {o : Dat} {ds : List Dat} {led : List Int} (h : Called o led) : wantS (o :: ds) = wantS ds := by cases h <;> rfl
theorem other_of {w : Str} {ds : List Dat} {ns ws : List Int} (R : List Dat) (h1 : w ≠ Str.ofString "call") (h2 : w ≠ Str.ofString "jump") (h3 : (w = Str.ofString "branch" ∧ ws = []) ∨ (w ≠ Str.ofString "branch" ∧ wantS (ds.take 3) = ws)) (hw : Mine.noR (tx w) = true) (hw2 : 32 ∉ tx w)
    (hR : R ≠ []) (hds : ds = ws.map Dat.int ++ R) (hws : ∀ i ∈ ws, 0 ≤ i ∧ i < 14) (hl : (ws ++ ns).length ≤ 20) (hl2 : ds.length ≤ 8) (hT : TellsL (ds.map (ptext 2)) ns) {ms : List Int} (hm : ms = ws ++ ns) : RowOk (.tuple (.str w :: ds)) ms := by
  subst hm
  have e : ds.map (ptext 2) = ws.map sInt ++ R.map (ptext 2) := by
    rw [hds, List.map_append, List.map_map]
    congr 1
  obtain ⟨W', h4, _⟩ := split_row (w := w) (A := ws.map sInt) (R := R.map (ptext 2)) (by simpa using hR) hw2 (fun a ha => by
    obtain ⟨i, hi, rfl⟩ := List.mem_map.mp ha
    exact figs_free (hws i hi).1 (by have := (hws i hi).2; omega))
  refine .other w ds ns ws W' h1 h2 h3 hl hl2 hws (told_row hw hT) ?_
  show Txt.split (Str.ofString "  " ++ Str.join (Str.ofString " ") (w :: ds.map (ptext 2))) sp = _
  rw [e]; exact h4
theorem words23 : True := by
  k_with_none
  (k_with "base k_mem" => first | exact Mine.memAt 0 rfl | exact Mine.memAt 1 rfl | exact Mine.memAt 2 rfl | exact Mine.memAt 3 rfl | exact Mine.memAt 4 rfl | exact Mine.memAt 5 rfl | exact Mine.memAt 6 rfl | exact Mine.memAt 7 rfl | (refine Mine.memSkip 8 rfl ?_; k_mem))
  (k_with "base k_all" => first | exact Mine.allNe (by with_reducible assumption) | with_reducible assumption | exact List.forall_mem_nil _ | (with_reducible refine' Mine.allApp ?a ?b; (case a => k_all); (case b => k_all)) | (refine' List.forall_mem_cons.mpr ⟨?a, ?b⟩; (case a => k_ne); (case b => k_all)) | assumption)
  (k_with "base k_ne" => first | with_reducible assumption | (refine Mine.ne_hi ?_; exact Mine.lt_mem (by with_reducible assumption) (by k_mem)) | exact Mine.neAt (by with_reducible assumption) (by k_mem) | exact Mine.neAt' (by with_reducible assumption) (by k_mem) | (refine Mine.ne_hi ?_; with_reducible first | assumption | exact Mine.pj0 (by assumption) | exact Mine.pj1 (by assumption) | exact Mine.pl1 (by assumption) | exact Mine.pj2 (by assumption) | exact Mine.pl2 (by assumption) | exact Mine.pj3 (by assumption) | exact Mine.pl3 (by assumption) | exact Mine.pj4 (by assumption) | exact Mine.pl4 (by assumption) | exact Mine.pj5 (by assumption) | exact Mine.pl5 (by assumption) | exact Mine.pj6 (by assumption) | exact Mine.pl6 (by assumption) | exact Mine.pj7 (by assumption) | exact Mine.pl7 (by assumption) | exact Mine.pj8 (by assumption) | exact Mine.pj9 (by assumption) | exact Mine.pj10 (by assumption) | exact Mine.pj11 (by assumption) | exact Mine.pj12 (by assumption) | exact Mine.pj13 (by assumption) | exact Mine.pj14 (by assumption)) | exact Ne.symm (by with_reducible assumption) | exact Ne.symm (by assumption) | (refine neN ?_; (try dsimp only); omega))
  (k_with "base k_steps" => (try ((fail_if_success (fail_if_success k_fold)); refine (let Q9z : _ → Shared → Prop := _; (?_ : wpAny _ _ _ Q9z _ _)))); (try ((fail_if_success (fail_if_success (conv in (Shared.mk _ _ _ _ _) => skip))); refine (let s9z : Shared := _; (?_ : wpAny _ _ _ _ _ s9z)))); (try ((with_reducible rename News _ _ _ (List.cons _ _) => N9z); refine (let NW9z : List (Addr × Obj) := _; have N8z : News _ _ _ (Mine.Fold NW9z) := N9z; ?_); clear N9z)); (try ((with_reducible rename Fr _ _ _ (fun _ => ite _ _ _) => F9z); refine (let FM9z : Str → Option Value := _; have F8z : Fr _ _ _ (Mine.Fold FM9z) := F9z; ?_); clear F9z)); repeat' (first | ((fail_if_success (fail_if_success k_unfold)); refine (?_ : wpAny _ _ _ _ _ _); (try ((fail_if_success (fail_if_success k_fold)); refine (let Q9z : _ → Shared → Prop := _; (?_ : wpAny _ _ _ Q9z _ _)))); (try ((fail_if_success (fail_if_success (conv in (Shared.mk _ _ _ _ _) => skip))); refine (let s9z : Shared := _; (?_ : wpAny _ _ _ _ _ s9z))))) | (k_unfold; (try dsimp only)) | (k_end; wrow_close) | ((first | walk1 | (dsimp only; walk1)); (try ((fail_if_success (fail_if_success k_fold)); refine (let Q9z : _ → Shared → Prop := _; (?_ : wpAny _ _ _ Q9z _ _)))); (try ((fail_if_success (fail_if_success (conv in (Shared.mk _ _ _ _ _) => skip))); refine (let s9z : Shared := _; (?_ : wpAny _ _ _ _ _ s9z)))); (try ((with_reducible rename News _ _ _ (List.cons _ _) => N9z); refine (let NW9z : List (Addr × Obj) := _; have N8z : News _ _ _ (Mine.Fold NW9z) := N9z; ?_); clear N9z)); (try ((with_reducible rename Fr _ _ _ (fun _ => ite _ _ _) => F9z); refine (let FM9z : Str → Option Value := _; have F8z : Fr _ _ _ (Mine.Fold FM9z) := F9z; ?_); clear F9z))) | (leave1; walk_say "STEP leave1"; try dsimp only) | fail "no step"))
  (k_with "own tl" => first
  | (with_reducible exact TellsL.nil)
  | (with_reducible exact pt_op (by assumption))
  | (with_reducible exact pt_kind (by assumption))
  | (with_reducible exact pt_pair (by assumption) (by assumption))
  | (with_reducible exact pt_kinds (by assumption))
  | (with_reducible exact pt_called (by assumption))
  | (with_reducible exact pt_site (by assumption) (by assumption))
  | (with_reducible exact pt_none)
  | (with_reducible exact pt_true)
  | (with_reducible exact pt_nil)
  | (with_reducible exact pt_send (by assumption) (by assumption))
  | (with_reducible refine pt_int ?_ ?_ <;> omega) | (with_reducible refine pt_one ?_ ?_ <;> omega) | (with_reducible refine pt_str ?_; decide))
  trivial
theorem TellsL.mk {xs : List Dat} {x : Dat} {ns ms ls : List Int} (a : Tells (tx (ptext 2 x)) ns) (b : TellsL (xs.map (ptext 2)) ms) (e : ls = ns ++ ms) : TellsL ((x :: xs).map (ptext 2)) ls := by
  subst e; exact TellsL.cons a b
theorem insRow_ok {d : Dat} {ns : List Int} (h : InsRow d ns) : RowOk d ns := by
  cases h with
  | binary a b kind d ha hb hk h0 h1 =>
    have l1 := opRegs_len1 ha; have l2 := opRegs_len1 hb
    refine other_of (ws := [d]) (ns := opRegs a ++ opRegs b) [.str (Str.ofString "+"), a, b, kind] (by decide) (by decide) (.inr ⟨by decide, ?_⟩) (by decide) (by decide) (by simp) rfl (by simp; omega) (by simp; omega) (by simp) ?_ rfl
    · show wantS [.int d, .str (Str.ofString "+"), a] = [d]
      show d :: wantS [a] = _
      rw [want_op ha]; rfl
    · exact .mk (ns := []) (by walk_at "own tl") (.mk (ns := []) (by walk_at "own tl") (.mk (by walk_at "own tl") (.mk (by walk_at "own tl") (.mk (ns := []) (by walk_at "own tl") .nil rfl) rfl) rfl) rfl) (by simp)
  | makeslice a b kind d j ha hb hk h0 h1 h2 h3 =>
    have l1 := opRegs_len1 ha; have l2 := opRegs_len1 hb
    refine other_of (ws := [d]) (ns := opRegs a ++ opRegs b) [kind, a, b, dSite j] (by decide) (by decide) (.inr ⟨by decide, ?_⟩) (by decide) (by decide) (by simp) rfl (by simp; omega) (by simp; omega) (by simp) ?_ rfl
    · show d :: wantS [kind, a] = _
      rw [want_kind hk, want_op ha]; rfl
    · exact .mk (ns := []) (by walk_at "own tl") (.mk (ns := []) (by walk_at "own tl") (.mk (by walk_at "own tl") (.mk (by walk_at "own tl") (.mk (ns := []) (by walk_at "own tl") .nil rfl) rfl) rfl) rfl) (by simp)
  | store a b ha hb =>
    have l1 := opRegs_len1 ha; have l2 := opRegs_len1 hb
    refine other_of (ws := []) (ns := opRegs a ++ opRegs b) [a, b] (by decide) (by decide) (.inr ⟨by decide, ?_⟩) (by decide) (by decide) (by simp) rfl (by simp) (by simp; omega) (by simp) ?_ rfl
    · show wantS [a, b] = _
      rw [want_op ha, want_op hb]; rfl
    · exact .mk (by walk_at "own tl") (.mk (by walk_at "own tl") .nil rfl) (by simp)
  | struct a b d ha hb h0 h1 =>
    have l1 := opRegs_len1 ha; have l2 := opRegs_len1 hb
    refine other_of (ws := [d]) (ns := opRegs a ++ opRegs b) [.tuple [a, b]] (by decide) (by decide) (.inr ⟨by decide, rfl⟩) (by decide) (by decide) (by simp) rfl (by simp; omega) (by simp; omega) (by simp) ?_ rfl
    exact .mk (ns := []) (by walk_at "own tl") (.mk (by walk_at "own tl") .nil rfl) (by simp)
  | print a b kind ha hb hk =>
    have l1 := opRegs_len1 ha; have l2 := opRegs_len1 hb
    refine other_of (ws := []) (ns := opRegs a ++ opRegs b) [.tuple [a, b], .tuple [kind, kind]] (by decide) (by decide) (.inr ⟨by decide, rfl⟩) (by decide) (by decide) (by simp) rfl (by simp) (by simp; omega) (by simp) ?_ rfl
    exact .mk (by walk_at "own tl") (.mk (ns := []) (by walk_at "own tl") .nil rfl) (by simp)
  | mapget a b kind d ha hb hk h0 h1 =>
    have l1 := opRegs_len1 ha; have l2 := opRegs_len1 hb
    refine other_of (ws := [d]) (ns := opRegs a ++ opRegs b) [.none, a, b, kind] (by decide) (by decide) (.inr ⟨by decide, ?_⟩) (by decide) (by decide) (by simp) rfl (by simp; omega) (by simp; omega) (by simp) ?_ rfl
    · show d :: wantS [a] = _
      rw [want_op ha]; rfl
    · exact .mk (ns := []) (by walk_at "own tl") (.mk (ns := []) (by walk_at "own tl") (.mk (by walk_at "own tl") (.mk (by walk_at "own tl") (.mk (ns := []) (by walk_at "own tl") .nil rfl) rfl) rfl) rfl) (by simp)
  | call a b c d led ha hb hc h0 h1 =>
    have l1 := opRegs_len1 ha; have l2 := opRegs_len1 hb; have l3 := called_len hc
    have hT : TellsL (([.tuple [.int d], c, .tuple [a, b]] : List Dat).map (ptext 2)) (led ++ (opRegs a ++ opRegs b)) := .mk (ns := []) (by walk_at "own tl") (.mk (by walk_at "own tl") (.mk (by walk_at "own tl") .nil rfl) rfl) (by simp)
    obtain ⟨W', h4, _⟩ := split_row (w := Str.ofString "call") (A := [Str.ofString "(" ++ sInt d ++ Str.ofString ")"]) (R := [ptext 2 c, ptext 2 (.tuple [a, b])]) (by simp) (by decide) (fun s hs => by
      rw [List.mem_singleton.mp hs, tx_app, tx_app]
      intro q
      rcases List.mem_append.mp q with q | q
      · rcases List.mem_append.mp q with q | q
        · exact absurd q (by decide)
        · exact figs_free h0 (by omega) q
      · exact absurd q (by decide))
    refine .call d [c, .tuple [a, b]] (led ++ (opRegs a ++ opRegs b)) W' h0 h1 (by simp; omega) (by simp) (told_row (by decide) hT) ?_
    show Txt.split (Str.ofString "  " ++ Str.join (Str.ofString " ") (Str.ofString "call" :: ptext 2 (.tuple [.int d]) :: [ptext 2 c, ptext 2 (.tuple [a, b])])) sp = _
    rw [one_text]
    exact h4
  | go c _ hc =>
    have l3 := called_len hc
    refine other_of (ws := []) (ns := ns) [c, .tuple []] (by decide) (by decide) (.inr ⟨by decide, ?_⟩) (by decide) (by decide) (by simp) rfl (by simp) (by simp; omega) (by simp) ?_ rfl
    · show wantS [c, .tuple []] = _
      rw [want_called hc]; rfl
    · exact .mk (by walk_at "own tl") (.mk (ns := []) (by walk_at "own tl") .nil rfl) (by simp)
  | sync a b ha hb =>
    have l1 := opRegs_len1 ha; have l2 := opRegs_len1 hb
    refine other_of (ws := []) (ns := opRegs a ++ opRegs b) [.str (Str.ofString "wait"), .tuple [a, b]] (by decide) (by decide) (.inr ⟨by decide, rfl⟩) (by decide) (by decide) (by simp) rfl (by simp) (by simp; omega) (by simp) ?_ rfl
    exact .mk (ns := []) (by walk_at "own tl") (.mk (by walk_at "own tl") .nil rfl) (by simp)
  | mapget2 a b kind d e ha hb hk h0 h1 h2 h3 =>
    have l1 := opRegs_len1 ha; have l2 := opRegs_len1 hb
    refine other_of (ws := [d, e]) (ns := opRegs a ++ opRegs b) [a, b, kind] (by decide) (by decide) (.inr ⟨by decide, ?_⟩) (by decide) (by decide) (by simp) rfl (by simp; omega) (by simp; omega) (by simp) ?_ rfl
    · show d :: e :: wantS [a] = _
      rw [want_op ha]; rfl
    · exact .mk (ns := []) (by walk_at "own tl") (.mk (ns := []) (by walk_at "own tl") (.mk (by walk_at "own tl") (.mk (by walk_at "own tl") (.mk (ns := []) (by walk_at "own tl") .nil rfl) rfl) rfl) rfl) (by simp)
  | select a b d e ha hb h0 h1 h2 h3 =>
    have l1 := opRegs_len1 ha; have l2 := opRegs_len1 hb
    refine other_of (ws := [d, e, d]) (ns := opRegs a ++ opRegs b) [.tuple [.tuple [.str (Str.ofString "send"), a, b]], .bool true] (by decide) (by decide) (.inr ⟨by decide, rfl⟩) (by decide) (by decide) (by simp) rfl (by simp; omega) (by simp; omega) (by simp) ?_ rfl
    exact .mk (ns := []) (by walk_at "own tl") (.mk (ns := []) (by walk_at "own tl") (.mk (ns := []) (by walk_at "own tl") (.mk (by walk_at "own tl") (.mk (ns := []) (by walk_at "own tl") .nil rfl) rfl) rfl) rfl) (by simp)
theorem endRow_ok {d : Dat} {ns : List Int} (h : EndRow d ns) : RowOk d ns := by
  cases h with
  | jump i h0 h1 =>
    obtain ⟨W', h4, h5, h6, h7⟩ := split_row (w := Str.ofString "jump") (A := []) (R := [sInt i]) (by simp) (by decide) (by simp)
    refine .jump i h0 (by omega) ?_
    show Txt.split (Str.ofString "  " ++ Str.join (Str.ofString " ") (Str.ofString "jump" :: [ptext 2 (.int i)])) sp = _
    rw [ptext_int, show Str.ofString "jump" :: [sInt i] = Str.ofString "jump" :: ([] ++ [sInt i]) from rfl, h4]
    have e := words_end (W := W') (w := tx (sInt i)) h7 h6 (figs_free h0 (by omega)) h5
    rw [e]; rfl
  | branch o i ho h0 h1 =>
    have l1 := opRegs_len1 ho
    refine other_of (ws := []) (ns := opRegs o) [o, .int i, .int 2] (by decide) (by decide) (.inl ⟨rfl, rfl⟩) (by decide) (by decide) (by simp) rfl (by simp) (by simp; omega) (by simp) ?_ rfl
    exact .mk (by walk_at "own tl") (.mk (ns := []) (by walk_at "own tl") (.mk (ns := []) (by walk_at "own tl") .nil rfl) rfl) (by simp)
  | ret o ho =>
    have l1 := opRegs_len1 ho
    refine other_of (ws := []) (ns := opRegs o ++ opRegs o) [.tuple [o, o]] (by decide) (by decide) (.inr ⟨by decide, rfl⟩) (by decide) (by decide) (by simp) rfl (by simp) (by simp; omega) (by simp) ?_ rfl
    exact .mk (by walk_at "own tl") .nil (by simp)
  | panic o ho =>
    have l1 := opRegs_len1 ho
    refine other_of (ws := []) (ns := opRegs o) [o] (by decide) (by decide) (.inr ⟨by decide, ?_⟩) (by decide) (by decide) (by simp) rfl (by simp) (by simp; omega) (by simp) ?_ rfl
    · show wantS [o] = _
      rw [want_op ho]; rfl
    · exact .mk (by walk_at "own tl") .nil (by simp)
end Mine
-- R1
namespace Mine
theorem join_ge : ∀ (W : List Str), W.length ≤ (Str.join sp W).length + 1
  | [] => by simp
  | [x] => by simp
  | x :: y :: W => by
    have ih := join_ge (y :: W)
    show _ ≤ (x ++ sp ++ Str.join sp (y :: W)).length + 1
    rw [Str.length_append, Str.length_append]
    have : sp.length = 1 := rfl
    simp only [List.length_cons] at ih ⊢
    omega
theorem split_len (x : Str) : (Txt.split x sp).length ≤ x.length + 1 := by
  have := join_ge (Txt.split x sp)
  have e : Str.join sp (Txt.split x sp) = x := StrLaws.join_split ..
  rwa [e] at this
theorem row_sl2 (d : Dat) : Txt.slice (rowT d) none (some 2) = Str.ofString "  " := by
  have e : tx (rowT d) = 32 :: 32 :: tx (itext d) := by
    show tx (Str.ofString "  " ++ itext d) = _
    rw [tx_app, show tx (Str.ofString "  ") = [32, 32] from by decide]
    rfl
  have h := StrLaws.sliceText_to (x := rowT d) (j := 2) ⟨by decide, by
    show (2 : Int) ≤ (tx (rowT d)).length
    rw [e]; simp; omega⟩
  refine Eq.trans h ?_
  show (⟨(((tx (rowT d)).drop 0).take (2 - 0 : Int).toNat).toArray⟩ : Str) = _
  rw [e]; rfl
theorem row_len {d : Dat} (h : InsOk d) : (rowT d).length ≤ 300000 := by
  have := itext_len h
  show (Str.ofString "  " ++ itext d).length ≤ _
  rw [Str.length_append]
  have : (Str.ofString "  ").length = 2 := by decide
  omega
noncomputable def SplitIs (x : Str) (W : List Str) : Prop := Txt.split x sp = W
noncomputable def CutIs (x y : Str) : Prop := Txt.slice x none (some 2) = y
noncomputable def TextLe (x : Str) : Prop := x.length ≤ 300000
section
variable {prog : Program} {w : World} {A : Around} {E : Value → Shared → Prop} {s : Shared} {h₀ : Heap} {L a : Addr} {m : Str → Option Value} {vs : List Value} {n : Nat} {news : List (Addr × Obj)} {x : Str} {t u : Tok} {Q : Value → Shared → Prop}
theorem T_split3 {a b c : Str} {W : List Str} (F : Fr h₀ L s.heap m) (N : News h₀ L s.heap news) (hz : TextLe x) (hS : SplitIs x (a :: b :: c :: W))
    (h : ∀ D h' k t0 t1 t2 ys, StrsAre ys W → ys.length ≤ 300000 → Fr h₀ L h' m → News h₀ L h' ((D, listOf (.str a t0 :: .str b t1 :: .str c t2 :: ys : List Value).toArray 0) :: news) → (∀ p ∈ news, p.1 < D) → Q (.ref D) { s with heap := h', toks := k }) :
    wpAny (model prog w) A (call (.builtin "str.split") [.str x t, .str (Str.ofString " ") u]) Q E s := by
  refine KSpl.split1 F N rfl (fun D l h' k e a' F' N' l1 => ?_) (Nat.le_trans (Nat.add_le_add_right hz 2) (by decide))
  have e2 : Txt.split x (Str.ofString " ") = a :: b :: c :: W := hS
  have hl := split_len x
  rw [show Txt.split x sp = a :: b :: c :: W from hS] at hl
  rw [e, e2] at a'
  generalize strValues l = zs at N' a'
  obtain ⟨t0, ys, rfl, r1⟩ := strs_cons a'
  obtain ⟨t1, ys, rfl, r2⟩ := strs_cons r1
  obtain ⟨t2, ys, rfl, r3⟩ := strs_cons r2
  have hl2 := r3.len_eq
  have hz' : x.length ≤ 300000 := hz
  simp only [List.length_cons] at hl
  exact h D h' k t0 t1 t2 ys r3 (by omega) F' N' l1
theorem T_sl2 {value slice : Expr} {uj : Tok} {y : Str} {g : Array GenState} {dr : Drawn} {tk : Nat} {os : OsState} {hp : Heap} (hF : Fr h₀ L hp m) (hN : News h₀ L hp news) (hz : TextLe x) (e : CutIs x y)
    (h : ∀ h' t' k, Fr h₀ L h' m → News h₀ L h' news → Q (.str y t') ⟨h', g, dr, k, os⟩)
    (hs : subscripted slice false (.str x t) (.ref hp.objs.size) = operate [.ref hp.objs.size, .str x t] (getItem (.str x t) (.ref hp.objs.size)) := by with_unfolding_all rfl)
    (ht : ∀ r, letTemporaryGo value (.str x t) r = pure () := by intro _; with_unfolding_all rfl) :
    wpAny (model prog w) A (subscriptTail value slice (.str x t) (.ref hp.objs.size)) Q E ⟨hp.push { cls := .type "slice", data := .fields #[.none, .int 2 uj, .none] }, g, dr, tk, os⟩ := by
  refine slice_strN_ns (s := ⟨hp, g, dr, tk, os⟩) hF hN (fun h' t' k a b => ?_) hs ht (Nat.le_trans hz (by decide))
  rw [show Txt.slice x none (some 2) = y from e]; exact h h' t' k a b
theorem T_witem {value slice : Expr} {k : Nat} {v : Value} (N : News h₀ L s.heap news) (e : (a, listOf vs.toArray n) ∈ news) (hl : vs.length ≤ 12000000) (hx : vs[k]? = some v) (h : Q v s)
    (hs : subscripted slice false (.ref a) (.int k u) = operate [.ref a, .int k u] (getItem (.ref a) (.int k u)) := by with_unfolding_all rfl) :
    wpAny (model prog w) A (subscriptTail value slice (.ref a) (.int k u)) Q E s :=
  have hL : s.heap.IsList a vs.toArray := ⟨_, N.get e, rfl, n, rfl⟩
  have hk : k < vs.length := (List.getElem?_eq_some_iff.mp hx).1
  tail_any hL.typeIs slot_list_getitem.lookup (wpAny_getItem_list hL (by omega) (by omega) (by simpa using hx) h) hs
end
section
variable {prog : Program} {w : World} {A : Around} {E : Value → Shared → Prop} {h₀ h : Heap} {L a : Addr} {m : Str → Option Value} {news : List (Addr × Obj)} {vs : List Value} {n : Nat} {g : Array GenState} {dr : Drawn} {tk : Nat} {os : OsState}
theorem T_from3 {value slice : Expr} {u : Tok} {v0 v1 v2 : Value} {Q : Value → Shared → Prop} (F : Fr h₀ L h m) (N : News h₀ L h news) (hm : (a, listOf (v0 :: v1 :: v2 :: vs).toArray n) ∈ news) (hz : vs.length ≤ 300000)
    (k : ∀ D h', Fr h₀ L h' m → News h₀ L h' ((D, listOf vs.toArray 0) :: news) → (∀ p ∈ news, p.1 < D) → Q (.ref D) ⟨h', g, dr, tk, os⟩)
    (hs : subscripted slice false (.ref a) (.ref h.objs.size) = operate [.ref h.objs.size, .ref a] (getItem (.ref a) (.ref h.objs.size)) := by with_unfolding_all rfl)
    (hg : ∀ r, letTemporaryGo value (.ref a) r = pure () := by intro _; with_unfolding_all rfl) :
    wpAny (model prog w) A (subscriptTail value slice (.ref a) (.ref h.objs.size)) Q E ⟨h.push { cls := .type "slice", data := .fields #[.int 3 u, .none, .none] }, g, dr, tk, os⟩ :=
  T_lfrom (c := 3) F N hm (by simp only [List.length_cons]; omega) k hs hg
theorem T_run3 {value slice : Expr} {c : Nat} {j : Int} {u u2 : Tok} {v0 v1 v2 : Value} {Q : Value → Shared → Prop} (F : Fr h₀ L h m) (N : News h₀ L h news) (hm : (a, listOf (v0 :: v1 :: v2 :: vs).toArray n) ∈ news) (hz : vs.length ≤ 300000) (hc : c ≤ vs.length) (e : j = 3 + (c : Int))
    (k : ∀ D h', Fr h₀ L h' m → News h₀ L h' ((D, listOf (vs.take c).toArray 0) :: news) → (∀ p ∈ news, p.1 < D) → Q (.ref D) ⟨h', g, dr, tk, os⟩)
    (hs : subscripted slice false (.ref a) (.ref h.objs.size) = operate [.ref h.objs.size, .ref a] (getItem (.ref a) (.ref h.objs.size)) := by with_unfolding_all rfl)
    (hg : ∀ r, letTemporaryGo value (.ref a) r = pure () := by intro _; with_unfolding_all rfl) :
    wpAny (model prog w) A (subscriptTail value slice (.ref a) (.ref h.objs.size)) Q E ⟨h.push { cls := .type "slice", data := .fields #[.int 3 u, .int j u2, .none] }, g, dr, tk, os⟩ := by
  have e2 : j = ((3 + c : Nat) : Int) := by omega
  subst e2
  refine T_lrun (c := 3) (d := 3 + c) F N hm (by simp only [List.length_cons]; omega) (by omega) (by simp only [List.length_cons]; omega) (fun D h' F' N' l => ?_) hs hg
  have e3 : ((v0 :: v1 :: v2 :: vs).drop 3).take (3 + c - 3) = vs.take c := by
    rw [show 3 + c - 3 = c by omega]; rfl
  rw [e3] at N'
  exact k D h' F' N' l
theorem T_hfromE {value slice : Expr} {c : Nat} {j : Int} {u : Tok} {Q : Value → Shared → Prop} (F : Fr h₀ L h m) (N : News h₀ L h news) (e : h₀.get? a = some (listOf vs.toArray n)) (hz : vs.length ≤ 100000) (ej : j = (c : Int))
    (k : ∀ D h', Fr h₀ L h' m → News h₀ L h' ((D, listOf (vs.drop c).toArray 0) :: news) → (∀ p ∈ news, p.1 < D) → Q (.ref D) ⟨h', g, dr, tk, os⟩)
    (hs : subscripted slice false (.ref a) (.ref h.objs.size) = operate [.ref h.objs.size, .ref a] (getItem (.ref a) (.ref h.objs.size)) := by with_unfolding_all rfl)
    (hg : ∀ r, letTemporaryGo value (.ref a) r = pure () := by intro _; with_unfolding_all rfl) :
    wpAny (model prog w) A (subscriptTail value slice (.ref a) (.ref h.objs.size)) Q E ⟨h.push { cls := .type "slice", data := .fields #[.int j u, .none, .none] }, g, dr, tk, os⟩ := by
  subst ej
  exact T_hfrom F N e hz k hs hg
end
theorem words24 : True := by
  k_with_none
  (k_with "base k_mem" => first | exact Mine.memAt 0 rfl | exact Mine.memAt 1 rfl | exact Mine.memAt 2 rfl | exact Mine.memAt 3 rfl | exact Mine.memAt 4 rfl | exact Mine.memAt 5 rfl | exact Mine.memAt 6 rfl | exact Mine.memAt 7 rfl | (refine Mine.memSkip 8 rfl ?_; k_mem))
  (k_with "base k_all" => first | exact Mine.allNe (by with_reducible assumption) | with_reducible assumption | exact List.forall_mem_nil _ | (with_reducible refine' Mine.allApp ?a ?b; (case a => k_all); (case b => k_all)) | (refine' List.forall_mem_cons.mpr ⟨?a, ?b⟩; (case a => k_ne); (case b => k_all)) | assumption)
  (k_with "base k_ne" => first | with_reducible assumption | (refine Mine.ne_hi ?_; exact Mine.lt_mem (by with_reducible assumption) (by k_mem)) | exact Mine.neAt (by with_reducible assumption) (by k_mem) | exact Mine.neAt' (by with_reducible assumption) (by k_mem) | (refine Mine.ne_hi ?_; with_reducible first | assumption | exact Mine.pj0 (by assumption) | exact Mine.pj1 (by assumption) | exact Mine.pl1 (by assumption) | exact Mine.pj2 (by assumption) | exact Mine.pl2 (by assumption) | exact Mine.pj3 (by assumption) | exact Mine.pl3 (by assumption) | exact Mine.pj4 (by assumption) | exact Mine.pl4 (by assumption) | exact Mine.pj5 (by assumption) | exact Mine.pl5 (by assumption) | exact Mine.pj6 (by assumption) | exact Mine.pl6 (by assumption) | exact Mine.pj7 (by assumption) | exact Mine.pl7 (by assumption) | exact Mine.pj8 (by assumption) | exact Mine.pj9 (by assumption) | exact Mine.pj10 (by assumption) | exact Mine.pj11 (by assumption) | exact Mine.pj12 (by assumption) | exact Mine.pj13 (by assumption) | exact Mine.pj14 (by assumption)) | exact Ne.symm (by with_reducible assumption) | exact Ne.symm (by assumption) | (refine neN ?_; (try dsimp only); omega))
  (k_with "base k_steps" => (try ((fail_if_success (fail_if_success k_fold)); refine (let Q9z : _ → Shared → Prop := _; (?_ : wpAny _ _ _ Q9z _ _)))); (try ((fail_if_success (fail_if_success (conv in (Shared.mk _ _ _ _ _) => skip))); refine (let s9z : Shared := _; (?_ : wpAny _ _ _ _ _ s9z)))); (try ((with_reducible rename News _ _ _ (List.cons _ _) => N9z); refine (let NW9z : List (Addr × Obj) := _; have N8z : News _ _ _ (Mine.Fold NW9z) := N9z; ?_); clear N9z)); (try ((with_reducible rename Fr _ _ _ (fun _ => ite _ _ _) => F9z); refine (let FM9z : Str → Option Value := _; have F8z : Fr _ _ _ (Mine.Fold FM9z) := F9z; ?_); clear F9z)); repeat' (first | ((fail_if_success (fail_if_success k_unfold)); refine (?_ : wpAny _ _ _ _ _ _); (try ((fail_if_success (fail_if_success k_fold)); refine (let Q9z : _ → Shared → Prop := _; (?_ : wpAny _ _ _ Q9z _ _)))); (try ((fail_if_success (fail_if_success (conv in (Shared.mk _ _ _ _ _) => skip))); refine (let s9z : Shared := _; (?_ : wpAny _ _ _ _ _ s9z))))) | (k_unfold; (try dsimp only)) | (k_end; wrow_close) | ((first | walk1 | (dsimp only; walk1)); (try ((fail_if_success (fail_if_success k_fold)); refine (let Q9z : _ → Shared → Prop := _; (?_ : wpAny _ _ _ Q9z _ _)))); (try ((fail_if_success (fail_if_success (conv in (Shared.mk _ _ _ _ _) => skip))); refine (let s9z : Shared := _; (?_ : wpAny _ _ _ _ _ s9z)))); (try ((with_reducible rename News _ _ _ (List.cons _ _) => N9z); refine (let NW9z : List (Addr × Obj) := _; have N8z : News _ _ _ (Mine.Fold NW9z) := N9z; ?_); clear N9z)); (try ((with_reducible rename Fr _ _ _ (fun _ => ite _ _ _) => F9z); refine (let FM9z : Str → Option Value := _; have F8z : Fr _ _ _ (Mine.Fold FM9z) := F9z; ?_); clear F9z))) | (leave1; walk_say "STEP leave1"; try dsimp only) | fail "no step"))
  (k_with "mine drop" => first | exact memDrop 0 rfl | exact memDrop 1 rfl | exact memDrop 2 rfl | exact memDrop 3 rfl | exact memDrop 4 rfl | exact memDrop 5 rfl | exact memDrop 6 rfl | exact memDrop 7 rfl | exact memDrop 8 rfl | (refine dropSkip 8 rfl ?_; walk_at "mine drop"))
  (k_with "mine env" => refine (let ev9 : Env := _; let A9 : Around := _; (?_ : wpAny _ A9 (execs _ ev9) _ _ _)))
  (k_with "mine sides" => ((case ho => k_is); (case hcd => k_is); (case hroom => (first | assumption | exact room0 (by assumption) rfl | omega | (dsimp only [Ar]; omega))); (case hbind => exact BindsTo.of_eq rfl); (case hloc => exact locs rfl); (case c2 => exact rfl); (case c3 => exact rfl); (case c4 => exact rfl); (case c5 => decide)))
  (k_with "mine units" => (first | assumption | exact room (j := 1) (by assumption) rfl rfl | exact room (j := 3) (by assumption) rfl rfl | exact room (j := 2) (by assumption) rfl rfl | exact room (j := 4) (by assumption) rfl rfl | exact room (j := 5) (by assumption) rfl rfl | exact room (j := 0) (by assumption) rfl rfl | exact roomj (j := 3) (by assumption) rfl rfl | exact roomj (j := 1) (by assumption) rfl rfl | omega | (dsimp +zetaDelta only [Around.deeper, Ar, Around.in1, Around.mark]; omega)))
  (k_with "mine sum" => (first | exact Nat.le_of_ble_eq_true rfl | omega | ((simp only [List.length_cons, List.length_nil, List.length_append]); omega)))
  (k_with "call builtin:isinstance" => (k_here; k_dflt ((with_reducible show wpAny _ _ (PySem.call _ [Value.ref _, Value.type _]) _ _ _); (first | refine' T_isi ?F9w ?e9w ?_ | refine' T_isi_bool ?F9w ?e9w ?_ | refine' T_isi_bytes ?F9w ?e9w ?_ | refine' T_isi_int ?F9w ?e9w ?_ | refine' T_isi_str ?F9w ?e9w ?_); (case F9w => k_asm); (case e9w => with_reducible assumption); k_whole)))
  (k_with "subscriptTail" => (k_here; k_dflt (first
  | ((with_reducible show wpAny _ _ (subscriptTail _ _ (Value.ref _) (Value.int 0 _)) _ _ _); refine' T_item0 ?F9w ?e9w ?_; (case F9w => k_asm); (case e9w => with_reducible assumption); k_whole)
  | ((with_reducible show wpAny _ _ (subscriptTail _ _ (Value.ref _) (Value.int 1 _)) _ _ _); refine' T_item1 ?F9w ?e9w ?_; (case F9w => k_asm); (case e9w => with_reducible assumption); k_whole)
  | ((with_reducible show wpAny _ _ (subscriptTail _ _ (Value.ref _) (Value.int 2 _)) _ _ _); refine' T_item2 ?F9w ?e9w ?_; (case F9w => k_asm); (case e9w => with_reducible assumption); k_whole))))
  (k_with "eval ListComp" => (k_here; k_dflt (refine' comp_KF ?hclos9w ?hcell9w ?hkind9w ?hnames9w ?hx9w ?F9w ?_ ?hs9w; (case hclos9w => with_unfolding_all rfl); (case hcell9w => decide); (case hkind9w => with_unfolding_all rfl); (case hnames9w => decide); (case hx9w => with_unfolding_all rfl); (case F9w => k_asm); (case hs9w => intro _; with_unfolding_all rfl))))
  (k_with "call builtin:len" => (k_here; (with_reducible show wpAny _ _ (PySem.call _ [Value.ref _]) _ _ _); k_dflt (refine' T_len_led ?N9w ?e9w ?l9w ?_; (case N9w => k_asm); (case e9w => k_mem); (case l9w => walk_at "mine sum"); k_whole)))
  (k_with "compareOp NotEq str str" => (k_here; k_dflt (refine' T_str_ne_same ?e9w ?_; (case e9w => rfl); k_whole)))
  (k_with "compareOp Eq str str" => (k_here; k_dflt (refine' T_seq ?e9w ?_; (case e9w => first | with_reducible assumption | rfl); k_whole)))
  (k_with "subscriptTail Name Slice str ref" => (k_here; k_dflt (refine' T_sl2 ?F9w ?N9w ?z9w ?e9w ?_; (case F9w => k_asm); (case N9w => k_asm); (case z9w => with_reducible assumption); (case e9w => with_reducible assumption); intro h9w204' t9w204' k9w204' F9w204' N9w204'; (try k_sweep))))
  (k_with "call builtin:str.split" => (k_here; k_dflt (refine' T_split3 ?F9w ?N9w ?z9w ?e9w ?_; (case F9w => k_asm); (case N9w => k_asm); (case z9w => with_reducible assumption); (case e9w => with_reducible assumption); intro D9w205' h9w205' k9w205' t09w205' t19w205' t29w205' ys9w205' r9w205' z9w205' F9w205' N9w205' l19w205; (try k_lt l19w205); (try k_sweep))))
  (k_with "subscriptTail Name Constant ref int" => (k_here; (with_reducible show wpAny _ _ (subscriptTail _ _ (Value.ref _) (Value.int 2 _)) _ _ _); k_dflt (refine' T_witem (k := 2) ?N9w ?e9w ?l9w ?x9w ?_; (case N9w => k_asm); (case e9w => k_mem); (case l9w => walk_at "mine sum"); (case x9w => rfl); k_whole)))
  (k_with "subscriptTail Name Slice ref ref" => (k_here; (with_reducible show wpAny _ _ (subscriptTail _ (PySem.Expr.Slice (some (PySem.Expr.Constant _ _ _)) none none _) (Value.ref _) (Value.ref _)) _ _ _); k_dflt (refine' T_from3 ?F9w ?N9w ?m9w ?z9w ?_; (case F9w => k_asm); (case N9w => k_asm); (case m9w => k_mem); (case z9w => with_reducible assumption); intro D9w207' h9w207' F9w207' N9w207' l19w207; (try k_lt l19w207); (try k_sweep))))
  (k_with "subscriptTail Name Slice ref ref" => (k_here; (with_reducible show wpAny _ _ (subscriptTail _ (PySem.Expr.Slice (some (PySem.Expr.Constant _ _ _)) (some (PySem.Expr.BinOp _ _ _ _)) none _) (Value.ref _) (Value.ref _)) _ _ _); k_dflt (refine' T_run3 ?F9w ?N9w ?m9w ?z9w ?c9w ?e9w ?_; (case F9w => k_asm); (case N9w => k_asm); (case m9w => k_mem); (case z9w => with_reducible assumption); (case c9w => with_reducible assumption); (case e9w => rfl); intro D9w208' h9w208' F9w208' N9w208' l19w208; (try k_lt l19w208); (try k_sweep))))
  (k_with "subscriptTail Name Slice ref ref" => (k_here; k_dflt (refine' T_hfromE ?F9w ?N9w ?e9w ?z9w ?ej9w ?_; (case F9w => k_asm); (case N9w => k_asm); (case e9w => with_reducible assumption); (case z9w => with_reducible assumption); (case ej9w => first | rfl | (with_reducible assumption)); intro D9w209' h9w209' F9w209' N9w209' l19w209; (try k_lt l19w209); (try k_sweep))))
  (k_with "subscriptTail Name Slice ref ref" => (k_here; (with_reducible show wpAny _ _ (subscriptTail _ (PySem.Expr.Slice (some (PySem.Expr.Constant _ _ _)) (some (PySem.Expr.Constant _ _ _)) none _) (Value.ref _) (Value.ref _)) _ _ _); k_dflt (refine' T_trun ?F9w ?N9w ?e9w ?l9w ?_; (case F9w => k_asm); (case N9w => k_asm); (case e9w => with_reducible assumption); (case l9w => with_reducible assumption); intro h9w210' q9w210' F9w210' N9w210' l19w210; (try k_lt l19w210); (try k_sweep))))
  (k_with "compareOp Eq ref ref" => (k_here; k_dflt (refine' T_eqs_same ?N9w ?a9w ?b9w ?r19w ?r29w ?u9w ?_; (case N9w => k_asm); (case a9w => k_mem); (case b9w => k_mem); (case r19w => with_reducible assumption); (case r29w => first | with_reducible assumption | exact StrsAre.cons _ _ StrsAre.nil); (case u9w => walk_at "mine units"); k_whole)))
  (k_with "newList" => (k_here; k_dflt (refine' newListM ?F9w ?N9w ?z9w ?_; (case F9w => k_asm); (case N9w => k_asm); (case z9w => exact Nat.le_of_ble_eq_true rfl)); intro D9w212' h9w212' NW99w212 s9w212' F9w212' N9w212' l19w212; (try k_sweep)))
  (k_with "spliced" => (k_here; k_dflt (refine' argsM ?a9w ?F9w ?e9w ?_; (case F9w => k_asm); (case a9w => rfl); (case e9w => rfl)); intro s9w213'))
  (k_with "eval List" => (k_here; k_dflt (refine' lstM ?a9w ?F9w ?e9w ?N9w ?z9w ?_; (case F9w => k_asm); (case a9w => rfl); (case e9w => rfl); (case N9w => k_asm); (case z9w => exact Nat.le_of_ble_eq_true rfl)); intro D9w214' h9w214' NW99w214 s9w214' F9w214' N9w214' l19w214; (try k_sweep)))
  (k_with "eval Constant str" => (refine constStrM ?_; intro s9w215'))
  (k_with "eval Constant int" => (refine constIntM ?_; intro s9w216'))
  (k_with "eval Name" => (k_here; k_dflt (first | ((with_reducible show wpAny _ _ (PySem.eval _ (compEnvC _ _ _ _)) _ _ _); first | (refine' nm_comp ?n9w ?m9w ?_ ?k9w ?l9w ?d9w; (case k9w => with_unfolding_all rfl); (case l9w => with_unfolding_all rfl); (case n9w => assumption); (case m9w => assumption); (case d9w => decide)) | (refine' nm_compC ?N9w ?c9w ?m9w ?d9w ?_ ?k9w ?l9w ?e9w; (case k9w => with_unfolding_all rfl); (case l9w => with_unfolding_all rfl); (case N9w => k_asm); (case c9w => with_unfolding_all rfl); (case m9w => k_mem); (case d9w => k_asm); (case e9w => decide))) | ((fail_if_success (with_reducible show wpAny _ _ (PySem.eval _ (compEnvC _ _ _ _)) _ _ _)); first | (refine' nameS ?a9w ?e9w ?F9w ?_; (case F9w => k_asm); (case a9w => rfl); (case e9w => rfl)) | (refine' nameK ?a9w ?g9w ?F9w ?X9w ?T9w ?e9w ?_; (case a9w => rfl); (case g9w => rfl); (case F9w => k_asm); (case X9w => k_asm); (case T9w => k_asm); (case e9w => k_is); k_whole) | (refine' nameB ?a9w ?g9w ?F9w ?X9w ?T9w ?e9w ?v9w ?n9w ?_; (case a9w => rfl); (case g9w => rfl); (case F9w => k_asm); (case X9w => k_asm); (case T9w => k_asm); (case e9w => k_is); (case v9w => boot_fast); (case n9w => decide); k_whole)))))
  (k_with "storeName" => (k_here; k_dflt (refine' storeM ?a9w ?b9w ?F9w ?N9w ?_; (case a9w => rfl); (case b9w => rfl); (case F9w => k_asm); (case N9w => k_asm)); intro h9w218' FM99w218 s9w218' F9w218' N9w218'; (try k_sweep)))
  trivial
theorem want_take {ds : List Dat} {i : Nat} {d : Dat} (h : ds[i]? = some d) : wantS (ds.take (i + 1)) = wantS (ds.take i) ++ wantS [d] := by
  rw [List.take_add_one, h]
  show wantS (ds.take i ++ [d]) = _
  exact List.filterMap_append
theorem want_len (ds : List Dat) (i : Nat) : (wantS (ds.take i)).length ≤ i := Nat.le_trans (List.length_filterMap_le ..) (List.length_take_le ..)
noncomputable def WantI (ds : List Dat) (i : Nat) (ys : List Value) : Prop := IntsAre ys (wantS (ds.take i))
theorem WantI.skip {ds : List Dat} {i : Nat} {d : Dat} {ys : List Value} (h : ds[i]? = some d) (e : wantS [d] = []) (w : WantI ds i ys) : WantI ds (i + 1) ys := by
  show IntsAre ys (wantS (ds.take (i + 1)))
  rw [want_take h, e, List.append_nil]
  exact w
theorem WantI.hit {ds : List Dat} {i : Nat} {j : Int} {t : Tok} {ys : List Value} (h : ds[i]? = some (.int j)) (w : WantI ds i ys) : WantI ds (i + 1) (ys ++ [.int j t]) := by
  show IntsAre _ (wantS (ds.take (i + 1)))
  rw [want_take h]
  exact ints_snoc w
theorem WantI.done {ds : List Dat} {vs ys : List Value} {h : Heap} (r : RdA h vs ds) (w : WantI ds (vs.take 3).length ys) : IntsAre ys (wantS (ds.take 3)) := by
  have e : ds.take (vs.take 3).length = ds.take 3 := by
    have := r.length
    rw [List.length_take]
    rcases Nat.le_total 3 vs.length with q | q
    · rw [Nat.min_eq_left q]
    · rw [Nat.min_eq_right q, this, List.take_length, List.take_of_length_le (by omega)]
  unfold WantI at w
  rwa [e] at w
theorem drop1_ints {ys : List Value} {i : Int} {ms : List Int} (h : IntsAre ys (i :: ms)) : IntsAre (ys.drop 1) ms := by
  cases h with
  | cons _ _ r => exact r
theorem words25 : True := by
  (k_with "compareOp Eq ref ref" => (k_here; k_dflt (refine' T_eqi_same ?N9w ?a9w ?b9w ?r19w ?r29w ?u9w ?_; (case N9w => k_asm); (case a9w => k_mem); (case b9w => k_mem); (case r19w => with_reducible assumption); (case r29w => with_reducible assumption); (case u9w => walk_at "mine units"); k_whole)))
  (k_with "compareOp NotEq ref ref" => (k_here; k_dflt (refine' T_nei_same ?N9w ?a9w ?b9w ?r19w ?r29w ?u9w ?_; (case N9w => k_asm); (case a9w => k_mem); (case b9w => k_mem); (case r19w => with_reducible assumption); (case r29w => with_reducible assumption); (case u9w => walk_at "mine units"); k_whole)))
  (k_with "compareOp Eq str str" => (k_here; k_dflt (refine' T_str_eq_same ?e9w ?_; (case e9w => rfl); k_whole)))
  trivial
theorem T_notin2 {prog : Program} {w : World} {A : Around} {E : Value → Shared → Prop} {s : Shared} {h₀ : Heap} {L l : Addr} {n : Nat} {news : List (Addr × Obj)} {x a b : Str} {t ta tb : Tok} {Q : Value → Shared → Prop} (N : News h₀ L s.heap news) (hm : (l, listOf #[.str a ta, .str b tb] n) ∈ news) (h1 : x ≠ a) (h2 : x ≠ b) (h : Q (.bool true) s) :
    wpAny (model prog w) A (compareOp .NotIn (.str x t) (.ref l)) Q E s := by
  refine notin_list_strs (vs := [.str a ta, .str b tb]) (ys := [a, b]) (isList_of N hm) (.cons _ _ (.cons _ _ .nil)) ?_
  have e1 : (a == x) = false := by simpa using Ne.symm h1
  have e2 : (b == x) = false := by simpa using Ne.symm h2
  simpa [e1, e2] using h
theorem words26 : True := by
  (k_with "compareOp NotIn str ref" => (k_here; k_dflt (refine' T_notin2 ?N9w ?m9w ?a9w ?b9w ?_; (case N9w => k_asm); (case m9w => k_mem); (case a9w => with_reducible assumption); (case b9w => with_reducible assumption); k_whole)))
  (k_with "compareOp Eq str str" => (k_here; k_dflt (refine' T_seq ?e9w ?_; (case e9w => with_reducible assumption); k_whole)))
  trivial
theorem drop_ints : ∀ {ws : List Int} {ys zs : List Value} {ms : List Int}, IntsAre zs ws → IntsAre ys (ws ++ ms) → IntsAre (ys.drop zs.length) ms
  | _, _, _, _, .nil, h => h
  | _, _, _, _, .cons _ _ r, h => by
    cases h with
    | cons _ _ r2 =>
      have q := drop_ints r r2
      simpa using q
theorem run_ok {ys zs : List Value} {ws : List Int} {W : List Str} (r : StrsAre ys (ws.map sInt ++ W)) (z : IntsAre zs ws) : zs.length ≤ ys.length ∧ StrsAre (ys.take zs.length) (ws.map sInt) := by
  obtain ⟨r5, _⟩ := strs_app r
  have hrl := r.len_eq
  have hz := ints_len z
  rw [List.length_append, List.length_map, hz] at hrl
  rw [List.length_map, hz] at r5
  exact ⟨by omega, r5⟩
theorem words27 : True := by
  (k_with "eval ListComp" => (k_here; k_dflt ((with_reducible rename HaltTok => t9w224'); clear t9w224'; refine Halt.mk ?_)))
  trivial
theorem ints_pick : ∀ {zs : List Value} {ws : List Int} {i : Nat} {v : Value}, IntsAre zs ws → zs[i]? = some v → ∃ (n : Int) (t : Tok), v = Value.int n t ∧ ws[i]? = some n
  | _, _, _, _, .nil, e => by simp at e
  | _, _, 0, _, .cons n t _, e => by cases e; exact ⟨n, t, rfl, rfl⟩
  | _, _, i + 1, _, .cons _ _ r, e => by simpa using ints_pick (i := i) r (by simpa using e)
theorem strs_rev {ws : List Int} {rs zs : List Value} (hz : IntsAre zs ws) (hl : rs.length = zs.length) (h : ∀ (i : Nat) (y : Value), rs[i]? = some y → ∃ (n : Int) (t : Tok), ws[i]? = some n ∧ y = Value.str (sInt n) t) : StrsAre rs (ws.map sInt) :=
  strsAre_of (ds := ws) sInt (hl.trans (ints_len hz).symm) h
noncomputable def WrMid (H : Heap) (L : Addr) (m : Str → Option Value) (news : List (Addr × Obj)) (ws : List Int) (s : Shared) (f : Flow) (s' : Shared) : Prop :=
  f = .next ∧ ∃ h' tk' D zs k, s' = { s with heap := h', toks := tk' } ∧ Fr H L h' (fun z => if z = Str.ofString "written" then some (.ref D) else m z) ∧ News H L h' ((D, listOf (zs : List Value).toArray k) :: news) ∧ IntsAre zs ws
theorem WrMid.intro {H : Heap} {L D : Addr} {m : Str → Option Value} {news news' : List (Addr × Obj)} {ws : List Int} {s : Shared} {h' : Heap} {tk' k : Nat} {zs : List Value} (F : Fr H L h' (fun z => if z = Str.ofString "written" then some (.ref D) else m z)) (N : News H L h' news') (hm : (D, listOf zs.toArray k) ∈ news') (hs : ∀ p ∈ news, p ∈ news') (hz : IntsAre zs ws) :
    WrMid H L m news ws s .next { s with heap := h', toks := tk' } := ⟨rfl, h', tk', D, zs, k, rfl, F, fun p hp => N p ((List.mem_cons.mp hp).elim (fun e => e ▸ hm) (hs p)), hz⟩
theorem wr_cut {M : Model} {A : Around} {E : Value → Shared → Prop} {Q : Flow → Shared → Prop} {t : Sem Flow} {s : Shared} {H : Heap} {L : Addr} {m : Str → Option Value} {news : List (Addr × Obj)} (F : Fr H L s.heap m) (N : News H L s.heap news) (ws : List Int)
    (h : wpAny M A t (WrMid H L m news ws s) E s) (k : ∀ h' tk' D zs k, Fr H L h' (fun z => if z = Str.ofString "written" then some (.ref D) else m z) → News H L h' ((D, listOf (zs : List Value).toArray k) :: news) → IntsAre zs ws → Q .next { s with heap := h', toks := tk' }) : wpAny M A t Q E s :=
  wp_cut h fun f s' q => by
    obtain ⟨rfl, h', tk', D, zs, kk, rfl, F', N', hz⟩ := q
    exact k h' tk' D zs kk F' N' hz
/-- the four ways of a row -/
noncomputable def Way (x w8 : Str) (ds : List Dat) (W : List Str) (ns : List Int) : Prop :=
  (∃ i, 0 ≤ i ∧ i < 14 ∧ w8 = Str.ofString "jump" ∧ ds = [.int i] ∧ W = [sInt i] ∧ ns = []) ∨
  (∃ i ds' W' ms, 0 ≤ i ∧ i < 14 ∧ w8 = Str.ofString "call" ∧ ds = .tuple [.int i] :: ds' ∧ W = (Str.ofString "(" ++ sInt i ++ Str.ofString ")") :: W' ∧ ns = i :: ms ∧ ms.length ≤ 20 ∧ Told 32 (tx x) ms) ∨
  (∃ ws W' ms, w8 ≠ Str.ofString "call" ∧ w8 ≠ Str.ofString "jump" ∧ W = ws.map sInt ++ W' ∧ ns = ws ++ ms ∧ ns.length ≤ 20 ∧ (∀ i ∈ ws, 0 ≤ i ∧ i < 14) ∧ Told 32 (tx x) ms ∧ ((w8 = Str.ofString "branch" ∧ ws = []) ∨ (w8 ≠ Str.ofString "branch" ∧ wantS (ds.take 3) = ws)))
theorem way_of {d : Dat} {ns : List Int} (h : RowOk d ns) : ∃ w8 ds W, d = .tuple (.str w8 :: ds) ∧ Txt.split (rowT d) sp = Str.ofString "" :: Str.ofString "" :: w8 :: W ∧ Way (rowT d) w8 ds W ns := by
  cases h with
  | jump i h0 h1 hW => exact ⟨_, _, _, rfl, hW, .inl ⟨i, h0, h1, rfl, rfl, rfl, rfl⟩⟩
  | call i ds ms W' h0 h1 hn hd hT hW => exact ⟨_, _, _, rfl, hW, .inr (.inl ⟨i, ds, W', ms, h0, h1, rfl, rfl, rfl, rfl, hn, hT⟩)⟩
  | other w ds ms ws W' n1 n2 hw hn hd hws hT hW => exact ⟨_, _, _, rfl, hW, .inr (.inr ⟨ws, W', ms, n1, n2, rfl, rfl, hn, hws, hT, hw⟩)⟩
/-- the written numbers: none, or those of the row's second to fourth item -/
noncomputable def wsOf (w8 : Str) (ds : List Dat) : List Int := if w8 = Str.ofString "jump" ∨ w8 = Str.ofString "branch" then [] else wantS (ds.take 3)
theorem words28 : True := by
  (k_with "exec Assign cons IfExp" => (k_here; k_dflt ((with_reducible rename HaltTok => t9w225'); clear t9w225'; refine Halt.mk ?_)))
  (k_with "call ref" => (k_here; (with_reducible show wpAny _ _ (PySem.call (Value.ref 201) _) _ _ _); refine Halt.mk ?_))
  trivial
theorem row_right_spec {w : World} {mean : ExcName → Option Value} {mg mb : Str → Option Value} {H : Heap} (B : Bs w mean mg mb H) (d : Dat) (ns : List Int) (hr : InsRow d ns ∨ EndRow d ns) :
    Sp w H 206 12 120 (fun h args => ∃ t rowv l ys n, args = [.str (Str.ofString "  " ++ itext d) t, rowv, .ref l] ∧ Rd h rowv d ∧ h.get? l = some (listOf ys.toArray n) ∧ IntsAre ys ns) (fun h _ h' r => r = .bool true ∧ But [] h h') := by
  have hok : RowOk d ns := hr.elim insRow_ok endRow_ok
  have hio : InsOk d := hr.elim InsRow.insOk EndRow.insOk
  clear hr
  obtain ⟨w8, ds, W, rfl, hW, hway⟩ := way_of hok
  clear hok
  have hlen : TextLe (rowT (.tuple (.str w8 :: ds))) := row_len hio
  have hsl2 : CutIs (rowT (.tuple (.str w8 :: ds))) (Str.ofString "  ") := row_sl2 _
  have S201 : ∀ ms, Told 32 (tx (rowT (.tuple (.str w8 :: ds)))) ms → ms.length ≤ 1000 → _ := fun ms h1 h2 => told_spec B (rowT (.tuple (.str w8 :: ds))) ms h1 (row_space _) (Nat.le_trans hlen (by decide)) h2
  clear hio
  refine Sp.intro ?_
  rintro dp un fr s args R hst hdp hun ⟨t, rowv, l, ys, n, rfl, hrd, hl, hys⟩ hR
  show codeAny _ _ (.call _ ⟨[.str (rowT (.tuple (.str w8 :: ds))) t, rowv, .ref l], []⟩) _ _
  refine' enter0 (binds := [(Str.ofString "text", .str (rowT (.tuple (.str w8 :: ds))) t), (Str.ofString "row", rowv), (Str.ofString "told", .ref l)]) hst B ?ho ?hcd ?hroom ?hbind ?hloc ?h ?c2 ?c3 ?c4 ?c5
  walk_at "mine sides"
  intro L h₁ F N X T
  (try simp only [List.reverse_cons, List.reverse_nil, List.nil_append, List.cons_append] at F)
  (try dsimp only)
  walk_at "mine env"
  have hcL := cLine_is
  generalize hx : rowT (.tuple (.str w8 :: ds)) = x at hlen hsl2 S201 F hway hW ⊢
  clear hx
  have hW : SplitIs x _ := hW
  have hyl := ints_len hys
  cases hrd with
  | @tuple a vs k _ e lv r =>
  cases r with
  | cons r1 r =>
  cases r1
  rename (RdA _ _ _) => rA
  have htok : HaltTok := trivial
  k_steps
  refine Halt.get ?_
  rename (News _ _ _ (_ :: _)) => N9
  rename (Fr _ _ _ _) => F9
  refine wr_cut F9 N9 (wsOf w8 ds) ?wr ?rest
  case wr =>
    by_cases hw8 : w8 = Str.ofString "jump" ∨ w8 = Str.ofString "branch"
    · have e9 : wsOf w8 ds = [] := if_pos hw8
      rw [e9]
      clear S201 hl hys hR hway
      rcases hw8 with rfl | rfl
      · k_steps
        exact WrMid.intro (zs := []) (by k_asm) (by k_asm) (by k_mem) (by walk_at "mine drop") .nil
      · k_steps
        exact WrMid.intro (zs := []) (by k_asm) (by k_asm) (by k_mem) (by walk_at "mine drop") .nil
    · have e9 : wsOf w8 ds = wantS (ds.take 3) := if_neg hw8
      rw [e9]
      have n2 : w8 ≠ Str.ofString "jump" := fun q => hw8 (.inl q)
      have n3 : w8 ≠ Str.ofString "branch" := fun q => hw8 (.inr q)
      clear S201 hl hys hR hway hw8
      k_steps
      rename (News _ _ _ (_ :: _)) => N8
      rename (Fr _ _ _ _) => F8
      refine ⟨_, _, _, _, WantI ds, IterOk.tuple rfl (N8 _ (.head _)).1, ?g1, F8, N8, .nil, fun i ys q => ?g2, ?turn, ?done⟩
      case g1 => exact Nat.le_trans (List.length_take_le ..) (by decide)
      case g2 =>
        rw [← ints_len q]
        exact want_len ..
      case turn =>
        clear F8 N8
        intro C i v ys s₃ m₃ E' hi hv hI hns hm F N
        obtain ⟨d8, hd8, rd8⟩ := rA.get (i := i) (v := v) (by
          rw [List.getElem?_take] at hv
          split at hv
          · exact hv
          · cases hv)
        cases rd8 with
        | none =>
          k_steps
          exact TestEnd.no (fun b o e _ => e) (hI.skip hd8 rfl)
        | bool c =>
          k_steps
          exact TestEnd.no (fun b o e _ => e) (hI.skip hd8 rfl)
        | str c =>
          k_steps
          exact TestEnd.no (fun b o e _ => e) (hI.skip hd8 rfl)
        | bytes c =>
          k_steps
          exact TestEnd.no (fun b o e _ => e) (hI.skip hd8 rfl)
        | tuple e8 l8 r8 =>
          k_steps
          exact TestEnd.no (fun b o e _ => e) (hI.skip hd8 rfl)
        | int c =>
          k_steps
          refine TestEnd.yes (fun b o e _ => e) ?_
          k_steps
          exact EltEnd.intro (fun b o e _ => e) (hI.hit hd8)
      case done =>
        clear F8 N8
        intro D h' tk' zs k' hD2 F' N' hI
        have hzs := hI.done rA
        k_steps
        exact WrMid.intro (by k_asm) (by k_asm) (by k_mem) (by walk_at "mine drop") hzs
  case rest =>
    clear F9 N9
    intro h' tk' D zs k' F' N' hzs
    rcases hway with ⟨i, h0, h1, rfl, rfl, rfl, rfl⟩ | ⟨i, ds', W', ms, h0, h1, rfl, rfl, rfl, rfl, hn, hT⟩ | ⟨ws, W', ms, n1, n2, rfl, rfl, hn, hws, hT, hw⟩
    · cases rA with
      | cons r2 r =>
      cases r
      cases r2
      k_steps
      exact hR _ _ _ ⟨rfl, fun b o e _ => Fr.keep (by k_asm) b o e⟩
    · cases rA with
      | cons r2 r =>
      cases r2 with
      | @tuple a2 vs2 k2 _ e2 lv2 r2 =>
      cases r2 with
      | cons r3 r2 =>
      cases r2
      cases r3
      have S201 := S201 ms hT (by omega)
      rename (StrsAre _ (_ :: _)) => r4
      obtain ⟨t4, ys4, rfl, r5⟩ := strs_cons r4
      k_steps
      refine Halt.get ?_
      rename (News _ _ _ (_ :: _)) => N9
      rename (Fr _ _ _ _) => F9
      refine Halt.get ?_
      refine' call_sp S201 F9 N9 hst rfl rfl ?d ?u ⟨_, rfl⟩ (fun _ _ p => p.2) ?_
      case d => walk_at "mine units"
      case u => walk_at "mine units"
      intro r' h' tk' F' N' b' p'
      obtain ⟨⟨R1, ys1, k1, rfl, e0, e1, hy1⟩, _⟩ := p'
      have N8 := news_new F9 N9 (fun b o e => b' b o e (by simp)) e0 e1
      clear F9 N9 N' e0 e1 b'
      have hdr := drop1_ints hys
      have hyz : ys.length ≤ 100000 := by simp only [List.length_cons] at hyl; omega
      have hi1000 : i < 1000 := by omega
      k_steps
      exact hR _ _ _ ⟨rfl, fun b o e _ => Fr.keep (by k_asm) b o e⟩
    · have hzs : IntsAre zs ws := by
        rcases hw with ⟨rfl, rfl⟩ | ⟨n3, rfl⟩
        · exact hzs
        · rwa [show wsOf w8 ds = wantS (ds.take 3) from if_neg fun q => q.elim n2 n3] at hzs
      have hyz : ys.length ≤ 100000 := by omega
      have hn1 : (w8 == Str.ofString "call") = false := by simpa using n1
      have hn2 : (w8 == Str.ofString "jump") = false := by simpa using n2
      rw [List.length_append] at hn
      have S201 := S201 ms hT (by omega)
      clear hw
      k_steps
      refine Halt.get ?_
      rename (News _ _ _ (_ :: _)) => N9
      rename (Fr _ _ _ _) => F9
      refine Halt.get ?_
      refine' call_sp S201 F9 N9 hst rfl rfl ?d ?u ⟨_, rfl⟩ (fun _ _ p => p.2) ?_
      case d => walk_at "mine units"
      case u => walk_at "mine units"
      intro r' h' tk' F' N' b' p'
      obtain ⟨⟨R1, ys1, k1, rfl, e0, e1, hy1⟩, _⟩ := p'
      have N8 := news_new F9 N9 (fun b o e => b' b o e (by simp)) e0 e1
      clear F9 N9 N' e0 e1 b'
      have hdr := drop_ints hzs hys
      rename (StrsAre _ (_ ++ _)) => r4
      obtain ⟨hc, r5⟩ := run_ok r4 hzs
      have hzl := ints_len hzs
      have htok : HaltTok := trivial
      k_steps
      refine Halt.get ?_
      refine' comp_K [] ?hclos ?hcell ?hkind ?hnames ?hx ?F ?_ ?hs
      case hclos => with_unfolding_all rfl
      case hcell => decide
      case hkind => with_unfolding_all rfl
      case hnames => decide
      case hx => with_unfolding_all rfl
      case F => k_asm
      case hs => intro _; with_unfolding_all rfl
      k_steps
      rename (News _ _ _ (_ :: _)) => N9
      rename (Fr _ _ _ _) => F9
      refine CompP.pure (fun i y => ∃ (n : Int) (t : Tok), ws[i]? = some n ∧ y = Value.str (sInt n) t) (IterOk.list (vs := zs) rfl (isList_of N9 (by k_mem))) (by omega) F9 N9 ?turn2 ?done2
      case turn2 =>
        clear F9 N9
        intro C i v s₃ m₃ E' hi hv hns hm hb F N
        obtain ⟨n9, t9, rfl, hn9⟩ := ints_pick hzs hv
        obtain ⟨z0, z1⟩ := hws n9 (List.mem_of_getElem? hn9)
        have z2 : n9 < 1000 := by omega
        k_steps
        exact EltEnd.intro (fun b o e _ => e) ⟨_, _, hn9, rfl⟩
      case done2 =>
        clear F9 N9
        intro D9 h' tk' rs k9 F' N' hl9 hG hb9
        have r6 := strs_rev hzs hl9 hG
        k_steps
        exact hR _ _ _ ⟨rfl, fun b o e _ => Fr.keep (by k_asm) b o e⟩
end Mine
-- R2
namespace Mine
open PySem.Builtin in
theorem bytes_repr_slot : Slot "bytes" "__repr__" "bytes.__repr__" :=
  .of (owner := "bytes") (n := "__repr__") (by rw [typeLookup_type, builtinLookup_eq_fast]; kernel_rfl) (by decide +kernel) (by decide +kernel) (by decide +kernel)
    (by first | exact .inl (by decide +kernel) | exact .inr (by decide +kernel)) (by rw [isSubtype_type]; kernel_rfl)
theorem bytes_repr_entry : entryFor table "bytes.__repr__" = some Builtin.«bytes.__repr__» := entryFor_of_tree (by kernel_rfl)
theorem bytes_repr_args (a : Value) : argsOk "bytes.__repr__" ⟨[a], []⟩ := by
  unfold argsOk
  rw [signature?_of (id := "bytes.__repr__") (n := ['_', '_', 'r', 'p', 'e', 'r', '_', '_']) (o := ['s', 'e', 't', 'y', 'b']) (by kernel_rfl) FB.owner_bytes]
  kernel_rfl
noncomputable abbrev blit (b : Array UInt8) : Str := Builtin.Bytes.literal b
theorem bytes_repr_gives {b : Array UInt8} {t : Tok} (h : b.size ≤ 2) : Gives (Builtin.«bytes.__repr__» ⟨[.bytes b t], []⟩) (.str (blit b)) := by
  refine .of_eq ?_
  show (Builtin.Bytes.literalAsked b >>= fun x => _) = _
  have e : Builtin.Bytes.tooLong (4 * b.size + 3 + 0) = false := by
    unfold Builtin.Bytes.tooLong
    rw [sizeLine_eq]
    exact decide_eq_false (by omega)
  unfold Builtin.Bytes.literalAsked
  rw [e]
  rfl
/-- one octet of a bytes' repr -/
noncomputable def bsh (q c : Nat) : List Nat :=
  if c == q || c == 92 then [92, c] else if c == 9 then [92, 116] else if c == 10 then [92, 110] else if c == 13 then [92, 114]
  else if c < 32 || c ≥ 127 then [92, 120, (if c / 16 < 10 then 48 + c / 16 else 87 + c / 16), (if c % 16 < 10 then 48 + c % 16 else 87 + c % 16)] else [c]
noncomputable def bqu (b : Array UInt8) : Nat := if b.contains 39 && !b.contains 34 then 34 else 39
theorem foldl_app {α β : Type} (f : α → Array β) : ∀ (l : List α) (a : Array β), (l.foldl (fun acc c => acc ++ f c) a).toList = a.toList ++ l.flatMap fun c => (f c).toList
  | [], a => by simp
  | x :: l, a => by
    rw [List.foldl_cons, foldl_app f l]
    simp
theorem blit_eq (b : Array UInt8) : (blit b).cps.toList = 98 :: bqu b :: ((b.toList.flatMap fun c => bsh (bqu b) c.toNat) ++ [bqu b]) := by
  have key : ∀ (q : Nat) (f : Nat → Array Nat), (∀ c, (f c).toList = bsh q c) → ((b.foldl (fun acc c => acc ++ f c.toNat) #[98, q]).push q).toList = 98 :: q :: ((b.toList.flatMap fun c => bsh q c.toNat) ++ [q]) := fun q f h => by
    rw [Array.toList_push, ← Array.foldl_toList, foldl_app]
    simp [h]
  show ((Builtin.Bytes.literal b).cps).toList = _
  unfold Builtin.Bytes.literal
  simp only [Bool.false_eq_true, if_false]
  refine key (bqu b) (fun c => if (c == bqu b || c == 92) = true then #[92, c] else if (c == 9) = true then #[92, 116] else if (c == 10) = true then #[92, 110] else if (c == 13) = true then #[92, 114]
    else if (decide (c < 32) || decide (c ≥ 127)) = true then #[92, 120, (if c / 16 < 10 then 48 + c / 16 else 87 + c / 16), (if c % 16 < 10 then 48 + c % 16 else 87 + c % 16)] else #[c]) fun c => ?_
  unfold bsh
  split
  · rfl
  split
  · rfl
  split
  · rfl
  split
  · rfl
  split
  · rfl
  · rfl
theorem bsh_len (q c : Nat) : (bsh q c).length ≤ 4 := by
  unfold bsh
  split
  · simp
  split
  · simp
  split
  · simp
  split
  · simp
  split
  · simp
  · simp
theorem blit_len {b : Array UInt8} (h : b.size ≤ 2) : (blit b).length ≤ 12 := by
  show (blit b).cps.size ≤ 12
  rw [← Array.length_toList, blit_eq]
  obtain ⟨l⟩ := b
  match l, h with
  | [], _ => simp
  | [x], _ =>
    have := bsh_len (bqu ⟨[x]⟩) x.toNat
    simp only [List.flatMap_cons, List.flatMap_nil, List.append_nil, List.length_cons, List.length_append, List.length_nil]
    omega
  | [x, y], _ =>
    have := bsh_len (bqu ⟨[x, y]⟩) x.toNat
    have := bsh_len (bqu ⟨[x, y]⟩) y.toNat
    simp only [List.flatMap_cons, List.flatMap_nil, List.append_nil, List.length_cons, List.length_append, List.length_nil]
    omega
  | _ :: _ :: _ :: _, h => simp at h
noncomputable def relt (f : Dat → Str) : Dat → Str
  | .str x => reprText x
  | d => f d
/-- the repr of a constant's value -/
noncomputable def rtext : Nat → Dat → Str
  | _, .none => Str.ofString "None"
  | _, .bool b => if b then Str.ofString "True" else Str.ofString "False"
  | _, .int i => Str.ofString (toString i)
  | _, .bytes b => blit b
  | n + 1, .tuple ds => tupleText (ds.map (relt (rtext n)))
  | _, _ => Str.empty
noncomputable def rlen : Nat → Nat
  | 0 => 12
  | n + 1 => 2 * (rlen n + 2) + 3
theorem rlen_ge : ∀ n, 12 ≤ rlen n
  | 0 => Nat.le_refl _
  | n + 1 => by have := rlen_ge n; simp only [rlen]; omega
theorem rlen_le : ∀ n, n < 7 → rlen n ≤ 10000 := by decide
theorem cw_repr {x : Str} (h : cw x = true) : (reprText x).length ≤ 8 := by
  simp only [cw, Bool.or_eq_true, decide_eq_true_eq] at h
  rcases h with rfl | rfl <;> decide +kernel
theorem tup_len {xs : List Str} {B : Nat} (h2 : xs.length ≤ 2) (h : ∀ x ∈ xs, x.length ≤ B) : (tupleText xs).length ≤ 2 * (B + 2) + 3 := by
  have e0 : (Str.ofString ", ").length = 2 := by decide
  have e1 : (Str.ofString "(").length = 1 := by decide
  have e2 : (Str.ofString ",)").length = 2 := by decide
  have e3 : (Str.ofString ")").length = 1 := by decide
  have h1 := len_join (Str.ofString ", ") xs B h
  rw [e0] at h1
  have h3 : xs.length * (B + 2) ≤ 2 * (B + 2) := Nat.mul_le_mul_right _ h2
  show (Str.ofString "(" ++ Str.join (Str.ofString ", ") xs ++ Str.ofString (if xs.length == 1 then ",)" else ")")).length ≤ _
  rw [Str.length_append, Str.length_append, e1]
  split
  · rw [e2]; omega
  · rw [e3]; omega
theorem rtext_len : ∀ (n : Nat) (d : Dat), cvOk n d = true → (rtext n d).length ≤ rlen n := by
  have hint : ∀ (n : Nat) (i : Int), cvOk n (.int i) = true → (rtext n (.int i)).length ≤ rlen n := fun n i h => by
    have h2 : -1000 < i ∧ i < 1000 := by cases n <;> simpa [cvOk] using h
    have e : rtext n (.int i) = Str.ofString (toString i) := by cases n <;> rfl
    have := int_len' i h2.1 h2.2
    have := rlen_ge n
    rw [e]; omega
  have hby : ∀ (n : Nat) (b : Array UInt8), cvOk n (.bytes b) = true → (rtext n (.bytes b)).length ≤ rlen n := fun n b h => by
    have h2 : b.size ≤ 2 := by cases n <;> simpa [cvOk] using h
    have e : rtext n (.bytes b) = blit b := by cases n <;> rfl
    have := blit_len h2
    have := rlen_ge n
    rw [e]; omega
  have hbo : ∀ (n : Nat) (b : Bool), (rtext n (.bool b)).length ≤ rlen n := fun n b => by
    have e : rtext n (.bool b) = if b then Str.ofString "True" else Str.ofString "False" := by cases n <;> rfl
    have := rlen_ge n
    have h2 : (rtext n (.bool b)).length ≤ 5 := by rw [e]; cases b <;> decide
    omega
  have hno : ∀ (n : Nat), (rtext n .none).length ≤ rlen n := fun n => by
    have e : rtext n .none = Str.ofString "None" := by cases n <;> rfl
    have := rlen_ge n
    have h2 : (rtext n .none).length ≤ 5 := by rw [e]; decide
    omega
  intro n
  induction n with
  | zero =>
    intro d h
    cases d with
    | none => exact hno 0
    | bool b => exact hbo 0 b
    | int i => exact hint 0 i h
    | bytes b => exact hby 0 b h
    | _ => simp [cvOk] at h
  | succ n ih =>
    intro d h
    cases d with
    | none => exact hno _
    | bool b => exact hbo _ b
    | int i => exact hint _ i h
    | bytes b => exact hby _ b h
    | tuple ds =>
      simp only [cvOk, Bool.and_eq_true, decide_eq_true_eq, List.all_eq_true] at h
      refine tup_len (by simpa using h.1) fun y hy => ?_
      obtain ⟨d, hd, rfl⟩ := List.mem_map.mp hy
      have hc := h.2 d hd
      cases d with
      | str x =>
        have := cw_repr (x := x) hc
        have := rlen_ge n
        simp only [relt]; omega
      | _ => exact ih _ hc
    | _ => simp [cvOk] at h
mutual
theorem rd_det {h : Heap} : ∀ {v : Value} {d d' : Dat}, Rd h v d → Rd h v d' → d = d'
  | _, _, _, .none, r => by cases r; rfl
  | _, _, _, .bool b, r => by cases r; rfl
  | _, _, _, .int i t, r => by cases r; rfl
  | _, _, _, .str x t, r => by cases r; rfl
  | _, _, _, .bytes b t, r => by cases r; rfl
  | _, _, _, .tuple (vs := vs) (n := n) e l a, r => by
    cases r with
    | tuple e2 l2 a2 =>
      rw [e] at e2
      have q := congrArg Obj.data (Option.some.inj e2)
      injection q with q1 q2
      have q3 := congrArg Array.toList q1
      simp only at q3
      subst q3
      rw [rdA_det a a2]
theorem rdA_det {h : Heap} : ∀ {vs : List Value} {ds ds' : List Dat}, RdA h vs ds → RdA h vs ds' → ds = ds'
  | _, _, _, .nil, r => by cases r; rfl
  | _, _, _, .cons a b, r => by
    cases r with
    | cons a2 b2 => rw [rd_det a a2, rdA_det b b2]
end
section
variable {prog : Program} {w : World} {h : Heap}
theorem ReprIs.bytesT {b : Array UInt8} (t : Tok) (hb : b.size ≤ 2) : ReprIs prog w (.bytes b t) (blit b) := fun n hn _ _ _ _ k => by
  have hn' : n ≤ sizeLine := by omega
  rw [pyReprUnder_leaf (v := .bytes b t) hn' (fun _ e => nomatch e)]
  unfold pyRepr
  exact wpAny_bind (wpAny_pyReprObj_gives (typeIs_bytes _ b t) bytes_repr_slot bytes_repr_entry (bytes_repr_args _) (bytes_repr_gives hb) (wpAny_pure (k _)) (hx := Nat.le_trans (blit_len hb) (by decide)))
noncomputable def Below (h : Heap) (k : Nat) (bs : List Addr) : Prop := ∀ b ∈ bs, ∃ d', Rd h (.ref b) d' ∧ sizeOf d' ≤ k
theorem Below.mono {k k' : Nat} {bs : List Addr} (x : Below h k bs) (e : k ≤ k') : Below h k' bs := fun b hb => let ⟨d, r, l⟩ := x b hb; ⟨d, r, Nat.le_trans l e⟩
theorem Below.app {k : Nat} {as bs : List Addr} (x : Below h k as) (y : Below h k bs) : Below h k (as ++ bs) := fun b hb => (List.mem_append.mp hb).elim (x b) (y b)
theorem log_small {i : Int} (h1 : -1000 < i) (h2 : i < 1000) : i.natAbs.log2 < 1920 := by
  have e : i.natAbs < 2 ^ 10 := by omega
  rcases Nat.eq_zero_or_pos i.natAbs with q | q
  · rw [q]; decide
  · have := (Nat.log2_lt (by omega)).mpr e
    omega
mutual
theorem repr_k : ∀ (n : Nat) {v : Value} {d : Dat}, Rd h v d → cvOk n d = true → n ≤ 6 → ∃ bs, Below h (sizeOf d) bs ∧ ReprK prog w bs h n v (rtext n d)
  | n, _, _, .none, _, _ => ⟨[], (fun _ q => nomatch q), by
      have e : rtext n .none = Str.ofString "None" := by cases n <;> rfl
      rw [e]; exact .of_is ReprIs.none _ _ _⟩
  | n, _, _, .bool b, _, _ => ⟨[], (fun _ q => nomatch q), by
      have e : rtext n (.bool b) = if b then Str.ofString "True" else Str.ofString "False" := by cases n <;> rfl
      rw [e]; exact .of_is (ReprIs.bool b) _ _ _⟩
  | n, _, _, .int i t, hc, _ => ⟨[], (fun _ q => nomatch q), by
      have h2 : -1000 < i ∧ i < 1000 := by cases n <;> simpa [cvOk] using hc
      have e : rtext n (.int i) = Str.ofString (toString i) := by cases n <;> rfl
      rw [e]; exact .of_is (ReprIs.int t (log_small h2.1 h2.2)) _ _ _⟩
  | n, _, _, .str x t, hc, _ => by cases n <;> simp [cvOk] at hc
  | n, _, _, .bytes b t, hc, _ => ⟨[], (fun _ q => nomatch q), by
      have h2 : b.size ≤ 2 := by cases n <;> simpa [cvOk] using hc
      have e : rtext n (.bytes b) = blit b := by cases n <;> rfl
      rw [e]; exact .of_is (ReprIs.bytesT t h2) _ _ _⟩
  | 0, _, _, .tuple _ _ _, hc, _ => by simp [cvOk] at hc
  | n + 1, _, _, .tuple (a := a) (vs := vs) (ds := ds) e l r, hc, hn => by
    have hr := Rd.tuple e l r
    simp only [cvOk, Bool.and_eq_true, decide_eq_true_eq, List.all_eq_true] at hc
    obtain ⟨bs, hb, hk⟩ := repr_kA n r hc.2 (by omega)
    have hna : a ∉ bs := fun hm => by
      obtain ⟨d', r', l'⟩ := hb a hm
      have := rd_det hr r'
      rw [← this] at l'
      simp only [Dat.tuple.sizeOf_spec] at l'
      omega
    refine ⟨a :: bs, fun b hm => ?_, ReprK.tuple e rfl rfl hna (by simpa using hk)⟩
    rcases List.mem_cons.mp hm with rfl | hm
    · exact ⟨_, hr, Nat.le_refl _⟩
    · exact hb.mono (by simp only [Dat.tuple.sizeOf_spec]; omega) b hm
theorem repr_kA : ∀ (n : Nat) {vs : List Value} {ds : List Dat}, RdA h vs ds → (∀ d ∈ ds, cokF (cvOk n) d = true) → n ≤ 6 → ∃ bs, Below h (sizeOf ds) bs ∧ ReprAllK prog w bs h n vs (ds.map (relt (rtext n)))
  | _, _, _, .nil, _, _ => ⟨[], (fun _ q => nomatch q), .nil⟩
  | n, _, _, .cons (v := v) (d := d) (ds := ds) r rs, hc, hn => by
    obtain ⟨b2, hb2, k2⟩ := repr_kA n rs (fun d hd => hc d (.tail _ hd)) hn
    have h0 := hc d (.head _)
    have h1 : ∃ bs, Below h (sizeOf d) bs ∧ ReprK prog w bs h n v (relt (rtext n) d) := by
      cases hd : d with
      | str x =>
        subst hd
        cases r with
        | str _ t => exact ⟨[], (fun _ q => nomatch q), .of_is (ReprIs.str x t (Nat.le_trans (cw_repr (x := x) h0) (by decide))) _ _ _⟩
      | _ =>
        subst hd
        exact repr_k n r h0 hn
    obtain ⟨b1, hb1, k1⟩ := h1
    refine ⟨b1 ++ b2, (hb1.mono ?_).app (hb2.mono ?_), .cons (k1.more fun b hb => List.mem_append_left _ hb) (k2.more_le (fun b hb => List.mem_append_right _ hb) (Nat.le_refl _))⟩
    · simp only [List.cons.sizeOf_spec]; omega
    · simp only [List.cons.sizeOf_spec]; omega
end
end
theorem T_repr {prog : Program} {w : World} {A : Around} {E : Value → Shared → Prop} {s : Shared} {h₀ : Heap} {L : Addr} {m : Str → Option Value} {news : List (Addr × Obj)} {v : Value} {d : Dat} {Q : Value → Shared → Prop} (F₁ : Fr h₀ L s.heap m) (N : News h₀ L s.heap news) (r : Rd s.heap v d) (hc : cvOk 4 d = true) (hg : A.guards = some []) (hu : A.units + 8 < cLine)
    (k : ∀ h' t k, Fr h₀ L h' m → News h₀ L h' news → But [] s.heap h' → Q (.str (rtext 4 d) t) { s with heap := h', toks := k }) : wpAny (model prog w) A (call (.builtin "repr") [v]) Q E s := by
  have hl := rtext_len 4 d hc
  have hl2 := rlen_le 4 (by decide)
  have hz : (rtext 4 d).length ≤ sizeLine := Nat.le_trans (Nat.le_trans hl hl2) (by decide)
  cases r with
  | none => exact call_repr_gives (typeIs_none s) F.slot_NoneType_repr F.entry_NoneType_repr (F.args_NoneType_repr_1 _) gives_none_repr (k s.heap _ _ F₁ N fun _ _ e _ => e) (hx := by decide)
  | bool b => exact call_repr_gives (PySem.typeIs_bool s b) F.slot_bool_repr F.entry_bool_repr (F.args_bool_repr_1 _) (gives_bool_repr b) (k s.heap _ _ F₁ N fun _ _ e _ => e) (hx := by cases b <;> decide)
  | int i t =>
    have h2 : -1000 < i ∧ i < 1000 := by simpa [cvOk] using hc
    exact call_repr_gives (typeIs_int s i t) F.slot_int_repr F.entry_int_repr (F.args_int_repr_1 _) (gives_int_repr i t (log_small h2.1 h2.2)) (k s.heap _ _ F₁ N fun _ _ e _ => e) (hx := int_text_fits (log_small h2.1 h2.2))
  | str x t => simp [cvOk] at hc
  | bytes b t =>
    have h2 : b.size ≤ 2 := by simpa [cvOk] using hc
    exact call_repr_gives (typeIs_bytes s b t) bytes_repr_slot bytes_repr_entry (bytes_repr_args _) (bytes_repr_gives h2) (k s.heap _ _ F₁ N fun _ _ e _ => e) (hx := hz)
  | @tuple a vs n ds e l r =>
    have hr := Rd.tuple e l r
    have hc' := hc
    simp only [cvOk, Bool.and_eq_true, decide_eq_true_eq, List.all_eq_true] at hc'
    obtain ⟨bs, hb, hk⟩ := repr_kA (prog := prog) (w := w) 3 r hc'.2 (by omega)
    have hna : a ∉ bs := fun hm => by
      obtain ⟨d', r', l'⟩ := hb a hm
      have := rd_det hr r'
      rw [← this] at l'
      simp only [Dat.tuple.sizeOf_spec] at l'
      omega
    refine call_repr_slot (by omega) (⟨_, e, rfl⟩ : s.TypeIs (.ref a) "tuple") F.slot_tuple_repr (call_tuple_reprK (d := 3) (h₀ := s.heap) e rfl rfl hna (by simpa using hk) hg (fun b _ => Clear.nil b) (by show A.units + 1 + 4 < cLine; omega) (fun _ _ e => e) (fun h' u tk hk => ⟨_, _, rfl, ?_⟩) hz)
    exact k h' u tk (F₁.keptAll hk) (N.grown hk) fun b o e _ => hk b o e
end Mine
-- R3
namespace Mine
/-- how a constant's value is written out -/
structure Pr where
  nn : List Nat
  tt : List Nat
  ff : List Nat
  by8 : Array UInt8 → List Nat
  st : Str → List Nat
  one : List Nat
  kd : Nat → Nat
noncomputable abbrev isNum (c : Nat) : Prop := (48 ≤ c ∧ c ≤ 57) ∨ c = 45
structure PrOk (P : Pr) : Prop where
  nn : ∃ c l, P.nn = c :: l ∧ P.kd c = 0
  tt : ∃ c l, P.tt = c :: l ∧ P.kd c = 1
  ff : ∃ c l, P.ff = c :: l ∧ P.kd c = 2
  int : ∀ c, isNum c → P.kd c = 3
  tup : P.kd 40 = 4
  byK : ∀ b, ∃ c l, P.by8 b = c :: l ∧ P.kd c = 5
  stK : ∀ x, cw x = true → ∃ c l, P.st x = c :: l ∧ P.kd c = 6
  cl : P.kd 41 = 7
  byI : ∀ b b' s s', b.size ≤ 2 → b'.size ≤ 2 → P.by8 b ++ s = P.by8 b' ++ s' → b = b' ∧ s = s'
  stI : ∀ x x' s s', cw x = true → cw x' = true → P.st x ++ s = P.st x' ++ s' → x = x' ∧ s = s'
  one : P.one = [41] ∨ P.one = [44, 41]
noncomputable def pelt (P : Pr) (f : Dat → List Nat) : Dat → List Nat
  | .str x => P.st x
  | d => f d
noncomputable def tupl (P : Pr) : List (List Nat) → List Nat
  | [] => [41]
  | [x] => x ++ P.one
  | [x, y] => x ++ 44 :: 32 :: (y ++ [41])
  | _ => []
noncomputable def out (P : Pr) : Nat → Dat → List Nat
  | _, .none => P.nn
  | _, .bool b => if b then P.tt else P.ff
  | _, .int i => figs i
  | _, .bytes b => P.by8 b
  | n + 1, .tuple ds => 40 :: tupl P (ds.map (pelt P (out P n)))
  | _, _ => []
noncomputable def Stop (s : List Nat) : Prop := s = [] ∨ ∃ c l, s = c :: l ∧ (c = 41 ∨ c = 44)
noncomputable def NoNum (s : List Nat) : Prop := ∀ c l, s = c :: l → ¬ isNum c
theorem Stop.noNum {s : List Nat} (h : Stop s) : NoNum s := fun c l e q => by
  rcases h with rfl | ⟨c', l', rfl, h⟩
  · cases e
  · cases e; omega
theorem num_cut : ∀ {l l' s s' : List Nat}, (∀ c ∈ l, isNum c) → (∀ c ∈ l', isNum c) → NoNum s → NoNum s' → l ++ s = l' ++ s' → l = l' ∧ s = s'
  | [], [], _, _, _, _, _, _, e => ⟨rfl, e⟩
  | [], c :: l', _, _, _, h', hs, _, e => absurd (h' c (.head _)) (hs c _ e)
  | c :: l, [], _, _, h, _, _, hs', e => absurd (h c (.head _)) (hs' c _ e.symm)
  | c :: l, c' :: l', _, _, h, h', hs, hs', e => by
    obtain ⟨e1, e2⟩ := List.cons.inj (by simpa using e)
    obtain ⟨r1, r2⟩ := num_cut (fun x hx => h x (.tail _ hx)) (fun x hx => h' x (.tail _ hx)) hs hs' e2
    exact ⟨by rw [e1, r1], r2⟩
noncomputable def readI : List Nat → Int
  | 45 :: r => - ((r.foldl (fun a c => 10 * a + (c - 48)) 0 : Nat) : Int)
  | r => ((r.foldl (fun a c => 10 * a + (c - 48)) 0 : Nat) : Int)
theorem figs_read {i : Int} (h0 : -1000 < i) (h1 : i < 1000) : readI (figs i) = i := by
  rcases figs_split i with ⟨m, q, e⟩ | ⟨m, q, e⟩
  · rw [e, q]
    have v := digs_val m
    cases h : digs m with
    | nil => exact absurd h (digs_ne m)
    | cons c l =>
      have := (digs_dg (m := m) (c := c) (by rw [h]; exact .head _)).1
      rw [h] at v
      have e2 : readI (c :: l) = (((c :: l).foldl (fun a c => 10 * a + (c - 48)) 0 : Nat) : Int) := by
        unfold readI
        split
        · rename_i e3; cases e3; omega
        · rfl
      rw [e2, v]
  · rw [e, q]
    show - (((digs m).foldl (fun a c => 10 * a + (c - 48)) 0 : Nat) : Int) = _
    rw [digs_val]
theorem figs_num {i : Int} (h0 : -1000 < i) (h1 : i < 1000) : (∀ c ∈ figs i, isNum c) ∧ ∃ c l, figs i = c :: l := by
  refine ⟨fun c hc => (figs_low hc).symm, ?_⟩
  rcases figs_split i with ⟨m, _, e⟩ | ⟨m, _, e⟩
  · rw [e]
    cases h : digs m with
    | nil => exact absurd h (digs_ne m)
    | cons c l => exact ⟨c, l, rfl⟩
  · exact ⟨_, _, e⟩
theorem figs_inj {i j : Int} (h0 : -1000 < i) (h1 : i < 1000) (h2 : -1000 < j) (h3 : j < 1000) (e : figs i = figs j) : i = j := by
  rw [← figs_read h0 h1, e, figs_read h2 h3]
noncomputable def dk : Dat → Nat
  | .none => 0
  | .bool true => 1
  | .bool false => 2
  | .int _ => 3
  | .tuple _ => 4
  | .bytes _ => 5
  | .str _ => 6
  | _ => 8
theorem dk_lt : ∀ (n : Nat) {d : Dat}, cokF (cvOk n) d = true → dk d < 7
  | n, .none, _ => by decide
  | n, .bool true, _ => by decide
  | n, .bool false, _ => by decide
  | n, .int i, h => by simp [dk]
  | n, .bytes b, _ => by simp [dk]
  | n, .str x, h => by simp [dk]
  | n, .tuple ds, h => by simp [dk]
  | n, .list _, h => by cases n <;> simp [cokF, cvOk] at h
section
variable {P : Pr} (O : PrOk P)
include O
theorem out_head : ∀ (n : Nat) {d : Dat}, cokF (cvOk n) d = true → ∃ c l, pelt P (out P n) d = c :: l ∧ P.kd c = dk d
  | n, .none, _ => by
    have e : pelt P (out P n) .none = P.nn := by cases n <;> rfl
    rw [e]; exact O.nn
  | n, .bool true, _ => by
    have e : pelt P (out P n) (.bool true) = P.tt := by cases n <;> rfl
    rw [e]; exact O.tt
  | n, .bool false, _ => by
    have e : pelt P (out P n) (.bool false) = P.ff := by cases n <;> rfl
    rw [e]; exact O.ff
  | n, .int i, h => by
    have h2 : -1000 < i ∧ i < 1000 := by cases n <;> simpa [cokF, cvOk] using h
    have e : pelt P (out P n) (.int i) = figs i := by cases n <;> rfl
    obtain ⟨a, c, l, q⟩ := figs_num h2.1 h2.2
    exact ⟨c, l, by rw [e, q], O.int c (a c (by rw [q]; exact .head _))⟩
  | n, .bytes b, _ => by
    have e : pelt P (out P n) (.bytes b) = P.by8 b := by cases n <;> rfl
    rw [e]; exact O.byK b
  | n, .str x, h => O.stK x h
  | 0, .tuple ds, h => by simp [cokF, cvOk] at h
  | n + 1, .tuple ds, h => ⟨40, _, rfl, O.tup⟩
  | n, .list _, h => by cases n <;> simp [cokF, cvOk] at h
theorem out_dk (n : Nat) {d d' : Dat} {s s' : List Nat} (h : cokF (cvOk n) d = true) (h' : cokF (cvOk n) d' = true) (e : pelt P (out P n) d ++ s = pelt P (out P n) d' ++ s') : dk d = dk d' := by
  obtain ⟨c, l, e1, k1⟩ := out_head O n h
  obtain ⟨c', l', e2, k2⟩ := out_head O n h'
  rw [e1, e2] at e
  have q : c :: (l ++ s) = c' :: (l' ++ s') := e
  rw [← k1, ← k2, (List.cons.inj q).1]
theorem leaf_cut (n : Nat) {d d' : Dat} {s s' : List Nat} (h : cokF (cvOk n) d = true) (h' : cokF (cvOk n) d' = true) (hs : Stop s) (hs' : Stop s') (e : pelt P (out P n) d ++ s = pelt P (out P n) d' ++ s') :
    (d = d' ∧ s = s') ∨ ∃ ds ds', d = .tuple ds ∧ d' = .tuple ds' := by
  have hk := out_dk O n h h' e
  have none_e : pelt P (out P n) .none = P.nn := by cases n <;> rfl
  have bool_e : ∀ b, pelt P (out P n) (.bool b) = if b then P.tt else P.ff := fun b => by cases n <;> rfl
  have int_e : ∀ i, pelt P (out P n) (.int i) = figs i := fun i => by cases n <;> rfl
  have by_e : ∀ b, pelt P (out P n) (.bytes b) = P.by8 b := fun b => by cases n <;> rfl
  cases d with
  | none =>
    cases d' with
    | none => exact .inl ⟨rfl, List.append_cancel_left e⟩
    | bool b => cases b <;> simp [dk] at hk
    | _ => simp [dk] at hk
  | bool b =>
    cases d' with
    | bool c =>
      have q : b = c := by cases b <;> cases c <;> first | rfl | (simp [dk] at hk)
      subst q
      exact .inl ⟨rfl, List.append_cancel_left e⟩
    | _ => cases b <;> simp [dk] at hk
  | int i =>
    cases d' with
    | int j =>
      have h2 : -1000 < i ∧ i < 1000 := by cases n <;> simpa [cokF, cvOk] using h
      have h3 : -1000 < j ∧ j < 1000 := by cases n <;> simpa [cokF, cvOk] using h'
      rw [int_e, int_e] at e
      obtain ⟨q1, q2⟩ := num_cut (figs_num h2.1 h2.2).1 (figs_num h3.1 h3.2).1 hs.noNum hs'.noNum e
      exact .inl ⟨by rw [figs_inj h2.1 h2.2 h3.1 h3.2 q1], q2⟩
    | bool b => cases b <;> simp [dk] at hk
    | _ => simp [dk] at hk
  | bytes b =>
    cases d' with
    | bytes c =>
      have h2 : b.size ≤ 2 := by cases n <;> simpa [cokF, cvOk] using h
      have h3 : c.size ≤ 2 := by cases n <;> simpa [cokF, cvOk] using h'
      rw [by_e, by_e] at e
      obtain ⟨q1, q2⟩ := O.byI _ _ _ _ h2 h3 e
      exact .inl ⟨by rw [q1], q2⟩
    | bool b => cases b <;> simp [dk] at hk
    | _ => simp [dk] at hk
  | str x =>
    cases d' with
    | str y =>
      obtain ⟨q1, q2⟩ := O.stI _ _ _ _ h h' e
      exact .inl ⟨by rw [q1], q2⟩
    | bool b => cases b <;> simp [dk] at hk
    | _ => simp [dk] at hk
  | tuple ds =>
    cases d' with
    | tuple ds' => exact .inr ⟨_, _, rfl, rfl⟩
    | bool b => cases b <;> simp [dk] at hk
    | _ => simp [dk] at hk
  | list ds => cases n <;> simp [cokF, cvOk] at h
theorem one_stop (s : List Nat) : Stop (P.one ++ s) := by
  rcases O.one with q | q <;> rw [q]
  · exact .inr ⟨41, _, rfl, .inl rfl⟩
  · exact .inr ⟨44, _, rfl, .inr rfl⟩
theorem out_cut : ∀ (n : Nat) {d d' : Dat} {s s' : List Nat}, cokF (cvOk n) d = true → cokF (cvOk n) d' = true → Stop s → Stop s' → pelt P (out P n) d ++ s = pelt P (out P n) d' ++ s' → d = d' ∧ s = s' := by
  intro n
  induction n with
  | zero =>
    intro d d' s s' h h' hs hs' e
    rcases leaf_cut O 0 h h' hs hs' e with q | ⟨ds, ds', rfl, rfl⟩
    · exact q
    · simp [cokF, cvOk] at h
  | succ n ih =>
    intro d d' s s' h h' hs hs' e
    rcases leaf_cut O (n + 1) h h' hs hs' e with q | ⟨ds, ds', rfl, rfl⟩
    · exact q
    have hd : ds.length ≤ 2 ∧ ∀ d ∈ ds, cokF (cvOk n) d = true := by simpa [cokF, cvOk] using h
    have hd' : ds'.length ≤ 2 ∧ ∀ d ∈ ds', cokF (cvOk n) d = true := by simpa [cokF, cvOk] using h'
    have e1 : tupl P (ds.map (pelt P (out P n))) ++ s = tupl P (ds'.map (pelt P (out P n))) ++ s' := (List.cons.inj (show 40 :: (tupl P (ds.map (pelt P (out P n))) ++ s) = 40 :: (tupl P (ds'.map (pelt P (out P n))) ++ s') from e)).2
    have bad : ∀ {x : Dat} {t t' : List Nat}, cokF (cvOk n) x = true → 41 :: t = pelt P (out P n) x ++ t' → False := fun {x t t'} hx q => by
      obtain ⟨c, l, q1, q2⟩ := out_head O n hx
      rw [q1] at q
      have q3 : (41 : Nat) = c := (List.cons.inj (show 41 :: t = c :: (l ++ t') from q)).1
      have := dk_lt n hx
      rw [← q2, ← q3, O.cl] at this
      omega
    have comma : ∀ t : List Nat, Stop (44 :: 32 :: t) := fun t => .inr ⟨44, _, rfl, .inr rfl⟩
    have paren : ∀ t : List Nat, Stop (41 :: t) := fun t => .inr ⟨41, _, rfl, .inl rfl⟩
    have noone : ∀ {t t' : List Nat}, P.one ++ t = 44 :: 32 :: t' → False := fun {t t'} q => by
      rcases O.one with q1 | q1 <;> rw [q1] at q <;> simp at q
    match ds, hd, ds', hd', e1 with
    | [], _, [], _, e1 => exact ⟨rfl, List.append_cancel_left e1⟩
    | [], _, [x], hx, e1 =>
      refine (bad (x := x) (hx.2 x (.head _)) (t := s) (t' := P.one ++ s') ?_).elim
      simpa [tupl] using e1
    | [], _, [x, y], hx, e1 =>
      refine (bad (x := x) (hx.2 x (.head _)) (t := s) (t' := 44 :: 32 :: (pelt P (out P n) y ++ 41 :: s')) ?_).elim
      simpa [tupl] using e1
    | [x], hx, [], _, e1 =>
      refine (bad (x := x) (hx.2 x (.head _)) (t := s') (t' := P.one ++ s) ?_).elim
      simpa [tupl] using e1.symm
    | [x, y], hx, [], _, e1 =>
      refine (bad (x := x) (hx.2 x (.head _)) (t := s') (t' := 44 :: 32 :: (pelt P (out P n) y ++ 41 :: s)) ?_).elim
      simpa [tupl] using e1.symm
    | [x], hx, [y], hy, e1 =>
      have e2 : pelt P (out P n) x ++ (P.one ++ s) = pelt P (out P n) y ++ (P.one ++ s') := by simpa [tupl] using e1
      obtain ⟨q1, q2⟩ := ih (hx.2 x (.head _)) (hy.2 y (.head _)) (one_stop O s) (one_stop O s') e2
      exact ⟨by rw [q1], List.append_cancel_left q2⟩
    | [x], hx, [y, z], hy, e1 =>
      have e2 : pelt P (out P n) x ++ (P.one ++ s) = pelt P (out P n) y ++ (44 :: 32 :: (pelt P (out P n) z ++ 41 :: s')) := by simpa [tupl] using e1
      obtain ⟨q1, q2⟩ := ih (hx.2 x (.head _)) (hy.2 y (.head _)) (one_stop O s) (comma _) e2
      exact (noone q2).elim
    | [x, z], hx, [y], hy, e1 =>
      have e2 : pelt P (out P n) x ++ (44 :: 32 :: (pelt P (out P n) z ++ 41 :: s)) = pelt P (out P n) y ++ (P.one ++ s') := by simpa [tupl] using e1
      obtain ⟨q1, q2⟩ := ih (hx.2 x (.head _)) (hy.2 y (.head _)) (comma _) (one_stop O s') e2
      exact (noone q2.symm).elim
    | [x, z], hx, [y, u], hy, e1 =>
      have e2 : pelt P (out P n) x ++ (44 :: 32 :: (pelt P (out P n) z ++ 41 :: s)) = pelt P (out P n) y ++ (44 :: 32 :: (pelt P (out P n) u ++ 41 :: s')) := by simpa [tupl] using e1
      obtain ⟨q1, q2⟩ := ih (hx.2 x (.head _)) (hy.2 y (.head _)) (comma _) (comma _) e2
      have e3 : pelt P (out P n) z ++ 41 :: s = pelt P (out P n) u ++ 41 :: s' := by simpa using q2
      obtain ⟨q3, q4⟩ := ih (hx.2 z (.tail _ (.head _))) (hy.2 u (.tail _ (.head _))) (paren _) (paren _) e3
      exact ⟨by rw [q1, q3], by simpa using q4⟩
    | _ :: _ :: _ :: _, hx, _, _, _ => simp at hx
    | _, _, _ :: _ :: _ :: _, hx, _ => simp at hx
theorem out_inj (n : Nat) {d d' : Dat} (h : cvOk n d = true) (h' : cvOk n d' = true) (e : out P n d = out P n d') : d = d' := by
  have el : ∀ {d : Dat}, cvOk n d = true → cokF (cvOk n) d = true ∧ pelt P (out P n) d = out P n d := fun {d} h => by
    cases d with
    | str x => cases n <;> simp [cvOk] at h
    | _ => exact ⟨h, rfl⟩
  obtain ⟨a, b⟩ := el h
  obtain ⟨a', b'⟩ := el h'
  exact (out_cut O n (s := []) (s' := []) a a' (.inl rfl) (.inl rfl) (by rw [b, b', e])).1
end
end Mine
-- R4
namespace Mine
theorem cw_two {x : Str} (h : cw x = true) : x = Str.ofString "struct" ∨ x = Str.ofString "array" := by
  simpa [cw] using h
theorem two_inj {f : Str → List Nat} {a b : List Nat} (ea : f (Str.ofString "struct") = a) (eb : f (Str.ofString "array") = b) (hab : ∀ s s' : List Nat, a ++ s ≠ b ++ s') {x x' : Str} {s s' : List Nat} (h : cw x = true) (h' : cw x' = true) (e : f x ++ s = f x' ++ s') : x = x' ∧ s = s' := by
  rcases cw_two h with rfl | rfl <;> rcases cw_two h' with rfl | rfl
  · exact ⟨rfl, List.append_cancel_left e⟩
  · rw [ea, eb] at e; exact absurd e (hab _ _)
  · rw [ea, eb] at e; exact absurd e.symm (hab _ _)
  · exact ⟨rfl, List.append_cancel_left e⟩
theorem octet_num (c : UInt8) : (∀ k ∈ figs (c.toNat : Int), isNum k) ∧ ∃ k l, figs (c.toNat : Int) = k :: l := by
  have := c.toNat_lt
  exact figs_num (by omega) (by omega)
theorem octet_inj {c c' : UInt8} (e : figs (c.toNat : Int) = figs (c'.toNat : Int)) : c = c' := by
  have := c.toNat_lt
  have := c'.toNat_lt
  have q := figs_inj (by omega) (by omega) (by omega) (by omega) e
  exact UInt8.toNat_inj.mp (by omega)
noncomputable def cby (b : Array UInt8) : List Nat := tx (Str.ofString "[" ++ Str.join (Str.ofString " ") (octets b) ++ Str.ofString "]")
theorem cby0 : cby ⟨[]⟩ = [91, 93] := by decide
theorem cby1 (x : UInt8) : cby ⟨[x]⟩ = 91 :: (figs (x.toNat : Int) ++ [93]) := by
  show tx (Str.ofString "[" ++ Str.ofString (toString (x.toNat : Int)) ++ Str.ofString "]") = _
  rw [tx_app, tx_app, figs_is', show tx (Str.ofString "[") = [91] from by decide, show tx (Str.ofString "]") = [93] from by decide]
  rfl
theorem cby2 (x y : UInt8) : cby ⟨[x, y]⟩ = 91 :: (figs (x.toNat : Int) ++ 32 :: (figs (y.toNat : Int) ++ [93])) := by
  show tx (Str.ofString "[" ++ (Str.ofString (toString (x.toNat : Int)) ++ Str.ofString " " ++ Str.ofString (toString (y.toNat : Int))) ++ Str.ofString "]") = _
  rw [tx_app, tx_app, tx_app, tx_app, figs_is', figs_is', show tx (Str.ofString "[") = [91] from by decide, show tx (Str.ofString "]") = [93] from by decide, show tx (Str.ofString " ") = [32] from by decide]
  simp
theorem noNum_of {c : Nat} (h : ¬ isNum c) (t : List Nat) : NoNum (c :: t) := fun k l e => by cases e; exact h
theorem by_inj (F : Array UInt8 → List Nat) (cby0 : F ⟨[]⟩ = [91, 93]) (cby1 : ∀ x : UInt8, F ⟨[x]⟩ = 91 :: (figs (x.toNat : Int) ++ [93])) (cby2 : ∀ x y : UInt8, F ⟨[x, y]⟩ = 91 :: (figs (x.toNat : Int) ++ 32 :: (figs (y.toNat : Int) ++ [93]))) :
    ∀ (b b' : Array UInt8) (s s' : List Nat), b.size ≤ 2 → b'.size ≤ 2 → F b ++ s = F b' ++ s' → b = b' ∧ s = s' := by
  rintro ⟨b⟩ ⟨b'⟩ s s' h h' e
  have n93 : ¬ isNum 93 := by decide
  have n32 : ¬ isNum 32 := by decide
  match b, h, b', h', e with
  | [], _, [], _, e => exact ⟨rfl, List.append_cancel_left e⟩
  | [], _, [x], _, e =>
    rw [cby0, cby1] at e
    obtain ⟨a, k, l, q⟩ := octet_num x
    rw [q] at e
    have e2 : (93 : Nat) = k := by simp at e; exact e.1
    exact absurd (a k (by rw [q]; exact .head _)) (e2 ▸ n93)
  | [], _, [x, y], _, e =>
    rw [cby0, cby2] at e
    obtain ⟨a, k, l, q⟩ := octet_num x
    rw [q] at e
    have e2 : (93 : Nat) = k := by simp at e; exact e.1
    exact absurd (a k (by rw [q]; exact .head _)) (e2 ▸ n93)
  | [x], _, [], _, e =>
    rw [cby0, cby1] at e
    obtain ⟨a, k, l, q⟩ := octet_num x
    rw [q] at e
    have e2 : k = (93 : Nat) := by simp at e; exact e.1
    exact absurd (a k (by rw [q]; exact .head _)) (e2 ▸ n93)
  | [x, y], _, [], _, e =>
    rw [cby0, cby2] at e
    obtain ⟨a, k, l, q⟩ := octet_num x
    rw [q] at e
    have e2 : k = (93 : Nat) := by simp at e; exact e.1
    exact absurd (a k (by rw [q]; exact .head _)) (e2 ▸ n93)
  | [x], _, [x'], _, e =>
    rw [cby1, cby1] at e
    have e2 : figs (x.toNat : Int) ++ 93 :: s = figs (x'.toNat : Int) ++ 93 :: s' := by simpa using e
    obtain ⟨q1, q2⟩ := num_cut (octet_num x).1 (octet_num x').1 (noNum_of n93 _) (noNum_of n93 _) e2
    exact ⟨by rw [octet_inj q1], by simpa using q2⟩
  | [x], _, [x', y'], _, e =>
    rw [cby1, cby2] at e
    have e2 : figs (x.toNat : Int) ++ 93 :: s = figs (x'.toNat : Int) ++ 32 :: (figs (y'.toNat : Int) ++ 93 :: s') := by simpa using e
    obtain ⟨q1, q2⟩ := num_cut (octet_num x).1 (octet_num x').1 (noNum_of n93 _) (noNum_of n32 _) e2
    simp at q2
  | [x, y], _, [x'], _, e =>
    rw [cby1, cby2] at e
    have e2 : figs (x.toNat : Int) ++ 32 :: (figs (y.toNat : Int) ++ 93 :: s) = figs (x'.toNat : Int) ++ 93 :: s' := by simpa using e
    obtain ⟨q1, q2⟩ := num_cut (octet_num x).1 (octet_num x').1 (noNum_of n32 _) (noNum_of n93 _) e2
    simp at q2
  | [x, y], _, [x', y'], _, e =>
    rw [cby2, cby2] at e
    have e2 : figs (x.toNat : Int) ++ 32 :: (figs (y.toNat : Int) ++ 93 :: s) = figs (x'.toNat : Int) ++ 32 :: (figs (y'.toNat : Int) ++ 93 :: s') := by simpa using e
    obtain ⟨q1, q2⟩ := num_cut (octet_num x).1 (octet_num x').1 (noNum_of n32 _) (noNum_of n32 _) e2
    have e3 : figs (y.toNat : Int) ++ 93 :: s = figs (y'.toNat : Int) ++ 93 :: s' := by simpa using q2
    obtain ⟨q3, q4⟩ := num_cut (octet_num y).1 (octet_num y').1 (noNum_of n93 _) (noNum_of n93 _) e3
    exact ⟨by rw [octet_inj q1, octet_inj q3], by simpa using q4⟩
  | _ :: _ :: _ :: _, h, _, _, _ => simp at h
  | _, _, _ :: _ :: _ :: _, h, _ => simp at h
theorem cby_inj : ∀ (b b' : Array UInt8) (s s' : List Nat), b.size ≤ 2 → b'.size ≤ 2 → cby b ++ s = cby b' ++ s' → b = b' ∧ s = s' := by_inj cby cby0 cby1 cby2
/-- the constants' texts -/
noncomputable def Pc : Pr where
  nn := tx (Str.ofString "nil")
  tt := tx (Str.ofString "true")
  ff := tx (Str.ofString "false")
  by8 := cby
  st := fun x => tx x
  one := [41]
  kd := fun c => if c = 110 then 0 else if c = 116 then 1 else if c = 102 then 2 else if c = 40 then 4 else if c = 91 then 5 else if c = 115 ∨ c = 97 then 6 else if c = 41 then 7 else 3
theorem Pc_ok : PrOk Pc where
  nn := ⟨110, [105, 108], by decide, rfl⟩
  tt := ⟨116, [114, 117, 101], by decide, rfl⟩
  ff := ⟨102, [97, 108, 115, 101], by decide, rfl⟩
  int := fun c h => by
    have h2 : c ≠ 110 ∧ c ≠ 116 ∧ c ≠ 102 ∧ c ≠ 40 ∧ c ≠ 91 ∧ c ≠ 115 ∧ c ≠ 97 ∧ c ≠ 41 := by omega
    simp [Pc, h2]
  tup := rfl
  byK := fun b => ⟨91, tx (Str.join (Str.ofString " ") (octets b) ++ Str.ofString "]"), by
    show tx (Str.ofString "[" ++ Str.join (Str.ofString " ") (octets b) ++ Str.ofString "]") = _
    rw [tx_app, tx_app, tx_app, show tx (Str.ofString "[") = [91] from by decide]
    rfl, rfl⟩
  stK := fun x h => by
    rcases cw_two h with rfl | rfl
    · exact ⟨115, [116, 114, 117, 99, 116], by decide, rfl⟩
    · exact ⟨97, [114, 114, 97, 121], by decide, rfl⟩
  cl := rfl
  byI := cby_inj
  stI := fun x x' s s' h h' e => two_inj (f := fun x => tx x) (a := [115, 116, 114, 117, 99, 116]) (b := [97, 114, 114, 97, 121]) (by decide) (by decide) (fun _ _ q => by simp at q) h h' e
  one := .inl rfl
theorem ctext_out : ∀ (n : Nat) (d : Dat), cvOk n d = true → tx (ctext n d) = out Pc n d := by
  intro n
  induction n with
  | zero =>
    intro d h
    cases d with
    | none => rfl
    | bool b => cases b <;> rfl
    | int i => rfl
    | bytes b => rfl
    | _ => simp [cvOk] at h
  | succ n ih =>
    intro d h
    cases d with
    | none => rfl
    | bool b => cases b <;> rfl
    | int i => rfl
    | bytes b => rfl
    | tuple ds =>
      have hd : ds.length ≤ 2 ∧ ∀ d ∈ ds, cokF (cvOk n) d = true := by simpa [cvOk] using h
      have he : ∀ d ∈ ds, tx (celt (ctext n) d) = pelt Pc (out Pc n) d := fun d hm => by
        have hc := hd.2 d hm
        cases d with
        | str x => rfl
        | _ => exact ih _ hc
      show tx (Str.ofString "(" ++ Str.join (Str.ofString ", ") (ds.map (celt (ctext n))) ++ Str.ofString ")") = 40 :: tupl Pc (ds.map (pelt Pc (out Pc n)))
      rw [tx_app, tx_app, show tx (Str.ofString "(") = [40] from by decide, show tx (Str.ofString ")") = [41] from by decide]
      match ds, hd, he with
      | [], _, _ => rfl
      | [x], _, he =>
        have e1 := he x (.head _)
        show [40] ++ tx (celt (ctext n) x) ++ [41] = 40 :: (pelt Pc (out Pc n) x ++ [41])
        rw [e1]; rfl
      | [x, y], _, he =>
        have e1 := he x (.head _)
        have e2 := he y (.tail _ (.head _))
        show [40] ++ tx (celt (ctext n) x ++ Str.ofString ", " ++ celt (ctext n) y) ++ [41] = 40 :: (pelt Pc (out Pc n) x ++ 44 :: 32 :: (pelt Pc (out Pc n) y ++ [41]))
        rw [tx_app, tx_app, e1, e2, show tx (Str.ofString ", ") = [44, 32] from by decide]
        simp
      | _ :: _ :: _ :: _, hd, _ => simp at hd
    | _ => simp [cvOk] at h
end Mine
-- R5
namespace Mine
noncomputable def unhex (a : Nat) : Nat := if a < 60 then a - 48 else a - 87
/-- the first octet told by a bytes' repr, and the rest -/
noncomputable def deco : List Nat → Nat × List Nat
  | [] => (0, [])
  | c :: r => if c = 92 then (match r with
      | [] => (0, [])
      | x :: r2 => if x = 116 then (9, r2) else if x = 110 then (10, r2) else if x = 114 then (13, r2) else if x = 120 then (match r2 with
          | a :: b :: r3 => (16 * unhex a + unhex b, r3)
          | _ => (0, [])) else (x, r2)) else (c, r)
theorem deco_bsh {q c : Nat} (hq : q = 34 ∨ q = 39) (hc : c < 256) (t : List Nat) : deco (bsh q c ++ t) = (c, t) := by
  unfold bsh
  by_cases h1 : (c == q || c == 92) = true
  · rw [if_pos h1]
    have h2 : c = 34 ∨ c = 39 ∨ c = 92 := by
      simp only [Bool.or_eq_true, beq_iff_eq] at h1
      omega
    rcases h2 with rfl | rfl | rfl <;> rfl
  rw [if_neg h1]
  by_cases h2 : (c == 9) = true
  · rw [if_pos h2]
    have : c = 9 := by simpa using h2
    subst this; rfl
  rw [if_neg h2]
  by_cases h3 : (c == 10) = true
  · rw [if_pos h3]
    have : c = 10 := by simpa using h3
    subst this; rfl
  rw [if_neg h3]
  by_cases h4 : (c == 13) = true
  · rw [if_pos h4]
    have : c = 13 := by simpa using h4
    subst this; rfl
  rw [if_neg h4]
  by_cases h5 : (decide (c < 32) || decide (c ≥ 127)) = true
  · rw [if_pos h5]
    have hx : ∀ k, k < 16 → unhex (if k < 10 then 48 + k else 87 + k) = k := fun k hk => by
      unfold unhex
      split
      · rw [if_pos (by omega)]; omega
      · rw [if_neg (by omega)]; omega
    show (16 * unhex (if c / 16 < 10 then 48 + c / 16 else 87 + c / 16) + unhex (if c % 16 < 10 then 48 + c % 16 else 87 + c % 16), t) = (c, t)
    rw [hx _ (by omega), hx _ (by omega)]
    congr 1
    omega
  rw [if_neg h5]
  have h6 : c ≠ 92 := by
    simp only [Bool.or_eq_true, beq_iff_eq, not_or] at h1
    exact h1.2
  show (if c = 92 then _ else (c, t)) = (c, t)
  rw [if_neg h6]
theorem bsh_head (q c : Nat) (hq : q = 34 ∨ q = 39) : ∃ k l, bsh q c = k :: l ∧ k ≠ q := by
  unfold bsh
  by_cases h1 : (c == q || c == 92) = true
  · rw [if_pos h1]; exact ⟨92, _, rfl, by omega⟩
  rw [if_neg h1]
  split
  · exact ⟨92, _, rfl, by omega⟩
  split
  · exact ⟨92, _, rfl, by omega⟩
  split
  · exact ⟨92, _, rfl, by omega⟩
  split
  · exact ⟨92, _, rfl, by omega⟩
  · refine ⟨c, _, rfl, fun e => h1 ?_⟩
    simp [e]
theorem bqu_two (b : Array UInt8) : bqu b = 34 ∨ bqu b = 39 := by
  unfold bqu
  split
  · exact .inl rfl
  · exact .inr rfl
theorem flat_cut {q : Nat} (hq : q = 34 ∨ q = 39) : ∀ {l l' : List UInt8} {s s' : List Nat}, (l.flatMap fun c => bsh q c.toNat) ++ q :: s = (l'.flatMap fun c => bsh q c.toNat) ++ q :: s' → l = l' ∧ s = s'
  | [], [], _, _, e => ⟨rfl, by simpa using e⟩
  | [], c :: l', _, _, e => by
    obtain ⟨k, r, e1, h⟩ := bsh_head q c.toNat hq
    rw [List.flatMap_cons, e1] at e
    have e2 : q = k := by simp at e; exact e.1
    exact absurd e2.symm h
  | c :: l, [], _, _, e => by
    obtain ⟨k, r, e1, h⟩ := bsh_head q c.toNat hq
    rw [List.flatMap_cons, e1] at e
    have e2 : k = q := by simp at e; exact e.1
    exact absurd e2 h
  | c :: l, c' :: l', s, s', e => by
    rw [List.flatMap_cons, List.flatMap_cons, List.append_assoc, List.append_assoc] at e
    have e1 := congrArg deco e
    rw [deco_bsh hq c.toNat_lt, deco_bsh hq c'.toNat_lt] at e1
    injection e1 with e2 e3
    obtain ⟨q1, q2⟩ := flat_cut hq e3
    exact ⟨by rw [q1, UInt8.toNat_inj.mp e2], q2⟩
theorem blit_inj (b b' : Array UInt8) (s s' : List Nat) (e : tx (blit b) ++ s = tx (blit b') ++ s') : b = b' ∧ s = s' := by
  have e1 : ∀ (b : Array UInt8) (s : List Nat), tx (blit b) ++ s = 98 :: bqu b :: ((b.toList.flatMap fun c => bsh (bqu b) c.toNat) ++ bqu b :: s) := fun b s => by
    show (blit b).cps.toList ++ s = _
    rw [blit_eq]
    simp
  rw [e1, e1] at e
  have e2 := (List.cons.inj e).2
  have e3 := (List.cons.inj e2).1
  have e4 := (List.cons.inj e2).2
  rw [e3] at e4
  obtain ⟨q1, q2⟩ := flat_cut (bqu_two b') e4
  exact ⟨by rw [← Array.toArray_toList (xs := b), q1], q2⟩
/-- the constants' reprs -/
noncomputable def Pq : Pr where
  nn := tx (Str.ofString "None")
  tt := tx (Str.ofString "True")
  ff := tx (Str.ofString "False")
  by8 := fun b => tx (blit b)
  st := fun x => tx (reprText x)
  one := [44, 41]
  kd := fun c => if c = 78 then 0 else if c = 84 then 1 else if c = 70 then 2 else if c = 40 then 4 else if c = 98 then 5 else if c = 39 then 6 else if c = 41 then 7 else 3
theorem Pq_ok : PrOk Pq where
  nn := ⟨78, [111, 110, 101], by decide, rfl⟩
  tt := ⟨84, [114, 117, 101], by decide, rfl⟩
  ff := ⟨70, [97, 108, 115, 101], by decide, rfl⟩
  int := fun c h => by
    have h2 : c ≠ 78 ∧ c ≠ 84 ∧ c ≠ 70 ∧ c ≠ 40 ∧ c ≠ 98 ∧ c ≠ 39 ∧ c ≠ 41 := by omega
    simp [Pq, h2]
  tup := rfl
  byK := fun b => ⟨98, _, blit_eq b, rfl⟩
  stK := fun x h => by
    rcases cw_two h with rfl | rfl
    · exact ⟨39, [115, 116, 114, 117, 99, 116, 39], by decide +kernel, rfl⟩
    · exact ⟨39, [97, 114, 114, 97, 121, 39], by decide +kernel, rfl⟩
  cl := rfl
  byI := fun b b' s s' _ _ e => blit_inj b b' s s' e
  stI := fun x x' s s' h h' e => two_inj (f := fun x => tx (reprText x)) (a := [39, 115, 116, 114, 117, 99, 116, 39]) (b := [39, 97, 114, 114, 97, 121, 39]) (by decide +kernel) (by decide +kernel) (fun _ _ q => by simp at q) h h' e
  one := .inr rfl
theorem rtext_out : ∀ (n : Nat) (d : Dat), cvOk n d = true → tx (rtext n d) = out Pq n d := by
  intro n
  induction n with
  | zero =>
    intro d h
    cases d with
    | none => rfl
    | bool b => cases b <;> rfl
    | int i => rfl
    | bytes b => rfl
    | _ => simp [cvOk] at h
  | succ n ih =>
    intro d h
    cases d with
    | none => rfl
    | bool b => cases b <;> rfl
    | int i => rfl
    | bytes b => rfl
    | tuple ds =>
      have hd : ds.length ≤ 2 ∧ ∀ d ∈ ds, cokF (cvOk n) d = true := by simpa [cvOk] using h
      have he : ∀ d ∈ ds, tx (relt (rtext n) d) = pelt Pq (out Pq n) d := fun d hm => by
        have hc := hd.2 d hm
        cases d with
        | str x => rfl
        | _ => exact ih _ hc
      have et : ∀ xs : List Str, tx (tupleText xs) = 40 :: (tx (Str.join (Str.ofString ", ") xs) ++ if xs.length == 1 then [44, 41] else [41]) := fun xs => by
        show tx (Str.ofString "(" ++ Str.join (Str.ofString ", ") xs ++ Str.ofString (if xs.length == 1 then ",)" else ")")) = _
        rw [tx_app, tx_app, show tx (Str.ofString "(") = [40] from by decide]
        split
        · rw [show tx (Str.ofString ",)") = [44, 41] from by decide]; rfl
        · rw [show tx (Str.ofString ")") = [41] from by decide]; rfl
      show tx (tupleText (ds.map (relt (rtext n)))) = 40 :: tupl Pq (ds.map (pelt Pq (out Pq n)))
      rw [et]
      match ds, hd, he with
      | [], _, _ => rfl
      | [x], _, he =>
        have e1 := he x (.head _)
        show 40 :: (tx (relt (rtext n) x) ++ [44, 41]) = 40 :: (pelt Pq (out Pq n) x ++ [44, 41])
        rw [e1]
      | [x, y], _, he =>
        have e1 := he x (.head _)
        have e2 := he y (.tail _ (.head _))
        show 40 :: (tx (relt (rtext n) x ++ Str.ofString ", " ++ relt (rtext n) y) ++ [41]) = 40 :: (pelt Pq (out Pq n) x ++ 44 :: 32 :: (pelt Pq (out Pq n) y ++ [41]))
        rw [tx_app, tx_app, e1, e2, show tx (Str.ofString ", ") = [44, 32] from by decide]
        simp
      | _ :: _ :: _ :: _, hd, _ => simp at hd
    | _ => simp [cvOk] at h
theorem tx_inj {x y : Str} (e : tx x = tx y) : x = y := Str.ext' (Array.toList_inj.mp e)
/-- two constants have like reprs just where they have like texts -/
theorem const_same {d d' : Dat} (h : cvOk 4 d = true) (h' : cvOk 4 d' = true) : (rtext 4 d == rtext 4 d') = (ctext 4 d == ctext 4 d') := by
  by_cases q : d = d'
  · subst q; simp
  · have n1 : rtext 4 d ≠ rtext 4 d' := fun e => q (out_inj Pq_ok 4 h h' (by rw [← rtext_out 4 d h, ← rtext_out 4 d' h', e]))
    have n2 : ctext 4 d ≠ ctext 4 d' := fun e => q (out_inj Pc_ok 4 h h' (by rw [← ctext_out 4 d h, ← ctext_out 4 d' h', e]))
    have e1 : (rtext 4 d == rtext 4 d') = false := by simpa using n1
    have e2 : (ctext 4 d == ctext 4 d') = false := by simpa using n2
    rw [e1, e2]
end Mine
-- R6
namespace Mine
theorem words29 : True := by
  k_with_none
  (k_with "base k_mem" => first | exact Mine.memAt 0 rfl | exact Mine.memAt 1 rfl | exact Mine.memAt 2 rfl | exact Mine.memAt 3 rfl | exact Mine.memAt 4 rfl | exact Mine.memAt 5 rfl | exact Mine.memAt 6 rfl | exact Mine.memAt 7 rfl | (refine Mine.memSkip 8 rfl ?_; k_mem))
  (k_with "base k_all" => first | exact Mine.allNe (by with_reducible assumption) | with_reducible assumption | exact List.forall_mem_nil _ | (with_reducible refine' Mine.allApp ?a ?b; (case a => k_all); (case b => k_all)) | (refine' List.forall_mem_cons.mpr ⟨?a, ?b⟩; (case a => k_ne); (case b => k_all)) | assumption)
  (k_with "base k_ne" => first | with_reducible assumption | (refine Mine.ne_hi ?_; exact Mine.lt_mem (by with_reducible assumption) (by k_mem)) | exact Mine.neAt (by with_reducible assumption) (by k_mem) | exact Mine.neAt' (by with_reducible assumption) (by k_mem) | (refine Mine.ne_hi ?_; with_reducible first | assumption | exact Mine.pj0 (by assumption) | exact Mine.pj1 (by assumption) | exact Mine.pl1 (by assumption) | exact Mine.pj2 (by assumption) | exact Mine.pl2 (by assumption) | exact Mine.pj3 (by assumption) | exact Mine.pl3 (by assumption) | exact Mine.pj4 (by assumption) | exact Mine.pl4 (by assumption) | exact Mine.pj5 (by assumption) | exact Mine.pl5 (by assumption) | exact Mine.pj6 (by assumption) | exact Mine.pl6 (by assumption) | exact Mine.pj7 (by assumption) | exact Mine.pl7 (by assumption) | exact Mine.pj8 (by assumption) | exact Mine.pj9 (by assumption) | exact Mine.pj10 (by assumption) | exact Mine.pj11 (by assumption) | exact Mine.pj12 (by assumption) | exact Mine.pj13 (by assumption) | exact Mine.pj14 (by assumption)) | exact Ne.symm (by with_reducible assumption) | exact Ne.symm (by assumption) | (refine neN ?_; (try dsimp only); omega))
  (k_with "base k_steps" => (try ((fail_if_success (fail_if_success k_fold)); refine (let Q9z : _ → Shared → Prop := _; (?_ : wpAny _ _ _ Q9z _ _)))); (try ((fail_if_success (fail_if_success (conv in (Shared.mk _ _ _ _ _) => skip))); refine (let s9z : Shared := _; (?_ : wpAny _ _ _ _ _ s9z)))); (try ((with_reducible rename News _ _ _ (List.cons _ _) => N9z); refine (let NW9z : List (Addr × Obj) := _; have N8z : News _ _ _ (Mine.Fold NW9z) := N9z; ?_); clear N9z)); (try ((with_reducible rename Fr _ _ _ (fun _ => ite _ _ _) => F9z); refine (let FM9z : Str → Option Value := _; have F8z : Fr _ _ _ (Mine.Fold FM9z) := F9z; ?_); clear F9z)); repeat' (first | ((fail_if_success (fail_if_success k_unfold)); refine (?_ : wpAny _ _ _ _ _ _); (try ((fail_if_success (fail_if_success k_fold)); refine (let Q9z : _ → Shared → Prop := _; (?_ : wpAny _ _ _ Q9z _ _)))); (try ((fail_if_success (fail_if_success (conv in (Shared.mk _ _ _ _ _) => skip))); refine (let s9z : Shared := _; (?_ : wpAny _ _ _ _ _ s9z))))) | (k_unfold; (try dsimp only)) | (k_end; wrow_close) | ((first | walk1 | (dsimp only; walk1)); (try ((fail_if_success (fail_if_success k_fold)); refine (let Q9z : _ → Shared → Prop := _; (?_ : wpAny _ _ _ Q9z _ _)))); (try ((fail_if_success (fail_if_success (conv in (Shared.mk _ _ _ _ _) => skip))); refine (let s9z : Shared := _; (?_ : wpAny _ _ _ _ _ s9z)))); (try ((with_reducible rename News _ _ _ (List.cons _ _) => N9z); refine (let NW9z : List (Addr × Obj) := _; have N8z : News _ _ _ (Mine.Fold NW9z) := N9z; ?_); clear N9z)); (try ((with_reducible rename Fr _ _ _ (fun _ => ite _ _ _) => F9z); refine (let FM9z : Str → Option Value := _; have F8z : Fr _ _ _ (Mine.Fold FM9z) := F9z; ?_); clear F9z))) | (leave1; walk_say "STEP leave1"; try dsimp only) | fail "no step"))
  (k_with "mine keep" => (intros; repeat (first | rfl | refine (if_neg (by assumption)).trans ?_)))
  (k_with "mine env" => refine (let ev9 : Env := _; let A9 : Around := _; (?_ : wpAny _ A9 (execs _ ev9) _ _ _)))
  (k_with "mine units" => (first | assumption | exact room (j := 1) (by assumption) rfl rfl | exact room (j := 3) (by assumption) rfl rfl | exact room (j := 2) (by assumption) rfl rfl | exact room (j := 4) (by assumption) rfl rfl | exact room (j := 5) (by assumption) rfl rfl | exact room (j := 0) (by assumption) rfl rfl | exact roomj (j := 3) (by assumption) rfl rfl | exact roomj (j := 1) (by assumption) rfl rfl | omega | (dsimp +zetaDelta only [Around.deeper, Ar, Around.in1, Around.mark]; omega)))
  (k_with "call type:range" => (k_here; k_dflt ((with_reducible show wpAny _ _ (PySem.call _ [Value.int _ _]) _ _ _); refine' T_range ?F9w ?N9w ?_; (case F9w => k_asm); (case N9w => k_asm); k_whole; intro h9w228' q9w228' tk9w228' t19w228' t29w228' F9w228' N9w228' r9w228' l19w228 b9w228'; (try k_lt l19w228); (try k_sweep))))
  (k_with "eval ListComp" => (k_here; k_dflt (refine' comp_KT ?tag9w ?hclos9w ?hcell9w ?hkind9w ?hnames9w ?hx9w ?F9w ?_ ?hs9w; (case tag9w => with_reducible assumption); (case hclos9w => with_unfolding_all rfl); (case hcell9w => decide); (case hkind9w => with_unfolding_all rfl); (case hnames9w => decide); (case hx9w => with_unfolding_all rfl); (case F9w => k_asm); (case hs9w => intro _; with_unfolding_all rfl))))
  (k_with "mine sum" => (first | exact Nat.le_of_ble_eq_true rfl | omega | ((simp only [List.length_cons, List.length_nil, List.length_append]); omega)))
  (k_with "binaryOp Add ref ref" => (k_here; k_dflt ((with_reducible show wpAny _ _ (binaryOp _ (Value.ref _) (Value.ref _)) _ _ _); refine' T_addLL ?F9w ?N9w ?a9w ?b9w ?z9w ?_; (case F9w => k_asm); (case N9w => k_asm); (case a9w => k_mem); (case b9w => k_mem); (case z9w => walk_at "mine sum"); intro D9w231' h9w231' F9w231' N9w231' l19w231; (try dsimp only [List.cons_append, List.nil_append] at N9w231'); (try k_lt l19w231); (try k_sweep))))
  (k_with "newTuple" => (k_here; k_dflt (refine' newTupleM ?F9w ?N9w ?z9w ?_; (case F9w => k_asm); (case N9w => k_asm); (case z9w => exact Nat.le_of_ble_eq_true rfl)); intro D9w232' h9w232' NW99w232 s9w232' F9w232' N9w232' l19w232; (try k_sweep)))
  (k_with "newList" => (k_here; k_dflt (refine' newListM ?F9w ?N9w ?z9w ?_; (case F9w => k_asm); (case N9w => k_asm); (case z9w => exact Nat.le_of_ble_eq_true rfl)); intro D9w233' h9w233' NW99w233 s9w233' F9w233' N9w233' l19w233; (try k_sweep)))
  (k_with "spliced" => (k_here; k_dflt (refine' argsM ?a9w ?F9w ?e9w ?_; (case F9w => k_asm); (case a9w => rfl); (case e9w => rfl)); intro s9w234'))
  (k_with "eval Tuple" => (k_here; k_dflt (refine' tupM ?a9w ?F9w ?e9w ?N9w ?z9w ?_; (case F9w => k_asm); (case a9w => rfl); (case e9w => rfl); (case N9w => k_asm); (case z9w => exact Nat.le_of_ble_eq_true rfl)); intro D9w235' h9w235' NW99w235 s9w235' F9w235' N9w235' l19w235; (try k_sweep)))
  (k_with "eval Constant str" => (refine constStrM ?_; intro s9w236'))
  (k_with "eval Constant int" => (refine constIntM ?_; intro s9w237'))
  (k_with "eval Name" => (k_here; k_dflt (first | ((with_reducible show wpAny _ _ (PySem.eval _ (compEnvC _ _ _ _)) _ _ _); first | (refine' nm_comp ?n9w ?m9w ?_ ?k9w ?l9w ?d9w; (case k9w => with_unfolding_all rfl); (case l9w => with_unfolding_all rfl); (case n9w => assumption); (case m9w => assumption); (case d9w => decide)) | (refine' nm_compC ?N9w ?c9w ?m9w ?d9w ?_ ?k9w ?l9w ?e9w; (case k9w => with_unfolding_all rfl); (case l9w => with_unfolding_all rfl); (case N9w => k_asm); (case c9w => with_unfolding_all rfl); (case m9w => k_mem); (case d9w => k_asm); (case e9w => decide))) | ((fail_if_success (with_reducible show wpAny _ _ (PySem.eval _ (compEnvC _ _ _ _)) _ _ _)); first | (refine' nameS ?a9w ?e9w ?F9w ?_; (case F9w => k_asm); (case a9w => rfl); (case e9w => rfl)) | (refine' nameK ?a9w ?g9w ?F9w ?X9w ?T9w ?e9w ?_; (case a9w => rfl); (case g9w => rfl); (case F9w => k_asm); (case X9w => k_asm); (case T9w => k_asm); (case e9w => k_is); k_whole) | (refine' nameB ?a9w ?g9w ?F9w ?X9w ?T9w ?e9w ?v9w ?n9w ?_; (case a9w => rfl); (case g9w => rfl); (case F9w => k_asm); (case X9w => k_asm); (case T9w => k_asm); (case e9w => k_is); (case v9w => boot_fast); (case n9w => decide); k_whole)))))
  (k_with "storeName" => (k_here; k_dflt (refine' storeM ?a9w ?b9w ?F9w ?N9w ?_; (case a9w => rfl); (case b9w => rfl); (case F9w => k_asm); (case N9w => k_asm)); intro h9w239' FM99w239 s9w239' F9w239' N9w239'; (try k_sweep)))
  (k_with "exec For Name Name cons nil" => (k_here; k_dflt ((with_reducible show wpAny _ _ (PySem.exec (PySem.Stmt.For (PySem.Expr.Name _ _) _ _ [] _) _) _ _ _); refine' for_K rfl ?hx9w ?hp9w ?F9w ?_ ?hs9w; (case hx9w => rfl); (case hp9w => rfl); (case F9w => k_asm); (case hs9w => intro _; with_unfolding_all rfl))))
  trivial
/-- a turn of a loop that keeps the ledger -/
noncomputable def EachEnd (h₀ : Heap) (L : Addr) (x o : Str) (m₀ : Str → Option Value) (keep : List (Addr × Obj)) (s₁ : Shared) (Q : Flow → Shared → Prop) (f : Flow) (s₂ : Shared) : Prop :=
  match f with
  | .ret v => Q (.ret v) s₂
  | .brk => Q .next s₂
  | _ => ∃ h' tk' m', s₂ = { s₁ with heap := h', toks := tk' } ∧ Fr h₀ L h' m' ∧ News h₀ L h' keep ∧ (∀ y, y ≠ x → y ≠ o → m' y = m₀ y)
theorem EachEnd.intro {h₀ : Heap} {L : Addr} {x o : Str} {m₀ : Str → Option Value} {keep news' : List (Addr × Obj)} {s₁ : Shared} {Q : Flow → Shared → Prop} {h' : Heap} {tk' : Nat} {m' : Str → Option Value}
    (F : Fr h₀ L h' m') (N : News h₀ L h' news') (hk : ∀ p ∈ keep, p ∈ news') (hv : ∀ y, y ≠ x → y ≠ o → m' y = m₀ y) : EachEnd h₀ L x o m₀ keep s₁ Q .next { s₁ with heap := h', toks := tk' } := ⟨h', tk', m', rfl, F, fun p hp => N p (hk p hp), hv⟩
section
variable {prog : Program} {w : World} {A : Around} {E : Value → Shared → Prop} {env : Env}
theorem ForP.each {x : Str} {body : List Stmt} {Q : Flow → Shared → Prop} {h₀ : Heap} {L : Addr} {xv : Value} {s₁ : Shared} {n : Nat} {P : Nat → Value → Prop} {base : List Addr} {m₀ : Str → Option Value} {news : List (Addr × Obj)} (o : Str)
    (it : IterOk prog w A xv n P base s₁) (hLb : L ∉ base) (F : Fr h₀ L s₁.heap m₀) (N : News h₀ L s₁.heap news)
    (turn : ∀ i v own (u : Option Value) s₃ E', i < n → P i v → Fr h₀ L s₃.heap (fun y => if y = x then some v else if y = o then u else m₀ y) → News h₀ L s₃.heap (news ++ own) →
      wpAny (model prog w) A (execs body env) (EachEnd h₀ L x o m₀ (news ++ own) s₃ Q) E' s₃)
    (done : ∀ (ux uo : Option Value) h tk, Fr h₀ L h (fun y => if y = x then ux else if y = o then uo else m₀ y) → News h₀ L h news → Q .next { s₁ with heap := h, toks := tk }) :
    ForP prog w A env x body h₀ L Q xv s₁ := by
  have e0 : m₀ = fun y => if y = x then m₀ x else if y = o then m₀ o else m₀ y := by
    funext y
    split
    · rename_i q; rw [q]
    split
    · rename_i q; rw [q]
    · rfl
  have e1 : ∀ (ux uo : Option Value) (v : Value), (fun y => if y = x then some v else if y = x then ux else if y = o then uo else m₀ y) = fun y => if y = x then some v else if y = o then uo else m₀ y := by intro ux uo v; funext y; by_cases h : y = x <;> simp [h]
  refine ⟨n, P, base, m₀, _, fun i m nw => ∃ ux uo : Option Value, m = (fun y => if y = x then ux else if y = o then uo else m₀ y) ∧ nw = news, it, hLb, F, N, ⟨_, _, e0, rfl⟩, ?_, ?_, ?_⟩
  · rintro i m nw ⟨ux, uo, _, rfl⟩ p hp
    exact Heap.lt_size (N p hp).1
  · rintro i v m₁ news₁ own s₃ E' hi hP ⟨ux, uo, rfl, rfl⟩ hown F₃ N₃ hs
    rw [e1] at F₃
    refine wpAny_mono (turn i v own uo s₃ E' hi hP F₃ N₃) (fun f s₄ h₄ => ?_) fun _ _ e => e
    have fin : (∃ h' tk' m', s₄ = { s₃ with heap := h', toks := tk' } ∧ Fr h₀ L h' m' ∧ News h₀ L h' (news₁ ++ own) ∧ (∀ y, y ≠ x → y ≠ o → m' y = m₀ y)) →
        ∃ h' tk' m' news', s₄ = { s₃ with heap := h', toks := tk' } ∧ Fr h₀ L h' m' ∧ News h₀ L h' (news' ++ own) ∧ ∃ ux uo : Option Value, m' = (fun y => if y = x then ux else if y = o then uo else m₀ y) ∧ news' = news₁ := by
      rintro ⟨h', tk', m', e, F', N', hv⟩
      refine ⟨h', tk', m', news₁, e, F', N', m' x, m' o, ?_, rfl⟩
      funext y
      split
      · rename_i q; rw [q]
      split
      · rename_i q; rw [q]
      · rename_i q1 q2; exact hv y q1 q2
    cases f with
    | ret v => exact h₄
    | brk => exact h₄
    | next => exact fin h₄
    | cont => exact fin h₄
  · rintro m₁ news₁ h tk ⟨ux, uo, rfl, rfl⟩ F' N'
    exact done ux uo h tk F' N'
end
/-- a datum that stands on a ledger -/
noncomputable def RdF (g : Heap) (tl : List (Addr × Obj)) (v : Value) (d : Dat) : Prop := ∀ h', Keeps g tl h' → Rd h' v d
section
variable {w : World} {A : Around} {E : Value → Shared → Prop} {s : Shared} {H h₀ : Heap} {L : Addr} {m : Str → Option Value} {news tl : List (Addr × Obj)} {v : Value} {d : Dat} {Q : Value → Shared → Prop}
theorem RdF.now (r : RdF h₀ tl v d) (F : Fr h₀ L s.heap m) (N : News h₀ L s.heap news) (ht : ∀ p ∈ tl, p ∈ news) : Rd s.heap v d := r _ (Keeps.of F N ht)
theorem T_reprD {prog : Program} (F : Fr h₀ L s.heap m) (N : News h₀ L s.heap news) (r : RdF h₀ tl v d) (ht : ∀ p ∈ tl, p ∈ news) (hc : cvOk 4 d = true) (hg : A.guards = some []) (hu : A.units + 8 < cLine)
    (k : ∀ h' t k, Fr h₀ L h' m → News h₀ L h' news → But [] s.heap h' → Q (.str (rtext 4 d) t) { s with heap := h', toks := k }) : wpAny (model prog w) A (call (.builtin "repr") [v]) Q E s := T_repr F N (r.now F N ht) hc hg hu k
theorem T_ctD (S : CtS w H 4 d) (hst : H.StaysIn h₀) (F : Fr h₀ L s.heap m) (N : News h₀ L s.heap news) (r : RdF h₀ tl v d) (ht : ∀ p ∈ tl, p ∈ news) (hh : A.handled = none) (hg : A.guards = some []) (hd : A.depth + 20 < recursionLimit) (hu : A.units + 80 < cLine)
    (k : ∀ h' t k, Fr h₀ L h' m → News h₀ L h' news → But [] s.heap h' → Q (.str (ctext 4 d) t) { s with heap := h', toks := k }) : wpAny (model PySem.Challenge.rw_on0012_01.row.prog w) A (call (.ref 104) [v]) Q E s :=
  call_sp S F N hst hh hg hd hu ⟨_, rfl, r.now F N ht⟩ (fun _ _ p => p.2) fun r' h' tk' F' N' b p => by
    obtain ⟨⟨t, rfl⟩, _⟩ := p
    exact k h' t tk' F' N' b
theorem T_bne {prog : Program} {a b : Bool} (e : a = b) (h : Q (.bool false) s) : wpAny (model prog w) A (compareOp .NotEq (.bool a) (.bool b)) Q E s := by
  subst e
  refine ne_bool ?_
  simpa using h
end
/-- the thirteen constants -/
noncomputable def litD : List Dat := [.bool true, .int 1, .none, .bytes #[], .tuple [.str (Str.ofString "struct"), .tuple []], .tuple [.str (Str.ofString "array"), .tuple []], .bytes #[1], .int (-1)]
theorem litD_ok : ∀ d ∈ litD, cvOk 4 d = true := by decide +kernel
theorem all_read {g h : Heap} {L D' l' t1 e1 t2 e2 : Addr} {k1 : Nat} {ob : Obj} {ys : List Value} {ds : List Dat} {tl0 tl : List (Addr × Obj)} {u1 u2 u3 u4 u5 u6 : Tok} (hds : ∀ h' : Heap, (∀ b o, g.get? b = some o → h'.get? b = some o) → (∀ p ∈ tl, h'.get? p.1 = some p.2) → RdA h' ys ds)
    (N : News g L h ((D', listOf (ys ++ ([.bool true, .int 1 u1, .none, .bytes #[] u2, .ref t1, .ref t2, .bytes #[1] u3, .int (-1) u4] : List Value)).toArray k1) :: (l', ob) :: (t2, tupO [.str (Str.ofString "array") u6, .ref e2] 0) :: (e2, tupO [] 0) :: (t1, tupO [.str (Str.ofString "struct") u5, .ref e1] 0) :: (e1, tupO [] 0) :: (tl0 ++ tl))) :
    ∀ h', Keeps g ((D', listOf (ys ++ ([.bool true, .int 1 u1, .none, .bytes #[] u2, .ref t1, .ref t2, .bytes #[1] u3, .int (-1) u4] : List Value)).toArray k1) :: (l', ob) :: (t2, tupO [.str (Str.ofString "array") u6, .ref e2] 0) :: (e2, tupO [] 0) :: (t1, tupO [.str (Str.ofString "struct") u5, .ref e1] 0) :: (e1, tupO [] 0) :: (tl0 ++ tl)) h' →
      RdA h' (ys ++ [Value.bool true, .int 1 u1, .none, .bytes #[] u2, .ref t1, .ref t2, .bytes #[1] u3, .int (-1) u4]) (ds ++ litD) := by
  intro h' q
  have q0 := hds h' q.1 fun p hp => q.2 p (by simp [hp])
  have a1 : h'.get? t1 = some (tupO [.str (Str.ofString "struct") u5, .ref e1] 0) := q.2 (t1, _) (by simp)
  have a2 : h'.get? t2 = some (tupO [.str (Str.ofString "array") u6, .ref e2] 0) := q.2 (t2, _) (by simp)
  have b1 : h'.get? e1 = some (tupO [] 0) := q.2 (e1, _) (by simp)
  have b2 : h'.get? e2 = some (tupO [] 0) := q.2 (e2, _) (by simp)
  have app : ∀ {vs vs' : List Value} {ds ds' : List Dat}, RdA h' vs ds → RdA h' vs' ds' → RdA h' (vs ++ vs') (ds ++ ds') := by
    intro vs
    induction vs with
    | nil => intro vs' ds ds' r r'; cases r; exact r'
    | cons v vs ih => intro vs' ds ds' r r'; cases r with | cons x y => exact .cons x (ih y r')
  refine app q0 (.cons (.bool _) (.cons (.int _ _) (.cons .none (.cons (.bytes _ _) (.cons ?_ (.cons ?_ (.cons (.bytes _ _) (.cons (.int _ _) .nil))))))))
  · exact .tuple a1 (by simp) (.cons (.str _ _) (.cons (.tuple b1 (by simp) .nil) .nil))
  · exact .tuple a2 (by simp) (.cons (.str _ _) (.cons (.tuple b2 (by simp) .nil) .nil))
theorem pack {g h : Heap} {L D' l' t1 e1 t2 e2 a1 a2 src : Addr} {k1 : Nat} {ob o1 o2 o3 : Obj} {ys : List Value} {ds : List Dat} {tl : List (Addr × Obj)} {u1 u2 u3 u4 u5 u6 : Tok} (hds : ∀ h' : Heap, (∀ b o, g.get? b = some o → h'.get? b = some o) → (∀ p ∈ tl, h'.get? p.1 = some p.2) → RdA h' ys ds)
    (N : News g L h ((D', listOf (ys ++ ([.bool true, .int 1 u1, .none, .bytes #[] u2, .ref t1, .ref t2, .bytes #[1] u3, .int (-1) u4] : List Value)).toArray k1) :: (l', ob) :: (t2, tupO [.str (Str.ofString "array") u6, .ref e2] 0) :: (e2, tupO [] 0) :: (t1, tupO [.str (Str.ofString "struct") u5, .ref e1] 0) :: (e1, tupO [] 0) :: (a1, o1) :: (a2, o2) :: (src, o3) :: tl)) :
    ∃ (NW : List (Addr × Obj)) (VS : List Value) (k : Nat), News g L h NW ∧ (D', listOf VS.toArray k) ∈ NW ∧ (src, o3) ∈ NW ∧ VS.length = ys.length + 8 ∧ ∀ h', Keeps g NW h' → RdA h' VS (ds ++ litD) :=
  ⟨_, _, _, N, .head _, by simp, by simp, all_read (tl0 := [(a1, o1), (a2, o2), (src, o3)]) hds N⟩
section
variable {w : World} {mean : ExcName → Option Value} {mg mb : Str → Option Value} {A : Around} {E : Value → Shared → Prop} {s : Shared} {H h₀ : Heap} {L a a2 : Addr} {m : Str → Option Value} {news : List (Addr × Obj)} {u1 u2 u3 u4 : Tok} {Q : Value → Shared → Prop}
theorem T_op7 (B : Bs w mean mg mb H) (hst : H.StaysIn h₀) (F : Fr h₀ L s.heap m) (N : News h₀ L s.heap news) (m1 : (a, tupO [.str (Str.ofString "reg") u1, .int 7 u2] 0) ∈ news) (hh : A.handled = none) (hg : A.guards = some []) (hd : A.depth + 24 < recursionLimit) (hu : A.units + 100 < cLine)
    (k : ∀ h' t k, Fr h₀ L h' m → News h₀ L h' news → Q (.str (Str.ofString "r7") t) { s with heap := h', toks := k }) : wpAny (model PySem.Challenge.rw_on0012_01.row.prog w) A (call (.ref 111) [.ref a]) Q E s := by
  refine call_sp (operand_text_spec B _ (.reg 7 (by decide) (by decide))) F N hst hh hg hd hu ⟨_, rfl, .tuple (N _ m1).1 (by simp) (.cons (.str _ _) (.cons (.int _ _) .nil))⟩ (fun _ _ p => p.2) fun r' h' tk' F' N' b p => ?_
  obtain ⟨⟨t, rfl⟩, _⟩ := p
  have e : opText (.tuple [.str (Str.ofString "reg"), .int 7]) = Str.ofString "r7" := by decide +kernel
  rw [e]
  exact k h' t tk' F' N'
theorem T_op3 (B : Bs w mean mg mb H) (hst : H.StaysIn h₀) (F : Fr h₀ L s.heap m) (N : News h₀ L s.heap news) (m1 : (a, tupO [.str (Str.ofString "const") u1, .ref a2, .int (-3) u2] 0) ∈ news) (m2 : (a2, tupO [.str (Str.ofString "int") u3, .str (Str.ofString "int8") u4] 0) ∈ news) (hh : A.handled = none) (hg : A.guards = some []) (hd : A.depth + 24 < recursionLimit) (hu : A.units + 100 < cLine)
    (k : ∀ h' t k, Fr h₀ L h' m → News h₀ L h' news → Q (.str (Str.ofString "-3: int8") t) { s with heap := h', toks := k }) : wpAny (model PySem.Challenge.rw_on0012_01.row.prog w) A (call (.ref 111) [.ref a]) Q E s := by
  refine call_sp (operand_text_spec B _ (.const (.tuple [.str (Str.ofString "int"), .str (Str.ofString "int8")]) (.int (-3)) (by simp [kinds, dInt8]) (by decide))) F N hst hh hg hd hu ⟨_, rfl, .tuple (N _ m1).1 (by simp) (.cons (.str _ _) (.cons (.tuple (N _ m2).1 (by simp) (.cons (.str _ _) (.cons (.str _ _) .nil))) (.cons (.int _ _) .nil)))⟩ (fun _ _ p => p.2) fun r' h' tk' F' N' b p => ?_
  obtain ⟨⟨t, rfl⟩, _⟩ := p
  have e : opText (.tuple [.str (Str.ofString "const"), .tuple [.str (Str.ofString "int"), .str (Str.ofString "int8")], .int (-3)]) = Str.ofString "-3: int8" := by decide +kernel
  rw [e]
  exact k h' t tk' F' N'
end
theorem words30 : True := by
  (k_with "call ref" => (k_here; (with_reducible show wpAny _ _ (PySem.call (Value.ref 111) _) _ _ _); k_dflt (refine' T_op7 ?B9w ?st9w ?F9w ?N9w ?m9w ?hh9w ?g9w ?d9w ?u9w ?_; (case B9w => assumption); (case st9w => assumption); (case F9w => k_asm); (case N9w => k_asm); (case m9w => k_mem); (case hh9w => rfl); (case g9w => rfl); (case d9w => walk_at "mine units"); (case u9w => walk_at "mine units"); intro h9w241' t9w241' k9w241' F9w241' N9w241'; (try k_sweep))))
  (k_with "call ref" => (k_here; (with_reducible show wpAny _ _ (PySem.call (Value.ref 111) _) _ _ _); k_dflt (refine' T_op3 ?B9w ?st9w ?F9w ?N9w ?m9w ?m29w ?hh9w ?g9w ?d9w ?u9w ?_; (case B9w => assumption); (case st9w => assumption); (case F9w => k_asm); (case N9w => k_asm); (case m9w => k_mem); (case m29w => k_mem); (case hh9w => rfl); (case g9w => rfl); (case d9w => walk_at "mine units"); (case u9w => walk_at "mine units"); intro h9w242' t9w242' k9w242' F9w242' N9w242'; (try k_sweep))))
  (k_with "mine sub" => (first | exact fun _ h => h | (intro p9w243 hp9w243; simp only [List.mem_cons, List.mem_append, hp9w243, true_or, or_true])))
  (k_with "call builtin:repr" => (k_here; k_dflt (refine' T_reprD ?F9w ?N9w ?r9w ?t9w ?c9w ?g9w ?u9w ?_; (case F9w => k_asm); (case N9w => k_asm); (case r9w => with_reducible assumption); (case t9w => walk_at "mine sub"); (case c9w => with_reducible assumption); (case g9w => rfl); (case u9w => walk_at "mine units"); intro h9w244' t9w244' k9w244' F9w244' N9w244' b9w244'; (try k_sweep))))
  (k_with "call ref" => (k_here; (with_reducible show wpAny _ _ (PySem.call (Value.ref 104) _) _ _ _); k_dflt (refine' T_ctD ?S9w ?st9w ?F9w ?N9w ?r9w ?t9w ?hh9w ?g9w ?d9w ?u9w ?_; (case st9w => with_reducible assumption); (case F9w => k_asm); (case N9w => k_asm); (case r9w => with_reducible assumption); (case S9w => with_reducible assumption); (case t9w => walk_at "mine sub"); (case hh9w => rfl); (case g9w => rfl); (case d9w => walk_at "mine units"); (case u9w => walk_at "mine units"); intro h9w245' t9w245' k9w245' F9w245' N9w245' b9w245'; (try k_sweep))))
  (k_with "compareOp NotEq bool bool" => (k_here; k_dflt (refine' T_bne ?e9w ?_; (case e9w => with_reducible assumption); k_whole)))
  (k_with "call ref" => (k_here; (with_reducible show wpAny _ _ (PySem.call (Value.ref 175) _) _ _ _); refine Halt.mk ?_))
  trivial
theorem constants_spec {w : World} {mean : ExcName → Option Value} {mg mb : Str → Option Value} {H : Heap} (B : Bs w mean mg mb H) (src : Addr) (hsrc : H.get? src = none) :
    SpS w H src 211 60 400 (fun _ args => args = [.ref src]) (fun _ _ _ r => r = .bool true) := by
  have S175 := value_spec B src hsrc 2 (by omega)
  refine Sp.intro ?_
  rintro dp un fr s args R hst hdp hun ⟨rfl, a, ta, b, tb, n, ho, ha, hb, hb2⟩ hR
  refine' enterC (binds := [(Str.ofString "source", .ref src)]) [src] (by simpa using hsrc) hst B ?ho ?hcd ?hroom ?hbind ?hkind ?hnd ?h ?c2 ?c3 ?c4 ?c6
  case ho => k_is
  case hcd => k_is
  case hroom => (exact room0 hdp rfl)
  case hbind => exact BindsTo.of_eq rfl
  case hkind => exact rfl
  case hnd => decide +kernel
  case c2 => exact rfl
  case c3 => exact rfl
  case c4 => exact rfl
  case c6 => simpa using Heap.lt_size ho
  intro g L h₁ tk1 cells F Nc Nx Y X T hgs hbut hXL
  have hsL : @LT.lt Nat _ src L := hXL src (by simp)
  have Ns := (Nx (src, listOf #[.int a ta, .int b tb] n) (by simp) ho).1
  have N : News g L h₁ (cells ++ [(src, listOf #[.int a ta, .int b tb] n)]) := fun p hp => by
    rcases List.mem_append.mp hp with hp | hp
    · exact Nc p hp
    · exact Ns p hp
  clear Nc Nx Ns hXL
  k_cells Y
  (try dsimp only [List.cons_append, List.nil_append] at N)
  have hcL := cLine_is
  (try dsimp only)
  walk_at "mine env"
  have hTag : SrcTag src := trivial
  k_steps
  rename (IsRange _ _ _ _ _ _ _ _) => rg9
  have hTn : ∀ (i : Nat) (y : Value) (h h' : Heap), TLe h h' → (∃ d, Rd h y d ∧ cvOk 4 d = true) → ∃ d, Rd h' y d ∧ cvOk 4 d = true := fun i y h h' t ⟨d, r, c⟩ => ⟨d, r.mono t, c⟩
  refine' CompP.srcU (G := fun _ y h => ∃ d, Rd h y d ∧ cvOk 4 d = true) ?F ?N ?m ?ha ?hb ?hb2 ?U (IterOk.range (k := 5) rfl rg9 (by decide)) (by decide) (by simp) hTn ?elt ?hQ
  case F => k_asm
  case N => k_asm
  case m => k_mem
  case ha => assumption
  case hb => assumption
  case hb2 => assumption
  case U => (intro a1 a2 a3 a4 a5; k_upd)
  case elt =>
    rintro C i v s₃ m₃ E' a5 ta5 b5 tb5 n5 hi ⟨t5, rfl⟩ hn hm ha5 hb5 hb52 F' N'
    k_steps
    refine Halt.get ?_
    refine' call_src (f := 175) S175 ?F1 ?N1 ?m1 ?a1 ?b1 ?c1 ?U1 ?st1 ?hh1 ?hg1 ?d1 ?u1 ⟨_, rfl⟩ ?_
    case F1 => k_asm
    case N1 => k_asm
    case m1 => k_mem
    case a1 => assumption
    case b1 => assumption
    case c1 => assumption
    case U1 => (intro a1 a2 a3 a4 a5; k_upd)
    case st1 => assumption
    case hh1 => rfl
    case hg1 => rfl
    case d1 => walk_at "mine units"
    case u1 => walk_at "mine units"
    intro r' h' tk' a' ta' b' tb' n' p9 F' N' x1' x2' x3' y'
    exact EltEnd.intro (by assumption) ⟨p9, SrcIs.of (News.get (by k_asm) (by k_mem)) (by assumption) (by assumption) (by assumption)⟩
  case hQ =>
    intro D h' tk ys k' a5 ta5 b5 tb5 n5 hDr ha5 hb5 hb52 F' N' hlen hG hb
    simp only [List.forall_mem_cons] at hDr
    obtain ⟨ds, hds, hdc⟩ := rdA_of (P := fun d => cvOk 4 d = true) hG
    have hyl : ys.length < 1000 := by omega
    obtain ⟨tl, Nt, htc, htr⟩ := rdA_news F' hds
    have hn1 := tl_ne Nt htc N' (by k_mem) (a := D) (by simp)
    have hn2 := tl_ne Nt htc N' (by k_mem) (a := src) (by simp)
    have N3 := Mine.News.app N' Nt
    (try dsimp only [List.cons_append, List.nil_append] at N3)
    clear N' Nt
    k_steps
    rename (News _ _ _ (_ :: _)) => N9
    rename (Fr _ _ _ _) => F9
    obtain ⟨NW, VS, kV, N0, hDm, hsm, hVl, hAll⟩ := pack htr N9
    clear N9
    have S104 : ∀ d, cvOk 4 d = true → CtS w H 4 d := fun d h => constant_text_spec B 4 (by omega) d h
    have hdsA : ∀ d ∈ ds ++ litD, cvOk 4 d = true := fun d hd => (List.mem_append.mp hd).elim (hdc d) (litD_ok d)
    have hpick : ∀ (i : Nat) (v : Value), VS[i]? = some v → ∃ d, cvOk 4 d = true ∧ RdF g NW v d := fun i v hv => by
      have hl := (hAll _ (Keeps.of F9 N0 fun _ h => h)).length
      have hi : i < (ds ++ litD).length := hl ▸ (List.getElem?_eq_some_iff.mp hv).1
      refine ⟨(ds ++ litD)[i], hdsA _ (List.getElem_mem hi), fun h' q => ?_⟩
      obtain ⟨d', e1, r⟩ := (hAll h' q).get hv
      rw [List.getElem?_eq_getElem hi] at e1
      cases e1
      exact r
    have hLD : L ∉ [_] := fun q => (N0 _ hDm).2.1 (List.mem_singleton.mp q).symm
    refine ForP.each (Str.ofString "other") (IterOk.list (vs := VS) rfl (isList_of N0 hDm)) ?hLb F9 N0 ?turn ?done
    case hLb => exact hLD
    case turn =>
      clear F9 N0
      intro i v own u s₃ E' hi hv F N
      obtain ⟨d1, c1, r1⟩ := hpick i v hv
      k_steps
      rename (News _ _ _ _) => N8
      rename (Fr _ _ _ _) => F8
      refine ForP.each (Str.ofString "other") (IterOk.list (vs := VS) rfl (isList_of N8 (List.mem_append_left _ hDm))) hLD F8 N8 ?turn2 ?done2
      case turn2 =>
        clear F8 N8
        intro j v2 own2 u2 s₄ E'' hj hv2 F N
        obtain ⟨d2, c2, r2⟩ := hpick j v2 hv2
        have hsame := const_same c1 c2
        have Sa := S104 d1 c1
        have Sb := S104 d2 c2
        k_steps
        exact EachEnd.intro (by assumption) (by assumption) (by walk_at "mine sub") (by walk_at "mine keep")
      case done2 =>
        intro ux uo h tk F N
        k_steps
        exact EachEnd.intro (by assumption) (by assumption) (fun _ h => h) (by walk_at "mine keep")
    case done =>
      clear F9 N0
      intro ux uo h tk F N
      k_steps
      rename (News _ _ _ (_ :: _)) => N9
      rename (Fr _ _ _ _) => F9
      rw [show (Str.ofString "-3: int8" == Str.ofString "-3: int8") = true from by decide]
      exact hR _ _ _ ⟨⟨rfl, _, _, _, _, _, News.get N9 (by first | exact .tail _ (.tail _ hsm) | exact .tail _ (.tail _ (.tail _ hsm)) | exact .tail _ (.tail _ (.tail _ (.tail _ hsm))) | exact .tail _ hsm), by assumption, by assumption, by assumption⟩, fun b o e nb => F9.keep b o (hbut b o e nb)⟩
end Mine
-- L2
namespace Mine
theorem words31 : True := by
  k_with_none
  (k_with "base k_mem" => first | exact Mine.memAt 0 rfl | exact Mine.memAt 1 rfl | exact Mine.memAt 2 rfl | exact Mine.memAt 3 rfl | exact Mine.memAt 4 rfl | exact Mine.memAt 5 rfl | exact Mine.memAt 6 rfl | exact Mine.memAt 7 rfl | (refine Mine.memSkip 8 rfl ?_; k_mem))
  (k_with "base k_all" => first | exact Mine.allNe (by with_reducible assumption) | with_reducible assumption | exact List.forall_mem_nil _ | (with_reducible refine' Mine.allApp ?a ?b; (case a => k_all); (case b => k_all)) | (refine' List.forall_mem_cons.mpr ⟨?a, ?b⟩; (case a => k_ne); (case b => k_all)) | assumption)
  (k_with "base k_ne" => first | with_reducible assumption | (refine Mine.ne_hi ?_; exact Mine.lt_mem (by with_reducible assumption) (by k_mem)) | exact Mine.neAt (by with_reducible assumption) (by k_mem) | exact Mine.neAt' (by with_reducible assumption) (by k_mem) | (refine Mine.ne_hi ?_; with_reducible first | assumption | exact Mine.pj0 (by assumption) | exact Mine.pj1 (by assumption) | exact Mine.pl1 (by assumption) | exact Mine.pj2 (by assumption) | exact Mine.pl2 (by assumption) | exact Mine.pj3 (by assumption) | exact Mine.pl3 (by assumption) | exact Mine.pj4 (by assumption) | exact Mine.pl4 (by assumption) | exact Mine.pj5 (by assumption) | exact Mine.pl5 (by assumption) | exact Mine.pj6 (by assumption) | exact Mine.pl6 (by assumption) | exact Mine.pj7 (by assumption) | exact Mine.pl7 (by assumption) | exact Mine.pj8 (by assumption) | exact Mine.pj9 (by assumption) | exact Mine.pj10 (by assumption) | exact Mine.pj11 (by assumption) | exact Mine.pj12 (by assumption) | exact Mine.pj13 (by assumption) | exact Mine.pj14 (by assumption)) | exact Ne.symm (by with_reducible assumption) | exact Ne.symm (by assumption) | (refine neN ?_; (try dsimp only); omega))
  (k_with "base k_steps" => (try ((fail_if_success (fail_if_success k_fold)); refine (let Q9z : _ → Shared → Prop := _; (?_ : wpAny _ _ _ Q9z _ _)))); (try ((fail_if_success (fail_if_success (conv in (Shared.mk _ _ _ _ _) => skip))); refine (let s9z : Shared := _; (?_ : wpAny _ _ _ _ _ s9z)))); (try ((with_reducible rename News _ _ _ (List.cons _ _) => N9z); refine (let NW9z : List (Addr × Obj) := _; have N8z : News _ _ _ (Mine.Fold NW9z) := N9z; ?_); clear N9z)); (try ((with_reducible rename Fr _ _ _ (fun _ => ite _ _ _) => F9z); refine (let FM9z : Str → Option Value := _; have F8z : Fr _ _ _ (Mine.Fold FM9z) := F9z; ?_); clear F9z)); repeat' (first | ((fail_if_success (fail_if_success k_unfold)); refine (?_ : wpAny _ _ _ _ _ _); (try ((fail_if_success (fail_if_success k_fold)); refine (let Q9z : _ → Shared → Prop := _; (?_ : wpAny _ _ _ Q9z _ _)))); (try ((fail_if_success (fail_if_success (conv in (Shared.mk _ _ _ _ _) => skip))); refine (let s9z : Shared := _; (?_ : wpAny _ _ _ _ _ s9z))))) | (k_unfold; (try dsimp only)) | (k_end; wrow_close) | ((first | walk1 | (dsimp only; walk1)); (try ((fail_if_success (fail_if_success k_fold)); refine (let Q9z : _ → Shared → Prop := _; (?_ : wpAny _ _ _ Q9z _ _)))); (try ((fail_if_success (fail_if_success (conv in (Shared.mk _ _ _ _ _) => skip))); refine (let s9z : Shared := _; (?_ : wpAny _ _ _ _ _ s9z)))); (try ((with_reducible rename News _ _ _ (List.cons _ _) => N9z); refine (let NW9z : List (Addr × Obj) := _; have N8z : News _ _ _ (Mine.Fold NW9z) := N9z; ?_); clear N9z)); (try ((with_reducible rename Fr _ _ _ (fun _ => ite _ _ _) => F9z); refine (let FM9z : Str → Option Value := _; have F8z : Fr _ _ _ (Mine.Fold FM9z) := F9z; ?_); clear F9z))) | (leave1; walk_say "STEP leave1"; try dsimp only) | fail "no step"))
  (k_with "mine drop" => first | exact memDrop 0 rfl | exact memDrop 1 rfl | exact memDrop 2 rfl | exact memDrop 3 rfl | exact memDrop 4 rfl | exact memDrop 5 rfl | exact memDrop 6 rfl | exact memDrop 7 rfl | exact memDrop 8 rfl | (refine dropSkip 8 rfl ?_; walk_at "mine drop"))
  (k_with "mine env" => refine (let ev9 : Env := _; let A9 : Around := _; (?_ : wpAny _ A9 (execs _ ev9) _ _ _)))
  (k_with "mine units" => (first | assumption | exact room (j := 1) (by assumption) rfl rfl | exact room (j := 3) (by assumption) rfl rfl | exact room (j := 2) (by assumption) rfl rfl | exact room (j := 4) (by assumption) rfl rfl | exact room (j := 5) (by assumption) rfl rfl | exact room (j := 0) (by assumption) rfl rfl | exact roomj (j := 3) (by assumption) rfl rfl | exact roomj (j := 1) (by assumption) rfl rfl | omega | (dsimp +zetaDelta only [Around.deeper, Ar, Around.in1, Around.mark]; omega)))
  (k_with "call ref" => (k_here; k_dflt (refine' call_sp1 ?r9w ?S9w ?F9w ?N9w ?st9w ?hh9w ?hg9w ?d9w ?u9w ?_; (case r9w => assumption); (case S9w => assumption); (case F9w => k_asm); (case N9w => k_asm); (case st9w => assumption); (case hh9w => rfl); (case hg9w => rfl); (case d9w => walk_at "mine units"); (case u9w => walk_at "mine units"); intro r9w249' h9w249' tk9w249' F9w249' N9w249' b9w249' p9w249'; (first | (obtain ⟨⟨t9w249', e9w249'⟩, _⟩ := p9w249'; subst e9w249') | (obtain ⟨e9w249', _⟩ := p9w249'; subst e9w249')); (try k_sweep))))
  (k_with "call type:range" => (k_here; k_dflt ((with_reducible show wpAny _ _ (PySem.call _ [Value.int _ _]) _ _ _); refine' T_range ?F9w ?N9w ?_; (case F9w => k_asm); (case N9w => k_asm); k_whole; intro h9w250' q9w250' tk9w250' t19w250' t29w250' F9w250' N9w250' r9w250' l19w250 b9w250'; (try k_lt l19w250); (try k_sweep))))
  (k_with "mine size" => (first | assumption | exact Nat.le_of_ble_eq_true rfl | (simp only [List.size_toArray, Array.size_push, Array.size_append, List.length_cons, List.length_nil]; omega)))
  (k_with "call builtin:list.append" => (k_here; k_dflt (refine' T_append ?F9w ?N9w ?m9w ?U9w ?z9w ?_; (case F9w => k_asm); (case N9w => k_asm); (case m9w => k_mem); (case U9w => (intro k9w252'; k_upd)); (case z9w => walk_at "mine size"); intro h9w252' k9w252' F9w252' N9w252'; (try k_sweep))))
  (k_with "subscriptTail Name Constant ref int" => (k_here; k_dflt (first
  | ((with_reducible show wpAny _ _ (subscriptTail _ _ (Value.ref _) (Value.int 0 _)) _ _ _); refine' T_litN0 ?N9w ?e9w ?_; (case N9w => k_asm); (case e9w => k_mem); k_whole)
  | ((with_reducible show wpAny _ _ (subscriptTail _ _ (Value.ref _) (Value.int 1 _)) _ _ _); refine' T_litN1 ?N9w ?e9w ?_; (case N9w => k_asm); (case e9w => k_mem); k_whole))))
  (k_with "mine small" => (first | exact Nat.le_of_ble_eq_true rfl | decide | omega | (simp only [List.length_cons, List.length_nil]; omega)))
  (k_with "call ref" => (k_here; (with_reducible show wpAny _ _ (PySem.call (Value.ref 163) _) _ _ _); k_dflt (refine' call_src (f := 163) ?S9w ?F9w ?N9w ?m9w ?a9w ?b9w ?b29w ?U9w ?st9w ?hh9w ?hg9w ?d9w ?u9w ?pre9w ?_; (case S9w => assumption); (case F9w => k_asm); (case N9w => k_asm); (case m9w => k_mem); (case a9w => assumption); (case b9w => assumption); (case b29w => assumption); (case U9w => (intro a19w255 a29w255 a39w255 a49w255 a59w255; k_upd)); (case st9w => assumption); (case hh9w => rfl); (case hg9w => rfl); (case d9w => walk_at "mine units"); (case u9w => walk_at "mine units"); (case pre9w => exact ⟨_, _, rfl, by walk_at "mine small", by walk_at "mine small"⟩); intro r9w255' h9w255' tk9w255' a9w255' ta9w255' b9w255' tb9w255' n9w255' p9w255' F9w255' N9w255' x19w255' x29w255' x39w255' y9w255'; (obtain ⟨rr9w255', rt9w255', e9w255', z19w255', z29w255'⟩ := p9w255' _ _ rfl); subst e9w255'; clear p9w255'; (try k_sweep))))
  (k_with "call ref" => (k_here; (with_reducible show wpAny _ _ (PySem.call (Value.ref 170) _) _ _ _); k_dflt (refine' call_src (f := 170) ?S9w ?F9w ?N9w ?m9w ?a9w ?b9w ?b29w ?U9w ?st9w ?hh9w ?hg9w ?d9w ?u9w ?pre9w ?_; (case S9w => assumption); (case F9w => k_asm); (case N9w => k_asm); (case m9w => k_mem); (case a9w => assumption); (case b9w => assumption); (case b29w => assumption); (case U9w => (intro a19w256 a29w256 a39w256 a49w256 a59w256; k_upd)); (case st9w => assumption); (case hh9w => rfl); (case hg9w => rfl); (case d9w => walk_at "mine units"); (case u9w => walk_at "mine units"); (case pre9w => first | exact ⟨_, _, _, rfl, by k_ne, News.get (by k_asm) (by k_mem), by walk_at "mine small", by walk_at "mine small"⟩ | exact ⟨_, _, _, rfl, by k_ne, Fr.keep (by k_asm) _ _ (by assumption), by walk_at "mine small", by walk_at "mine small"⟩); intro r9w256' h9w256' tk9w256' a9w256' ta9w256' b9w256' tb9w256' n9w256' p9w256' F9w256' N9w256' x19w256' x29w256' x39w256' y9w256'; (first | (have z9w256' := p9w256' _ _ _ rfl (News.get (by k_asm) (by k_mem))) | (have z9w256' := p9w256' _ _ _ rfl (Fr.keep (by k_asm) _ _ (by assumption)))); clear p9w256'; (try k_sweep))))
  (k_with "call ref" => (k_here; (with_reducible show wpAny _ _ (PySem.call (Value.ref 170) [_, Value.ref 149]) _ _ _); k_dflt (refine' call_kind ?B9w ?hs9w ?S9w ?F9w ?N9w ?m9w ?a9w ?b9w ?b29w ?U9w ?st9w ?hh9w ?hg9w ?d9w ?u9w ?_; (case B9w => assumption); (case hs9w => assumption); (case S9w => assumption); (case F9w => k_asm); (case N9w => k_asm); (case m9w => k_mem); (case a9w => assumption); (case b9w => assumption); (case b29w => assumption); (case U9w => (intro a19w257 a29w257 a39w257 a49w257 a59w257; k_upd)); (case st9w => assumption); (case hh9w => rfl); (case hg9w => rfl); (case d9w => walk_at "mine units"); (case u9w => walk_at "mine units"); intro r9w257' d9w257' h9w257' tk9w257' a9w257' ta9w257' b9w257' tb9w257' n9w257' hkd9w257' hkr9w257' F9w257' N9w257' x19w257' x29w257' x39w257' y9w257'; (try k_sweep))))
  (k_with "mine sum" => (first | exact Nat.le_of_ble_eq_true rfl | omega | ((simp only [List.length_cons, List.length_nil, List.length_append]); omega)))
  (k_with "exec Assign cons BinOp" => (k_here; k_dflt ((with_reducible rename HaltTok => t9w259'); clear t9w259'; refine Halt.mk ?_)))
  (k_with "exec Assign cons ListComp" => (k_here; k_dflt (refine' comp_KTA ?tag9w ?F9w ?hLe9w ?hsw9w ?hclos9w ?hcell9w ?hkind9w ?hnames9w ?hx9w ?hy9w ?hp9w ?_ ?hs9w; (case tag9w => with_reducible assumption); (case F9w => k_asm); (case hLe9w => with_unfolding_all rfl); (case hsw9w => with_unfolding_all rfl); (case hclos9w => with_unfolding_all rfl); (case hcell9w => decide); (case hkind9w => with_unfolding_all rfl); (case hnames9w => decide); (case hx9w => with_unfolding_all rfl); (case hy9w => with_unfolding_all rfl); (case hp9w => with_unfolding_all rfl); (case hs9w => intro _; with_unfolding_all rfl))))
  (k_with "eval ListComp" => (k_here; k_dflt (refine' comp_KPL ?F9w ?hclos9w ?hcell9w ?hkind9w ?hnames9w ?hx9w ?hx29w ?hxx9w ?_ ?hs9w; (case F9w => k_asm); (case hclos9w => with_unfolding_all rfl); (case hcell9w => decide); (case hkind9w => with_unfolding_all rfl); (case hnames9w => decide); (case hx9w => with_unfolding_all rfl); (case hx29w => with_unfolding_all rfl); (case hxx9w => decide); (case hs9w => intro _; with_unfolding_all rfl))))
  (k_with "exec For Name Call cons nil" => (k_here; k_dflt ((with_reducible rename RangeTok => t9w262'); clear t9w262'; (with_reducible show wpAny _ _ (PySem.exec (PySem.Stmt.For (PySem.Expr.Name _ _) _ _ [] _) _) _ _ _); refine' for_R ?hL9w ?hx9w ?hp9w ?F9w ?_ ?hs9w; (case F9w => k_asm); (case hL9w => rfl); (case hx9w => rfl); (case hp9w => rfl); (case hs9w => intro _; with_unfolding_all rfl))))
  (k_with "eval ListComp" => (k_here; k_dflt ((with_reducible rename ListTok => t9w263'); clear t9w263'; refine' comp_KS ?tag9w ?F9w ?hclos9w ?hcell9w ?hkind9w ?hnames9w ?hx9w ?_ ?hs9w; (case tag9w => with_reducible assumption); (case F9w => k_asm); (case hclos9w => with_unfolding_all rfl); (case hcell9w => decide); (case hkind9w => with_unfolding_all rfl); (case hnames9w => decide); (case hx9w => with_unfolding_all rfl); (case hs9w => intro _; with_unfolding_all rfl))))
  (k_with "subscriptTail Name Slice ref ref" => (k_here; (with_reducible show wpAny _ _ (subscriptTail _ (PySem.Expr.Slice none (some (PySem.Expr.UnaryOp _ _ _)) none _) (Value.ref _) (Value.ref _)) _ _ _); k_dflt (refine' T_lbut ?F9w ?N9w ?m9w ?z9w ?_; (case F9w => k_asm); (case N9w => k_asm); (case m9w => k_mem); (case z9w => walk_at "mine sum"); intro D9w264' h9w264' F9w264' N9w264' l19w264; (try k_lt l19w264); (try k_sweep))))
  (k_with "subscriptTail Name UnaryOp ref int" => (k_here; k_dflt ((with_reducible show wpAny _ _ (subscriptTail _ _ (Value.ref _) (Value.int _ _)) _ _ _); refine' T_llast ?N9w ?e9w ?_; (case N9w => k_asm); (case e9w => k_mem); k_whole)))
  (k_with "subscriptTail" => (k_here; k_dflt ((with_reducible show wpAny _ _ (subscriptTail _ _ (Value.ref _) (Value.int 0 _)) _ _ _); refine' T_item0h ?e9w ?_; (case e9w => with_reducible assumption); k_whole)))
  (k_with "binaryOp Add ref ref" => (k_here; k_dflt ((with_reducible show wpAny _ _ (binaryOp _ (Value.ref _) (Value.ref _)) _ _ _); refine' T_addLL ?F9w ?N9w ?a9w ?b9w ?z9w ?_; (case F9w => k_asm); (case N9w => k_asm); (case a9w => k_mem); (case b9w => k_mem); (case z9w => walk_at "mine sum"); intro D9w267' h9w267' F9w267' N9w267' l19w267; (try dsimp only [List.cons_append, List.nil_append] at N9w267'); (try k_lt l19w267); (try k_sweep))))
  (k_with "compareOp NotEq str str" => (k_here; k_dflt (refine' T_str_ne_same ?e9w ?_; (case e9w => rfl); k_whole)))
  (k_with "compareOp NotEq ref ref" => (k_here; k_dflt ((with_reducible show wpAny _ _ (compareOp _ (Value.ref _) (Value.ref _)) _ _ _); refine' T_nes_same ?N9w ?a9w ?b9w ?r19w ?r29w ?u9w ?_; (case N9w => k_asm); (case a9w => k_mem); (case b9w => k_mem); (case r19w => assumption); (case r29w => assumption); (case u9w => walk_at "mine units"); k_whole)))
  (k_with "subscriptTail Name Slice ref ref" => (k_here; (with_reducible show wpAny _ _ (subscriptTail _ (PySem.Expr.Slice (some (PySem.Expr.Constant _ _ _)) none none _) (Value.ref _) (Value.ref _)) _ _ _); k_dflt (refine' T_lfrom (c := 15) ?F9w ?N9w ?m9w ?z9w ?_; (case F9w => k_asm); (case N9w => k_asm); (case m9w => k_mem); (case z9w => walk_at "mine sum"); intro D9w270' h9w270' F9w270' N9w270' l19w270; (try k_lt l19w270); (try k_sweep))))
  (k_with "subscriptTail Name Slice ref ref" => (k_here; (with_reducible show wpAny _ _ (subscriptTail _ (PySem.Expr.Slice (some (PySem.Expr.Constant _ _ _)) (some (PySem.Expr.Constant _ _ _)) none _) (Value.ref _) (Value.ref _)) _ _ _); k_dflt (refine' T_lrun (c := 1) (d := 15) ?F9w ?N9w ?m9w ?d9w ?c9w ?z9w ?_; (case F9w => k_asm); (case N9w => k_asm); (case m9w => k_mem); (case d9w => walk_at "mine sum"); (case c9w => decide); (case z9w => walk_at "mine sum"); intro D9w271' h9w271' F9w271' N9w271' l19w271; (try k_lt l19w271); (try k_sweep))))
  (k_with "call type:enumerate" => (k_here; k_dflt ((with_reducible show wpAny _ _ (PySem.call _ [Value.ref _]) _ _ _); refine' T_enum ?F9w ?N9w ?m9w ?_; (case F9w => k_asm); (case N9w => k_asm); (case m9w => k_mem); intro e9w272' it9w272' h9w272' F9w272' N9w272' q19w272 q29w272 q39w272 q49w272 q59w272 q69w272 q79w272 q89w272)))
  (k_with "call builtin:len" => (k_here; (with_reducible show wpAny _ _ (PySem.call _ [Value.ref _]) _ _ _); k_dflt (refine' T_len_led ?N9w ?e9w ?l9w ?_; (case N9w => k_asm); (case e9w => k_mem); (case l9w => walk_at "mine sum"); k_whole)))
  (k_with "compareOp NotEq int int" => (k_here; k_dflt (refine' T_int_ne_same ?e9w ?_; (case e9w => walk_at "mine sum"); k_whole)))
  (k_with "call builtin:str.join" => (k_here; k_dflt (refine' T_joinB ?N9w ?m9w ?i9w ?j9w ?_; (case N9w => k_asm); (case m9w => k_mem); (case i9w => assumption); (case j9w => assumption); intro t9w275' k9w275' l9w275')))
  (k_with "call type:zip" => (k_here; k_dflt ((with_reducible show wpAny _ _ (PySem.call _ [Value.ref _, Value.ref _]) _ _ _); refine' T_zip ?F9w ?N9w ?m9w ?m29w ?_; (case F9w => k_asm); (case N9w => k_asm); (case m9w => k_mem); (case m29w => k_mem); intro z9w276' q19w276' q29w276' q39w276' q49w276' q59w276' h9w276' F9w276' N9w276' hZ9w276' hb9w276' hc9w276')))
  (k_with "exec For Tuple Call" => (k_here; k_dflt ((with_reducible show wpAny _ _ (PySem.exec (PySem.Stmt.For (PySem.Expr.Tuple _ _ _) _ _ [] _) _) _ _ _); refine' for_Z ?hL9w ?hx9w ?hr9w ?ht9w ?hp9w ?F9w ?_ ?hs9w; (case F9w => k_asm); (case hL9w => rfl); (case hx9w => rfl); (case hr9w => rfl); (case ht9w => rfl); (case hp9w => rfl); (case hs9w => intro _; with_unfolding_all rfl))))
  (k_with "exec For Tuple Call cons nil" => walk_at "exec For Tuple Call")
  (k_with "compareOp Eq str str" => (k_here; k_dflt (refine' T_str_eq_same ?e9w ?_; (case e9w => rfl); k_whole)))
  (k_with "subscriptTail Name Constant ref int" => (k_here; (with_reducible show wpAny _ _ (subscriptTail _ _ (Value.ref _) (Value.int 3 _)) _ _ _); k_dflt (refine' T_litemN (k := 3) ?N9w ?e9w ?l9w ?x9w ?_; (case N9w => k_asm); (case e9w => k_mem); (case l9w => walk_at "mine sum"); (case x9w => rfl); k_whole)))
  (k_with "call ref" => (k_here; (with_reducible show wpAny _ _ (PySem.call (Value.ref 156) _) _ _ _); refine Halt.mk ?_))
  (k_with "call ref" => (k_here; (with_reducible show wpAny _ _ (PySem.call (Value.ref 187) _) _ _ _); refine Halt.mk ?_))
  (k_with "call ref" => (k_here; (with_reducible show wpAny _ _ (PySem.call (Value.ref 194) _) _ _ _); refine Halt.mk ?_))
  (k_with "call ref" => (k_here; (with_reducible show wpAny _ _ (PySem.call (Value.ref 133) _) _ _ _); refine Halt.mk ?_))
  (k_with "call ref" => (k_here; (with_reducible show wpAny _ _ (PySem.call (Value.ref 140) _) _ _ _); refine Halt.mk ?_))
  (k_with "call ref" => (k_here; (with_reducible show wpAny _ _ (PySem.call (Value.ref 206) _) _ _ _); refine Halt.mk ?_))
  (k_with "call ref" => (k_here; (with_reducible show wpAny _ _ (PySem.call (Value.ref 211) _) _ _ _); refine Halt.mk ?_))
  (k_with "call ref" => (k_here; (with_reducible show wpAny _ _ (PySem.call (Value.ref 51) _) _ _ _); refine Halt.mk ?_))
  (k_with "newTuple" => (k_here; k_dflt (refine' newTupleM ?F9w ?N9w ?z9w ?_; (case F9w => k_asm); (case N9w => k_asm); (case z9w => exact Nat.le_of_ble_eq_true rfl)); intro D9w289' h9w289' NW99w289 s9w289' F9w289' N9w289' l19w289; (try k_sweep)))
  (k_with "newList" => (k_here; k_dflt (refine' newListM ?F9w ?N9w ?z9w ?_; (case F9w => k_asm); (case N9w => k_asm); (case z9w => exact Nat.le_of_ble_eq_true rfl)); intro D9w290' h9w290' NW99w290 s9w290' F9w290' N9w290' l19w290; (try k_sweep)))
  (k_with "spliced" => (k_here; k_dflt (refine' argsM ?a9w ?F9w ?e9w ?_; (case F9w => k_asm); (case a9w => rfl); (case e9w => rfl)); intro s9w291'))
  (k_with "eval Tuple" => (k_here; k_dflt (refine' tupM ?a9w ?F9w ?e9w ?N9w ?z9w ?_; (case F9w => k_asm); (case a9w => rfl); (case e9w => rfl); (case N9w => k_asm); (case z9w => exact Nat.le_of_ble_eq_true rfl)); intro D9w292' h9w292' NW99w292 s9w292' F9w292' N9w292' l19w292; (try k_sweep)))
  (k_with "eval List" => (k_here; k_dflt (refine' lstM ?a9w ?F9w ?e9w ?N9w ?z9w ?_; (case F9w => k_asm); (case a9w => rfl); (case e9w => rfl); (case N9w => k_asm); (case z9w => exact Nat.le_of_ble_eq_true rfl)); intro D9w293' h9w293' NW99w293 s9w293' F9w293' N9w293' l19w293; (try k_sweep)))
  (k_with "eval Constant str" => (refine constStrM ?_; intro s9w294'))
  (k_with "eval Constant int" => (refine constIntM ?_; intro s9w295'))
  (k_with "eval Name" => (k_here; k_dflt (first | ((with_reducible show wpAny _ _ (PySem.eval _ (compEnvC _ _ _ _)) _ _ _); first | (refine' nm_comp ?n9w ?m9w ?_ ?k9w ?l9w ?d9w; (case k9w => with_unfolding_all rfl); (case l9w => with_unfolding_all rfl); (case n9w => assumption); (case m9w => assumption); (case d9w => decide)) | (refine' nm_compC ?N9w ?c9w ?m9w ?d9w ?_ ?k9w ?l9w ?e9w; (case k9w => with_unfolding_all rfl); (case l9w => with_unfolding_all rfl); (case N9w => k_asm); (case c9w => with_unfolding_all rfl); (case m9w => k_mem); (case d9w => k_asm); (case e9w => decide))) | ((fail_if_success (with_reducible show wpAny _ _ (PySem.eval _ (compEnvC _ _ _ _)) _ _ _)); first | (refine' nameS ?a9w ?e9w ?F9w ?_; (case F9w => k_asm); (case a9w => rfl); (case e9w => rfl)) | (refine' nameK ?a9w ?g9w ?F9w ?X9w ?T9w ?e9w ?_; (case a9w => rfl); (case g9w => rfl); (case F9w => k_asm); (case X9w => k_asm); (case T9w => k_asm); (case e9w => k_is); k_whole) | (refine' nameB ?a9w ?g9w ?F9w ?X9w ?T9w ?e9w ?v9w ?n9w ?_; (case a9w => rfl); (case g9w => rfl); (case F9w => k_asm); (case X9w => k_asm); (case T9w => k_asm); (case e9w => k_is); (case v9w => boot_fast); (case n9w => decide); k_whole)))))
  (k_with "storeName" => (k_here; k_dflt (refine' storeM ?a9w ?b9w ?F9w ?N9w ?_; (case a9w => rfl); (case b9w => rfl); (case F9w => k_asm); (case N9w => k_asm)); intro h9w297' FM99w297 s9w297' F9w297' N9w297'; (try k_sweep)))
  trivial
theorem law_cases {w : World} {oc od : _} {name qual : Str} {params : Arguments} {body : List Stmt} {scope : Scope} {dV kV doc pm cdv ct : Value} {an : Option Addr} {osl : Array (Option Value)} {P : List Stmt → Scope → Str → Prop}
    (ho : (hd.heap_1 w.params).lookup 216 = some ⟨oc, od, .func (fnOf name qual params body scope dV kV doc pm an cdv ct), osl⟩) (h : P body scope qual)
    {oc' od' : _} {name' qual' : Str} {params' : Arguments} {body' : List Stmt} {scope' : Scope} {dV' kV' doc' pm' cdv' ct' : Value} {an' : Option Addr} {osl' : Array (Option Value)}
    (ho' : (hd.heap_1 w.params).lookup 216 = some ⟨oc', od', .func (fnOf name' qual' params' body' scope' dV' kV' doc' pm' an' cdv' ct'), osl'⟩) : P body' scope' qual' := by
  rw [ho] at ho'
  have q := congrArg Obj.data (Option.some.inj ho')
  injection q with q
  have q1 : qual = qual' := congrArg FuncData.qualname q
  have q2 : scope = scope' := congrArg FuncData.scope q
  have q3 := congrArg FuncData.body q
  injection q3 with q3
  subst q1; subst q2; subst q3
  exact h
theorem law_run {w : World} {mean : ExcName → Option Value} {mg mb : Str → Option Value} {H : Heap} (B : Bs w mean mg mb H) {dp un : Nat} {fr : Option (List Env)} (hdp : dp + 120 < recursionLimit) (hun : un + 600 < cLine) {oc : Value} {od : Option Addr} {name qual : Str} {params : Arguments} {body : List Stmt} {scope : Scope} {dV kV doc pm cdv ct : Value} {an : Option Addr} {osl : Array (Option Value)}
    (ho : (hd.heap_1 w.params).lookup 216 = some ⟨oc, od, .func (fnOf name qual params body scope dV kV doc pm an cdv ct), osl⟩) {fa L sl : Addr} {cdx : Value} {h₁ : Heap} {vs : List Value} {xs : List Int} {cells : List (Addr × Obj)} {tk : Nat} {s : Shared} {Q : Flow → Shared → Prop} {E : Value → Shared → Prop}
    (F : Fr H L h₁ (bindL (envOfC qual scope L fa cdx).kindOf [(Str.ofString "script", .ref sl)] fun _ => none)) (Nc : News H L h₁ cells) (Y : CellsAre (bindC (envOfC qual scope L fa cdx).kindOf [(Str.ofString "script", .ref sl)] fun _ => none) (cellsFrom (L + 1) scope.names []) cells)
    (hL : H.IsList sl vs.toArray) (hI : IntsAre vs xs) (hx : xs.length ≤ 63)
    (hQ : ∀ h' tk', (∀ b o, H.get? b = some o → h'.get? b = some o) → Q (.ret (.bool true)) { s with heap := h', toks := tk' }) :
    wpAny (model PySem.Challenge.rw_on0012_01.row.prog w) ((Ar dp un fr).deeper (envOfC qual scope L fa cdx)) (execs body (envOfC qual scope L fa cdx)) Q E { s with heap := h₁, toks := tk } := by
  revert F Y
  refine' law_cases (P := fun body scope qual => Fr H L h₁ (bindL (envOfC qual scope L fa cdx).kindOf [(Str.ofString "script", .ref sl)] fun _ => none) → CellsAre (bindC (envOfC qual scope L fa cdx).kindOf [(Str.ofString "script", .ref sl)] fun _ => none) (cellsFrom (L + 1) scope.names []) cells → wpAny (model PySem.Challenge.rw_on0012_01.row.prog w) ((Ar dp un fr).deeper (envOfC qual scope L fa cdx)) (execs body (envOfC qual scope L fa cdx)) Q E { s with heap := h₁, toks := tk }) ?ho2 ?h ho
  case ho2 => k_is
  case h =>
  clear ho
  intro F Y
  have X := B.k
  have T := B.t
  have N := Nc
  clear Nc
  k_cells Y
  have hcL := cLine_is
  (try dsimp only)
  have S156 := pool_spec B sl xs vs hI hx
  have hst : H.StaysIn H := fun _ _ e => e
  walk_at "mine env"
  k_steps
  rename (News _ _ _ _) => N
  rename (Fr _ _ _ _) => F
  refine Halt.get ?_
  refine' call_sp S156 ?F ?N hst rfl rfl ?d ?u ⟨rfl, hL.at fun o e => Fr.keep (by k_asm) _ _ e⟩ (fun _ _ p => p.2) ?_
  case F => k_asm
  case N => k_asm
  case d => walk_at "mine units"
  case u => walk_at "mine units"
  intro r' h' tk' F' N' b' p'
  obtain ⟨⟨src, a, b, ta, tb, n, rfl, e0, e1, ha, hb, hb2⟩, _⟩ := p'
  have N9 := news_new F N (fun b o e => b' b o e (by simp)) e0 e1
  have hsrc : H.get? src = none := (N9 _ (.head _)).2.2
  have hcell : @Ne Nat (L + 1) src := fun q => by
    have := (N _ (.head _)).1
    rw [show (L + 1 : Nat) = src from q, e0] at this; cases this
  clear F N N' e0 e1 b' S156
  have S0 := take_spec B src hsrc
  have S1 := one_spec B src hsrc
  have S2 := ins_src B src hsrc
  have S3 := end_src B src hsrc
  have hTag : SrcTag src := trivial
  k_steps
  rename (IsRange _ _ _ _ _ _ _ _) => rg9
  rename (News _ _ _ (_ :: _)) => N9
  rename (Fr _ _ _ _) => F9
  refine ⟨14, _, [], a, ta, b, tb, n, _, fun _ y => ∃ d, d ∈ kinds ∧ Rd H y d, IterOk.range rfl rg9 (by decide), by decide, by simp, F9, N9, ha, hb, hb2, by simpa using hcell, ?_, ?_⟩
  · clear F9 N9 rg9 ha hb hb2
    intro C i v s₃ m₃ E' a ta b tb n' hi hv hn hm ha hb hb2 F' N'
    obtain ⟨t9, rfl⟩ := hv
    k_steps
    exact EltEnd.intro (by assumption) ⟨⟨_, by assumption, by assumption⟩, SrcIs.of (News.get (by k_asm) (by k_mem)) (by assumption) (by assumption) (by assumption)⟩
  · clear F9 N9 rg9 ha hb hb2
    intro Dr h' tk' rys kr a ta b tb n' hDr hDs ha hb hb2 F' N' hrl hrg
    have rtok : RangeTok := trivial
    k_steps
    rename (IsRange _ _ _ _ _ _ _ _) => rg9
    rename (News _ _ _ (_ :: _)) => N9
    rename (Fr _ _ _ _) => F9
    obtain ⟨Db, Dd0, hDb1, hDb2, hDb3, F0, N0, J0⟩ := loopJ0 F9 N9 (by with_unfolding_all rfl) (by with_unfolding_all rfl) (by assumption) (by assumption) (by assumption) (by k_ne) (by k_ne) (by k_ne) (by k_ne) (by k_ne)
    refine ⟨_, _, _, _, _, _, _, _, rfl, rfl, rg9, ?hk, F0, N0, J0, loopJ_fld (by assumption), ?turn, ?done⟩
    case hk => exact Nat.le_trans (Nat.add_le_add_left (m := 2) (by omega) _) (by decide)
    case turn =>
      clear rg9 F9 N9 N0 J0 F0
      intro i t9 m₁ news₁ own s₃ E' hi hJ hown F3 N3 _
      obtain ⟨bs, bvs, dvs, Dd, kb, kd, a, ta, b, tb, n, tl, rv, bv, hbl, hbs, ha, hb, hb2, rfl, rfl, htl1, htl2, htl3, hne1, hne2, hdl, hbvl, BZ, DZ⟩ := hJ
      have ho1 := own_ne N3 hown (a := src) (by k_mem)
      have ho2 := own_ne N3 hown (.head _)
      have hso : ∀ p ∈ tl ++ own, p.1 ≠ src := fun p hp => (List.mem_append.mp hp).elim (htl1 p) (ho1 p)
      have hdo := fun p (hp : p ∈ tl ++ own) => (List.mem_append.mp hp).elim (htl2 p) (ho2 p)
      (try dsimp only [List.cons_append, List.nil_append] at N3)
      have hin1 : ∀ p ∈ tl, p ∈ tl ++ own := fun p hp => List.mem_append_left _ hp
      have hin2 : ∀ p ∈ own, p ∈ tl ++ own := fun p hp => List.mem_append_right _ hp
      generalize tl ++ own = tlo at N3 hso hdo hin1 hin2
      clear ho1 ho2
      (try dsimp only at F3)
      have hi3 : i ≤ 2 := Nat.le_of_lt_succ (Nat.lt_of_lt_of_le hi (Nat.add_le_add_left (m := 2) (by omega) _))
      have ltok : ListTok := trivial
      k_steps
      rename (IsRange _ _ _ _ _ _ _ _) => rg9
      rename (News _ _ _ (_ :: _)) => N9
      rename (Fr _ _ _ _) => F9
      refine ⟨_, _, _, _, _, _, _, _, _, _, _, fun Z _ y h => RowR InsRow (fun l => Z l ∧ l ≠ Db) h y, rfl, rfl, rg9, by omega, F9, src_front N9, by assumption, by assumption, by assumption, ?r1, fun Z i y h h' k r => RowR.stay (fun b o e q => k b o e (q.imp (fun q => q.1) id)) r, ?r2, ?r3⟩
      case r1 =>
        simp only [List.forall_mem_cons]
        exact ⟨hDb1, hne2, hDs, hcell, hso⟩
      case r2 =>
        clear rg9 F9 N9 ha hb hb2
        intro Z C i t s₃ m₃ E' a ta b tb n' hi hZ hn hm ha hb hb2 F' N'
        have hDbx : ∃ o, s₃.heap.get? Db = some o := ⟨_, News.get N' (by k_mem)⟩
        k_steps
        refine Halt.get ?_
        refine' call_src (f := 187) S2 ?F ?N ?m ?a ?b ?b2 ?U ?st ?hh ?hg ?d ?u ?pre ?_
        case F => k_asm
        case N => k_asm
        case m => k_mem
        case a => assumption
        case b => assumption
        case b2 => assumption
        case U => (intro a1 a2 a3 a4 a5; k_upd)
        case st => assumption
        case hh => rfl
        case hg => rfl
        case d => walk_at "mine units"
        case u => walk_at "mine units"
        case pre => exact rfl
        intro r' h' tk' a' ta' b' tb' n' p' F' N' x1' x2' x3' y'
        refine EltEnd.intro y' ⟨RowR.weak (fun l q => ⟨hZ l q, fun q2 => ?_⟩) (fun _ _ p => p) p', _, _, _, _, _, News.get N' (by k_mem), x1', x2', x3'⟩
        obtain ⟨o, e⟩ := hDbx
        rw [← q2, q] at e; cases e
      case r3 =>
        clear rg9 F9 N9 ha hb hb2
        intro Z D h' tk' ys k' a ta b tb n' hZ hD hDs2 ha hb hb2 F' N' hyl hyr
        obtain ⟨rs, hra, hrk⟩ := rowsAt_of hyr
        have hys4 : ys.length ≤ 4 := by omega
        have hDne : @Ne Nat Db D := hD (Db, _) (.head _)
        have hDne1 : @Ne Nat Dd D := hD (Dd, _) (by k_mem)
        obtain ⟨tlR, NR, hR1, hR2, RZ⟩ := rows_freeze (bad := [src, Db]) F' (fun a ha => by
            simp only [List.mem_cons, List.not_mem_nil, or_false] at ha
            rcases ha with rfl | rfl
            · exact ⟨_, _, News.get N' (by k_mem)⟩
            · exact ⟨_, _, News.get N' (by k_mem)⟩) (fun l q => by
            simp only [List.mem_cons, List.not_mem_nil, or_false, not_or]
            exact ⟨(hZ l q.1).2, q.2⟩) hra
        have N9 := Mine.News.app N' NR
        dsimp +zetaDelta only [Fold, List.cons_append, List.nil_append] at N9
        have hso1 : ∀ p ∈ tlo ++ tlR, p.1 ≠ src := fun p hp => (List.mem_append.mp hp).elim (hso p) fun q e => hR1 p q (by simp [e])
        have hdo1 : ∀ p ∈ tlo ++ tlR, p.1 ≠ Db := fun p hp => (List.mem_append.mp hp).elim (hdo p) fun q e => hR1 p q (by simp [e])
        have hT1 : ∀ p ∈ tlo, p ∈ tlo ++ tlR := fun p hp => List.mem_append_left _ hp
        have hT2 : ∀ p ∈ tlR, p ∈ tlo ++ tlR := fun p hp => List.mem_append_right _ hp
        clear N' NR
        generalize tlo ++ tlR = tl1 at N9 hso1 hdo1 hT1 hT2
        k_steps
        rename (News _ _ _ _) => N9
        have hDbx := News.get N9 (a := Db) (by k_mem)
        have hsx := News.get N9 (a := src) (by k_mem)
        refine Halt.get ?_
        refine' call_src (f := 194) S3 ?F ?N ?m ?a ?b ?b2 ?U ?st ?hh ?hg ?d ?u ?pre ?_
        case F => k_asm
        case N => k_asm
        case m => k_mem
        case a => assumption
        case b => assumption
        case b2 => assumption
        case U => (intro a1 a2 a3 a4 a5; k_upd)
        case st => assumption
        case hh => rfl
        case hg => rfl
        case d => walk_at "mine units"
        case u => walk_at "mine units"
        case pre => exact rfl
        intro ve h' tk' a' ta' b' tb' n' p' F' N' x1' x2' x3' y'
        obtain ⟨re, hre, hrk2⟩ := p'.at_
        obtain ⟨tlE, NE, hE1, hE2, REZ⟩ := rows_freeze (vs := [ve]) (rs := [re]) (bad := [src, Db]) F' (fun a ha => by
            simp only [List.mem_cons, List.not_mem_nil, or_false] at ha
            rcases ha with rfl | rfl
            · exact ⟨_, _, News.get N' (by k_mem)⟩
            · exact ⟨_, _, News.get N' (by k_mem)⟩) (fun l q => by
            simp only [List.mem_cons, List.not_mem_nil, or_false, not_or]
            refine ⟨fun e => ?_, fun e => ?_⟩
            · rw [e, hsx] at q; cases q
            · rw [e, hDbx] at q; cases q) ⟨hre, trivial⟩
        clear p' hDbx hsx y' hra hyr hre
        have N8 := Mine.News.app N' NE
        dsimp +zetaDelta only [Fold, List.cons_append, List.nil_append] at N8
        have hso2 : ∀ p ∈ tl1 ++ tlE, p.1 ≠ src := fun p hp => (List.mem_append.mp hp).elim (hso1 p) fun q e => hE1 p q (by simp [e])
        have hdo2 : ∀ p ∈ tl1 ++ tlE, p.1 ≠ Db := fun p hp => (List.mem_append.mp hp).elim (hdo1 p) fun q e => hE1 p q (by simp [e])
        have hT3 : ∀ p ∈ tl1, p ∈ tl1 ++ tlE := fun p hp => List.mem_append_left _ hp
        have hT4 : ∀ p ∈ tlE, p ∈ tl1 ++ tlE := fun p hp => List.mem_append_right _ hp
        clear N' NE N9
        generalize tl1 ++ tlE = tl2 at N8 hso2 hdo2 hT3 hT4
        k_steps
        rename (News _ _ _ (_ :: _)) => N9
        rename (Fr _ _ _ _) => F9
        have r9 := RZ _ (Keeps.of F9 N9 fun p hp => (by walk_at "mine drop" : ∀ p ∈ tl2, p ∈ _) p (hT3 _ (hT2 _ hp)))
        obtain ⟨ps, hps, hpt, hpr⟩ := rows_pairs r9
        subst hps
        rw [List.length_map] at hys4
        have hpl := hpr.length
        simp only [List.length_map] at hpl
        obtain ⟨tlA, NA, hAc, AZ⟩ := rdA_news F9 hpr
        have hA1 := tl_ne NA hAc N9 (a := src) (by k_mem) (by simp)
        have hA2 := tl_ne NA hAc N9 (a := Db) (by k_mem) (by simp)
        have N8 := Mine.News.app N9 NA
        dsimp +zetaDelta only [Fold, List.cons_append, List.nil_append] at N8
        have hso3 : ∀ p ∈ tl2 ++ tlA, p.1 ≠ src := fun p hp => (List.mem_append.mp hp).elim (hso2 p) (hA1 p)
        have hdo3 : ∀ p ∈ tl2 ++ tlA, p.1 ≠ Db := fun p hp => (List.mem_append.mp hp).elim (hdo2 p) (hA2 p)
        have hT5 : ∀ p ∈ tl2, p ∈ tl2 ++ tlA := fun p hp => List.mem_append_left _ hp
        have hT6 : ∀ p ∈ tlA, p ∈ tl2 ++ tlA := fun p hp => List.mem_append_right _ hp
        clear NA N9
        generalize tl2 ++ tlA = tl3 at N8 hso3 hdo3 hT5 hT6
        rename (News _ _ _ (_ :: _)) => N9
        refine' CompPL.list _ ps _ _ (fun i zs => zs = (ps.take i).map (fun p => p.2.1)) rfl rfl F9 N9 ?p1 hpt ?p2 rfl ?p5 ?p3 ?p4
        case p5 =>
          intro i zs e
          rw [e, List.length_map]
          exact List.length_take_le ..
        case p1 => exact News.get N9 (by k_mem)
        case p2 => omega
        case p3 =>
          intro C i p zs s₃ m₃ E' hi hI hn hm hm2 F' N'
          k_steps
          exact ⟨⟨s₃.heap, s₃.toks, rfl⟩, fun b o e _ => e, by simp [hI, List.take_add_one, hi]⟩
        case p4 =>
          intro D h' tk zs k' hD2 F' N' hI
          subst hI
          rw [List.take_length] at N'
          have r8 := REZ _ (Keeps.of F' N' fun p hp => by
            have := hT5 _ (hT4 _ hp)
            simp only [List.mem_cons]; simp [this])
          obtain ⟨te, rowe, le, ro, ye, nse, ne, rfl, ee1, ee2, ee3, ee4, ⟨rfl, rfl⟩, _⟩ := r8.1
          obtain ⟨tlB, NB, hBc, EZ⟩ := rd_news F' ee2
          have hB1 := tl_ne NB hBc N' (a := src) (by k_mem) (by simp)
          have hB2 := tl_ne NB hBc N' (a := Db) (by k_mem) (by simp)
          have N8 := Mine.News.app N' NB
          dsimp +zetaDelta only [Fold, List.cons_append, List.nil_append] at N8
          have hT7 : ∀ p ∈ tl3, p ∈ tl3 ++ tlB := fun p hp => List.mem_append_left _ hp
          have hT8 : ∀ p ∈ tlB, p ∈ tl3 ++ tlB := fun p hp => List.mem_append_right _ hp
          have hso4 : ∀ p ∈ tl3 ++ tlB, p.1 ≠ src := fun p hp => (List.mem_append.mp hp).elim (hso3 p) (hB1 p)
          have hdo4 : ∀ p ∈ tl3 ++ tlB, p.1 ≠ Db := fun p hp => (List.mem_append.mp hp).elim (hdo3 p) (hB2 p)
          clear NB N'
          generalize tl3 ++ tlB = tl4 at N8 hso4 hdo4 hT7 hT8
          clear r9 r8 hpt
          have hDne4 : @Ne Nat src D := hD2 (src, _) (by k_mem)
          have hDne2 : @Ne Nat Db D := hD2 (Db, _) (by k_mem)
          have hDne3 : @Ne Nat Dd D := hD2 (Dd, _) (by k_mem)
          have hbv9 : bvs.toArray.size ≤ 100000 := by simp only [List.size_toArray]; omega
          k_steps
          rename (News _ _ _ (_ :: _)) => N9
          rename (Fr _ _ _ _) => F9
          refine loop_close F9 N9 (fun p h => hT7 _ (hT5 _ (hT3 _ (hT1 _ (hin1 p h))))) (fun p h => hT7 _ (hT5 _ (hT3 _ (hT1 _ (hin2 p h))))) (fun p h => hT7 _ (hT5 _ (hT3 _ (hT2 p h)))) (fun p h => hT7 _ (hT5 _ (hT4 p h))) (fun p h => hT7 _ (hT6 p h)) hT8 hbl hbs x1' x2' x3' htl1 htl2 htl3 hR1 hR2 hE1 hE2 hA1 hA2 hAc hB1 hB2 hBc ?n1 ?n2 ?n3 ?n4 ?n5 ?n6 ?n7 ?n8 hdl hbvl BZ DZ RZ REZ AZ EZ hrk ?n9 hpl hrk2
          case n9 => exact hpl ▸ hys4
          all_goals k_ne
    case done =>
      clear rg9 F9 N9 N0 J0 F0
      intro m₁ news₁ h' tk' hJ F3 N3
      obtain ⟨bs, bvs, dvs, Dd, kb, kd, a, ta, b, tb, n, tl, rv, bv, hbl, hbs, ha, hb, hb2, rfl, rfl, htl1, htl2, htl3, hne1, hne2, hdl, hbvl, BZ, DZ⟩ := hJ
      (try dsimp only at F3)
      obtain ⟨ds, hrd, hdk⟩ := rdA_of (h := H) (P := fun d => d ∈ kinds) fun i y e => by
        obtain ⟨d, hk, hr⟩ := hrg i y e
        exact ⟨d, hr, hk⟩
      have hd14 : ds.length = 14 := by have := hrd.length; omega
      have hbs4 : bs.length ≤ 4 := by rw [hbl]; exact Nat.le_trans (Nat.add_le_add_left (m := 2) (by omega) _) (by decide)
      k_steps
      rename (∃ i : Nat, _ = some _) => zR
      rename (News _ _ _ (_ :: _)) => N9
      rename (Fr _ _ _ _) => F9
      obtain ⟨ro, tR, hro, rfl⟩ := rec_of zR
      clear zR
      refine Halt.get ?_
      refine' T_code B ?hst F9 N9 ?m ?z rfl rfl ?d ?u ?_
      case hst => assumption
      case m => k_mem
      case z => omega
      case d => walk_at "mine units"
      case u => walk_at "mine units"
      clear F9 N9
      intro x dx rl es kx kr2 h' tk' F' N' hE l1 l2 l3
      have hsx1 : @Ne Nat src dx := Nat.ne_of_lt (l1 (src, _) (by k_mem))
      have hsx2 : @Ne Nat src x := Nat.ne_of_lt (Nat.lt_trans (l1 (src, _) (by k_mem)) l2)
      have hsx3 : @Ne Nat src rl := l3 (src, _) (by k_mem)
      clear l1 l3
      k_steps
      rename (News _ _ _ (_ :: _)) => N9
      rename (Fr _ _ _ _) => F9
      have hOk : CodeOk (codeOf ds bs ro) := codeOk_of hdk hd14 hbs hbs4 hro
      have S133 := code_rows_spec B _ hOk
      have hx0 : H.get? x = none := News.none' (a := x) N9 (by k_mem)
      have hdx0 : H.get? dx = none := News.none' (a := dx) N9 (by k_mem)
      have C9 := codeAt_of (x := x) F9 N9 (by k_mem) (by k_mem) (by k_mem) (by k_mem) hE hrd BZ (by walk_at "mine drop")
      refine Halt.get ?_
      refine' call_sp S133 ?F ?N hst rfl rfl ?d ?u ⟨x, dx, es, kx, rl, Db, rys, bvs, kr2, kb, rfl, hx0, hdx0, C9⟩ (fun _ _ p => p.2) ?_
      case F => k_asm
      case N => k_asm
      case d => walk_at "mine units"
      case u => walk_at "mine units"
      clear C9
      intro r' h' tk' F' N' b' p'
      obtain ⟨⟨Rf, ys, kf, rfl, e0, e1, hys⟩, _⟩ := p'
      have N8 := news_new F9 N9 (fun b o e => b' b o e (by simp)) e0 e1
      have hsx7 : @Ne Nat src Rf := ne_new N9 (by k_mem) e0
      clear F9 N9 N' e0 e1 b' S133
      rw [crows_of, head_of hro] at hys
      obtain ⟨tf, ys, rfl, hys1⟩ := strs_cons hys
      obtain ⟨hys2, hys3⟩ := strs_app hys1
      have htok : HaltTok := trivial
      k_steps
      refine Halt.get ?_
      rename (News _ _ _ (_ :: _)) => N9
      rename (Fr _ _ _ _) => F9
      have hdvl : dvs.length = (dues bs).length := (DZ _ (Keeps.of F9 N9 (by walk_at "mine drop"))).length
      refine str_cut F9 N9 (Str.ofString "head") (Str.ofString "main.f: captured 1, parameters 2, results 3" ++ recT ro) ?_ ?_
      · clear hys hys1 hys2 hys3
        rcases hro with rfl | rfl
        · (try dsimp +zetaDelta only [Fold, recV] at F9)
          k_steps
          exact StrMid.intro (by assumption) (by assumption)
        · (try dsimp +zetaDelta only [Fold, recV] at F9)
          k_steps
          exact StrMid.intro (by assumption) (by assumption)
      clear F9 N9
      intro h' tk' t9 F' N'
      simp only [List.length_mapIdx, hd14] at hys2 hys3
      have hyl : ys.length = 14 + dvs.length := by
        have q := hys1.len_eq
        simp only [List.append_eq, List.length_append, List.length_mapIdx, List.length_map] at q
        omega
      have hr14 : rys.length = 14 := by omega
      k_steps
      rename (News _ _ _ (_ :: _)) => N9
      rename (Fr _ _ _ _) => F9
      refine .enum _ _ Dr rys _ (fun i zs => StrsAre zs ((ds.take i).mapIdx regRow)) rfl rfl F9 N9 (by assumption) (by assumption) (isList_of N9 (by k_mem)) (by assumption) ?e1 ?e2 (by assumption) (by assumption) (by assumption) (by assumption) (by assumption) (by omega) (by simpa using StrsAre.nil) ?e3 ?e4 ?e5
      case e1 =>
        rename (∀ p : Addr × Obj, p ∈ _ → p.1 ≠ _ ∧ p.1 ≠ _) => q9
        exact (q9 (Dr, _) (by k_mem)).1
      case e2 =>
        rename (∀ p : Addr × Obj, p ∈ _ → p.1 ≠ _ ∧ p.1 ≠ _) => q9
        exact (q9 (Dr, _) (by k_mem)).2
      case e3 =>
        intro i zs e
        rw [e.len_eq, List.length_mapIdx]
        exact List.length_take_le ..
      case e4 =>
        clear F9 N9
        intro C i t v zs s₃ m₃ E' hi hI hn hm hm2 F' N'
        obtain ⟨d, hd, rd⟩ := hrd.get hi
        have hk := hdk d (List.mem_of_getElem? hd)
        have S98 := type_text_spec B d hk
        have lt1 := tyText_len hk
        have hi14 : i < 14 := by have := (List.getElem?_eq_some_iff.mp hi).1; omega
        have hib : (i : Int) < 1000 := by omega
        have hib0 : (0 : Int) ≤ i := by omega
        k_steps
        refine EltEnd.intro (by assumption) ?_
        rw [take_mapIdx regRow hd]
        exact StrsAre_snoc hI
      case e5 =>
        clear F9 N9
        intro D h' tk' zs k' hD2 F' N' hI
        rw [hr14, ← hd14, List.take_length] at hI
        have hsx9 : @Ne Nat src D := hD2 (src, _) (by k_mem)
        have hys4 : StrsAre (List.take (15 - 1) (List.drop 1 (Value.str (Str.ofString "main.f: captured 1, parameters 2, results 3" ++ recT ro) tf :: ys))) (ds.mapIdx regRow) := hys2
        have hdv24 : dvs.length ≤ 24 := by omega
        k_steps
        rename (News _ _ _ (_ :: _)) => N9
        rename (Fr _ _ _ _) => F9
        have hJ := join_big hdk hd14 hbs hbs4 hro
        have S140 := code_text_spec B _ hOk hJ
        have C9 := codeAt_of (x := x) F9 N9 (by k_mem) (by k_mem) (by k_mem) (by k_mem) hE hrd BZ (by walk_at "mine drop")
        refine Halt.get ?_
        refine' call_sp S140 ?F ?N hst rfl rfl ?d ?u ⟨x, dx, es, kx, rl, Db, rys, bvs, kr2, kb, rfl, hx0, hdx0, C9⟩ (fun _ _ p => p.2) ?_
        case F => k_asm
        case N => k_asm
        case d => walk_at "mine units"
        case u => walk_at "mine units"
        clear C9 S140 F9 N9
        intro r' h' tk' F' N' b' p'
        obtain ⟨⟨tT, e9⟩, _⟩ := p'
        rw [crows_of, head_of hro] at e9 hJ
        subst e9
        clear b'
        k_steps
        rename (News _ _ _ (_ :: _)) => N9
        rename (Fr _ _ _ _) => F9
        rename (ZipNew _ _ _ _ _ _ _ _ _ _ _ _ _) => hZ
        rename (ZipOld _ _ _ _ _) => hO
        refine ⟨_, _, _, _, _, _, _, _, _, _, _, _, rfl, rfl, hZ, by assumption, F9, N9, ?z1, ?z2, ?z3, ?z4, ?z5⟩
        case z1 =>
          simp only [List.length_drop, List.length_cons]
          omega
        case z2 =>
          obtain ⟨hp, Fp, Np, kp⟩ := hO
          intro v hv
          obtain ⟨e, he⟩ := (DZ _ (Keeps.of Fp Np (by walk_at "mine drop"))).mem hv
          obtain ⟨T, a, b, rfl, o, ho, _⟩ := he.tup
          exact ⟨T, rfl, kp _ _ ho⟩
        case z3 =>
          intro h m' F N v hv
          obtain ⟨e, he⟩ := (DZ _ (Keeps.of F N (by walk_at "mine drop"))).mem hv
          exact he.tup
        case z4 =>
          clear F9 N9 hO hZ
          intro i v1 T a b m₁ s₃ E' h1 h2 hT F' N' hM
          obtain ⟨vx, vr, vt, rfl⟩ := hM
          obtain ⟨e, he, hDue⟩ := (DZ _ (Keeps.of F' N' (by walk_at "mine drop"))).get h2
          obtain ⟨t8, rfl⟩ := strs_get (x := dueText e) hys3 (i := i) h1 (by rw [List.getElem?_map, he]; rfl)
          have hok := dues_ok hbs e (List.mem_of_getElem? he)
          cases e with
          | head x8 =>
            obtain ⟨t, tk, n8, e8, e9⟩ := hDue
            cases e8
            obtain ⟨rfl, rfl⟩ := tup_same hT e9
            k_steps
            exact GrowZ.intro (s₃ := s₃) (h' := s₃.heap) (tk' := s₃.toks) fun _ _ e => e
          | row d8 ns8 =>
            obtain ⟨t, rowv, l, row, ys8, ns, n8, e8, e9, rd8, el8, hi8, ⟨rfl, rfl⟩, _⟩ := hDue
            cases e8
            obtain ⟨rfl, rfl⟩ := tup_same hT e9
            have S206 := row_right_spec B _ _ hok
            k_steps
            refine Halt.get ?_
            refine' call_sp S206 ?F ?N hst rfl rfl ?d ?u ⟨t8, _, _, _, _, rfl, rd8, el8, hi8⟩ (fun _ _ p => p.2) ?_
            case F => k_asm
            case N => k_asm
            case d => walk_at "mine units"
            case u => walk_at "mine units"
            intro r' h' tk' F' N' b' p'
            obtain ⟨rfl, _⟩ := p'
            k_steps
            exact GrowZ.intro fun b o e => b' b o e (by simp)
        case z5 =>
          clear F9 N9 hO hZ
          intro h' tk' vx vr vt F' N'
          k_steps
          rename (News _ _ _ (_ :: _)) => N9
          rename (Fr _ _ _ _) => F9
          refine Halt.get ?_
          refine' T_code0 B ?hst6 F9 N9 ?m6 ?z6 rfl rfl ?d6 ?u6 ?_
          case hst6 => assumption
          case m6 => k_mem
          case z6 => simp
          case d6 => walk_at "mine units"
          case u6 => walk_at "mine units"
          clear F9 N9
          intro x6 dx6 rl6 es6 kx6 kr6 h' tk' F' N' hE6 l1 l2 l3
          have hsx4 : @Ne Nat src dx6 := Nat.ne_of_lt (l1 (src, _) (by k_mem))
          have hsx5 : @Ne Nat src x6 := Nat.ne_of_lt (Nat.lt_trans (l1 (src, _) (by k_mem)) l2)
          have hsx6 : @Ne Nat src rl6 := l3 (src, _) (by k_mem)
          clear l1 l3
          have C8 := small_at (x := x6) N' (by k_mem) (by k_mem) (by k_mem) (by k_mem) (by k_mem) (by k_mem) (by k_mem) (by k_mem) (by k_mem) (by k_mem) (by k_mem) hE6
          have hx6 : H.get? x6 = none := News.none' (a := x6) N' (by k_mem)
          have hdx6 : H.get? dx6 = none := News.none' (a := dx6) N' (by k_mem)
          have S133 := code_rows_spec B _ small_ok
          k_steps
          rename (News _ _ _ _) => N'
          rename (Fr _ _ _ _) => F'
          refine Halt.get ?_
          refine' call_sp S133 ?F6 ?N6 hst rfl rfl ?d7 ?u7 ⟨x6, dx6, es6, kx6, rl6, _, _, _, kr6, _, rfl, hx6, hdx6, C8⟩ (fun _ _ p => p.2) ?_
          case F6 => k_asm
          case N6 => k_asm
          case d7 => walk_at "mine units"
          case u7 => walk_at "mine units"
          clear C8
          intro r' h' tk' F9 N9 b' p'
          obtain ⟨⟨R6, ys6, k6, rfl, e0, e1, hys6⟩, _⟩ := p'
          have N8 := news_new F' N' (fun b o e => b' b o e (by simp)) e0 e1
          have hsx8 : @Ne Nat src R6 := ne_new N' (by k_mem) e0
          clear F' N' N9 e0 e1 b' S133
          rw [small_rows] at hys6
          obtain ⟨u1, ys7, rfl, hg1⟩ := strs_cons hys6
          obtain ⟨u2, ys8, rfl, hg2⟩ := strs_cons hg1
          obtain ⟨u3, ys9, rfl, hg3⟩ := strs_cons hg2
          obtain ⟨u4, ys6, rfl, hg4⟩ := strs_cons hg3
          have hyl6 := hg4.len_eq
          simp only [List.length_cons, List.length_nil] at hyl6
          clear hg1 hg2 hg3 hg4 hys6
          have S211 := constants_spec B src hsrc
          k_steps
          rename (News _ _ _ (_ :: _)) => N9
          rename (Fr _ _ _ _) => F9
          refine Halt.get ?_
          refine' call_src (f := 211) S211 F9 N9 ?m9 ?a9 ?b9 ?b99 ?U9 hst rfl rfl ?d9 ?u9 rfl ?_
          case m9 => k_mem
          case a9 => assumption
          case b9 => assumption
          case b99 => assumption
          case U9 => (intro a1 a2 a3 a4 a5; k_upd)
          case d9 => walk_at "mine units"
          case u9 => walk_at "mine units"
          intro r' h' tk' a' ta' b' tb' n' p' F' N' x1' x2' x3' y'
          have e9 : r' = Value.bool true := p'
          subst e9
          k_steps
          exact hQ _ _ fun b o e => Fr.keep (by assumption) b o e
end Mine
-- J1
open Mine
theorem PySem.Challenge.cw_on0012_01_holds : PySem.Challenge.rw_on0012_01.Holds :=
  Mine.hd (by
  k_fill
  intro w s₀ s₁ mg mb G Y fa o pm cd doc dV kV ho hd hcd hD hmg hg args vals as hpre hlay hrd hwl hlo
  have KX := kIn_of Y
  have X := (Ground.X G).1
  have V := (Ground.X G).2
  refine Ground.open G ?_
  intro T B D TE TW
  try (refine guard_noD D (by decide +kernel) ?_; clear D)
  obtain ⟨_, _, M⟩ := bmod_of_top T
  have TA := at_of_top T
  try (obtain ⟨_, _, he, B0⟩ := based_of_top T rfl hmg ho hd; have he' : cd = _ := he; subst he'; clear he)
  clear hmg
  wrow_args hpre hlay hrd hwl hlo
  all_goals (
    first | refine callC_kw (enter_call ?_) | refine enter_call ?_
    w_top on
    try refine codeAny_mono ?_ (fun _ _ g => GoodW.toG g)
    have K0 := below_caller (Top.heap T)
    w_call any ho hd hcd hD T F
    clear hd TA
    k_drop
    skip)
  rename (Frag.In _ _) => kx
  rename (Top _ _ _ _ _ _) => tx
  rename (Fr _ _ _ _) => Fx
  rename (News _ _ _ _) => Nx
  rename (CellsAre _ _ _) => Yx
  rename (Heap.IsList _ _ _) => Lx
  rename (IntsAre _ _) => Ix
  refine' law_run (dp := 1 + claimMargin) (un := 4) (fr := some []) ⟨kx, tx⟩ ?hdp ?hun ?ho Fx Nx Yx Lx Ix ?hx ?hQ
  case ho => k_is
  case hdp => decide
  case hun => decide
  case hx => omega
  case hQ =>
    intro h' tk' kk
    show GoodW _ _ _ _ _ (.ok (.ret (.bool true))) _
    refine ⟨.inl ⟨_, _, _, rfl, raisesW_false ?_, ReadsW.bool true, ?_, fun _ => ⟨List.nodup_nil, by simp⟩⟩, kk, rfl, by assumption⟩
    · wrow_none_raised
    · wrow_post)
