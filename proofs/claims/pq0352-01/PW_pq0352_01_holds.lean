import PyProof.Rows.All
import Wide.All
import OpenK.AllK
import Wide.FinOn
import PySem.Challenge.RW_pq0352_01
open PySem PySem.W PyProof.Rows
set_option Elab.async false
set_option maxRecDepth 100000
set_option maxHeartbeats 8000000
namespace Mine
open_top hd for PySem.Challenge.rw_pq0352_01
local macro_rules | `(tactic| walk_at "call ref") => `(tactic| k_extra "call ref")
local macro_rules | `(tactic| walk_at "call type:int") => `(tactic| k_extra "call type:int")
local macro_rules | `(tactic| walk_at "eval IfExp") => `(tactic| k_extra "eval IfExp")
local macro_rules | `(tactic| walk_at "exec If") => `(tactic| k_extra "exec If")
local macro_rules | `(tactic| walk_at "execs cons") => `(tactic| k_extra "execs cons")
local macro_rules | `(tactic| walk_at "isTrue BoolOp") => `(tactic| k_extra "isTrue BoolOp")
local macro_rules | `(tactic| walk_at "ite") => `(tactic| k_extra "ite")
local macro_rules | `(tactic| walk_at "subscriptTail") => `(tactic| k_extra "subscriptTail")
noncomputable abbrev PG := PySem.Challenge.rw_pq0352_01.row.prog
/-- what a call of the def at f does, from any frame: d levels of room are wanted -/
abbrev Cl (d : Nat) (w : World) (mean : ExcName → Option Value) (mg mb : Str → Option Value) (f : Addr) (news : List (Addr × Obj)) (pre : Prop) (vs : List Value)
    (Ret : Heap → Addr → (Str → Option Value) → Shared → (Value → Shared → Prop) → Prop) : Prop :=
  ∀ (dp un : Nat) (gd : Option (List Code)) (cn : Str) (cs : Scope) (a : Addr) (ccd : Value) (cl : List (Str × Addr)) (outer : List Env) (A₀ : Around) (base h₀ : Heap) (L : Addr) (m : Str → Option Value) (s : Shared) (Q E : Value → Shared → Prop),
    Below A₀ base outer h₀ → Fr h₀ L s.heap m → (hd.heap_39 w.params).In h₀ → News h₀ L s.heap news → Top hd.view_39 (looseW hd.view_39 []) mean mg mb h₀ → cs.kind = .function →
    pre → dp + d < recursionLimit → un + 8 * d < cLine → Ret h₀ L m s Q →
      wpAny (model PG w) (ktrTop dp un gd cn cs L a ccd cl outer) (call (.ref f) vs) Q E s
abbrev RetS (news : List (Addr × Obj)) (x : Str) (h₀ : Heap) (L : Addr) (m : Str → Option Value) (s : Shared) (Q : Value → Shared → Prop) : Prop :=
  ∀ (t : Tok) (h' : Heap) (tk' : Nat), Fr h₀ L h' m → News h₀ L h' news → Q (.str x t) { s with heap := h', toks := tk' }
theorem use {d : Nat} {w : World} {mean : ExcName → Option Value} {mg mb : Str → Option Value} {f : Addr} {news : List (Addr × Obj)} {pre : Prop} {vs : List Value}
    {Ret : Heap → Addr → (Str → Option Value) → Shared → (Value → Shared → Prop) → Prop}
    {dp un : Nat} {gd : Option (List Code)} {cn : Str} {cs : Scope} {a : Addr} {ccd : Value} {cl : List (Str × Addr)} {outer : List Env} {A₀ : Around} {base h₀ : Heap} {L : Addr} {m : Str → Option Value} {s : Shared} {Q E : Value → Shared → Prop}
    (C : Cl d w mean mg mb f news pre vs Ret) (ret : Ret h₀ L m s Q) (B : Below A₀ base outer h₀ := by k_asm) (F : Fr h₀ L s.heap m := by k_asm) (X : (hd.heap_39 w.params).In h₀ := by k_asm) (N : News h₀ L s.heap news := by k_asm) (T : Top hd.view_39 (looseW hd.view_39 []) mean mg mb h₀ := by k_asm) (hk : cs.kind = .function := by first | exact rfl | assumption)
    (hp : pre := by omega) (hd : dp + d < recursionLimit := by ktr_room) (hu : un + 8 * d < cLine := by ktr_units) :
    wpAny (model PG w) (ktrTop dp un gd cn cs L a ccd cl outer) (call (.ref f) vs) Q E s :=
  C _ _ _ _ _ _ _ _ _ _ _ _ _ _ _ _ _ B F X N T hk hp hd hu ret
/-- the same, where the def reads an object of the ledger -/
theorem useM {d : Nat} {w : World} {mean : ExcName → Option Value} {mg mb : Str → Option Value} {f : Addr} {news : List (Addr × Obj)} {pre : Prop} {vs : List Value} {V : Addr} {o : Obj} {x : Str}
    {dp un : Nat} {gd : Option (List Code)} {cn : Str} {cs : Scope} {a : Addr} {ccd : Value} {cl : List (Str × Addr)} {outer : List Env} {A₀ : Around} {base h₀ : Heap} {L : Addr} {m : Str → Option Value} {s : Shared} {Q E : Value → Shared → Prop}
    (C : Cl d w mean mg mb f ((V, o) :: news) pre vs (RetS ((V, o) :: news) x)) (ret : RetS news x h₀ L m s Q) (B : Below A₀ base outer h₀ := by k_asm) (F : Fr h₀ L s.heap m := by k_asm) (X : (hd.heap_39 w.params).In h₀ := by k_asm) (N : News h₀ L s.heap news := by k_asm) (hm : (V, o) ∈ news := by k_mem) (T : Top hd.view_39 (looseW hd.view_39 []) mean mg mb h₀ := by k_asm) (hk : cs.kind = .function := by first | exact rfl | assumption)
    (hp : pre := by omega) (hd : dp + d < recursionLimit := by ktr_room) (hu : un + 8 * d < cLine := by ktr_units) :
    wpAny (model PG w) (ktrTop dp un gd cn cs L a ccd cl outer) (call (.ref f) vs) Q E s :=
  C _ _ _ _ _ _ _ _ _ _ _ _ _ _ _ _ _ B F X (fun q hq => by
    rcases List.mem_cons.mp hq with rfl | hq
    · exact N _ hm
    · exact N _ hq) T hk hp hd hu fun t h' tk' F' N' => ret t h' tk' F' (cb_drop N' fun q hq => List.mem_cons_of_mem _ hq)
/-- where it reads two -/
theorem useM2 {d : Nat} {w : World} {mean : ExcName → Option Value} {mg mb : Str → Option Value} {f : Addr} {news : List (Addr × Obj)} {pre : Prop} {vs : List Value} {V I : Addr} {o o' : Obj} {x : Str}
    {dp un : Nat} {gd : Option (List Code)} {cn : Str} {cs : Scope} {a : Addr} {ccd : Value} {cl : List (Str × Addr)} {outer : List Env} {A₀ : Around} {base h₀ : Heap} {L : Addr} {m : Str → Option Value} {s : Shared} {Q E : Value → Shared → Prop}
    (C : Cl d w mean mg mb f ((V, o) :: (I, o') :: news) pre vs (RetS ((V, o) :: (I, o') :: news) x)) (ret : RetS news x h₀ L m s Q) (B : Below A₀ base outer h₀ := by k_asm) (F : Fr h₀ L s.heap m := by k_asm) (X : (hd.heap_39 w.params).In h₀ := by k_asm) (N : News h₀ L s.heap news := by k_asm) (hm : (V, o) ∈ news := by k_mem) (hi : (I, o') ∈ news := by k_mem) (T : Top hd.view_39 (looseW hd.view_39 []) mean mg mb h₀ := by k_asm) (hk : cs.kind = .function := by first | exact rfl | assumption)
    (hp : pre := by omega) (hd : dp + d < recursionLimit := by ktr_room) (hu : un + 8 * d < cLine := by ktr_units) :
    wpAny (model PG w) (ktrTop dp un gd cn cs L a ccd cl outer) (call (.ref f) vs) Q E s :=
  C _ _ _ _ _ _ _ _ _ _ _ _ _ _ _ _ _ B F X (fun q hq => by
    rcases List.mem_cons.mp hq with rfl | hq
    · exact N _ hm
    · rcases List.mem_cons.mp hq with rfl | hq
      · exact N _ hi
      · exact N _ hq) T hk hp hd hu fun t h' tk' F' N' => ret t h' tk' F' (cb_drop N' fun q hq => List.mem_cons_of_mem _ (List.mem_cons_of_mem _ hq))
theorem retS {h₀ : Heap} {L : Addr} {m : Str → Option Value} {news : List (Addr × Obj)} {s : Shared} {Q : Value → Shared → Prop} {x y : Str} {t : Tok} {h' : Heap} {tk' : Nat}
    (hret : ∀ (t : Tok) (h' : Heap) (tk' : Nat), Fr h₀ L h' m → News h₀ L h' news → Q (.str x t) { s with heap := h', toks := tk' }) (e : y = x) (F : Fr h₀ L h' m) (N : News h₀ L h' news) : Q (.str y t) { s with heap := h', toks := tk' } := by
  subst e
  exact hret t h' tk' F N

noncomputable def sgn (a b : Bool) : Str := if a then Str.ofString "-" else if b then Str.ofString "+" else Str.ofString ""
noncomputable def fieldF (x : Str) (n : Int) : Str := if n < x.length then Txt.mul (Str.ofString "*") n else Txt.mul (Str.ofString " ") (n - x.length) ++ x
noncomputable def figF (n p : Int) : Str := if n = 0 then Str.ofString "" else Str.ofString (toString n) ++ Txt.mul (Str.ofString "0") p

theorem sign_text_C {w mean mg mb} (news : List (Addr × Obj)) (a b : Bool) : Cl 4 w mean mg mb 67 news ((0 : Nat) ≤ 0) [.bool a, .bool b] (RetS news (sgn a b)) := by
  unfold Cl PG
  k_fill
  dsimp only [RetS]; intros; rename_i hret
  refine wpAny_call ?_
  k_dflt cell_enter
  k_steps
  all_goals (refine' retS hret ?e1 ?e2 ?e3; (case e2 => k_asm); (case e3 => k_asm); (case e1 => simp_all [sgn]))

theorem field_C {w mean mg mb} (news : List (Addr × Obj)) (x : Str) (t1 : Tok) (n : Int) (t2 : Tok) : Cl 4 w mean mg mb 60 news (x.length ≤ 30000 ∧ 0 ≤ n ∧ n ≤ 30000) [.str x t1, .int n t2] (RetS news (fieldF x n)) := by
  unfold Cl PG
  dsimp only [RetS]; intros; rename_i hp _ _ hret
  obtain ⟨hx, hn0, hn⟩ := hp
  refine wpAny_call ?_
  k_dflt cell_enter
  k_steps
  all_goals (refine' retS hret ?e1 ?e2 ?e3; (case e2 => k_asm); (case e3 => k_asm); (case e1 => (unfold fieldF; split <;> first | rfl | omega)))

theorem figures_of_C {w mean mg mb} (news : List (Addr × Obj)) (n : Int) (t1 : Tok) (p : Int) (t2 : Tok) : Cl 4 w mean mg mb 81 news (0 ≤ n ∧ n < 10000000 ∧ 1 ≤ p ∧ p ≤ 20000) [.int n t1, .int p t2] (RetS news (figF n p)) := by
  unfold Cl PG
  dsimp only [RetS]; intros; rename_i hp _ _ hret
  obtain ⟨hx, hx2, hn0, hn⟩ := hp
  refine wpAny_call ?_
  k_dflt cell_enter
  k_steps
  all_goals (refine' retS hret ?e1 ?e2 ?e3; (case e2 => k_asm); (case e3 => k_asm); (case e1 => (unfold figF; split <;> first | rfl | omega)))
/-- a goal that the walk leaves -/
def Later (P : Prop) : Prop := P
theorem later_ {P : Prop} (h : Later P) : P := h
/-- we are within a part whose ways meet -/
structure InJoin : Prop where
/-- the ways of an expression meet: what comes back is told by P, the frame and the ledger stand -/
def Met (h₀ : Heap) (L : Addr) (m : Str → Option Value) (news : List (Addr × Obj)) (s : Shared) (P : Value → Prop) (v : Value) (s' : Shared) : Prop :=
  ∃ h' tk', s' = { s with heap := h', toks := tk' } ∧ Fr h₀ L h' m ∧ News h₀ L h' news ∧ P v
theorem Met.mk {h₀ : Heap} {L : Addr} {m : Str → Option Value} {news : List (Addr × Obj)} {s : Shared} {P : Value → Prop} {v : Value} {h' : Heap} {tk' : Nat} (hP : P v) (F : Fr h₀ L h' m := by k_asm) (N : News h₀ L h' news := by k_asm) : Met h₀ L m news s P v { s with heap := h', toks := tk' } :=
  ⟨h', tk', rfl, F, N, hP⟩
theorem join_e {M : Model} {A : Around} {E : Value → Shared → Prop} {Q : Value → Shared → Prop} {s : Shared} {h₀ : Heap} {L : Addr} {m : Str → Option Value} {news : List (Addr × Obj)} {c : Sem Value} (P : Value → Prop)
    (hc : InJoin → wpAny M A c (fun v s' => Met h₀ L m news s P v s') E s)
    (hk : ∀ v h' tk', P v → Fr h₀ L h' m → News h₀ L h' news → Q v { s with heap := h', toks := tk' }) (_F : Fr h₀ L s.heap m := by k_asm) (_N : News h₀ L s.heap news := by k_asm) : wpAny M A c Q E s := by
  refine wpAny_mono (hc ⟨⟩) (fun v s' hq => ?_) fun _ _ h => h
  obtain ⟨h', tk', rfl, F, N, hP⟩ := hq
  exact hk v h' tk' hP F N
/-- the ways of a test meet -/
def MetB (h₀ : Heap) (L : Addr) (m : Str → Option Value) (news : List (Addr × Obj)) (s : Shared) (c : Bool) (b : Bool) (s' : Shared) : Prop :=
  ∃ h' tk', s' = { s with heap := h', toks := tk' } ∧ Fr h₀ L h' m ∧ News h₀ L h' news ∧ b = c
theorem MetB.mk {h₀ : Heap} {L : Addr} {m : Str → Option Value} {news : List (Addr × Obj)} {s : Shared} {c b : Bool} {h' : Heap} {tk' : Nat} (hP : b = c) (F : Fr h₀ L h' m := by k_asm) (N : News h₀ L h' news := by k_asm) : MetB h₀ L m news s c b { s with heap := h', toks := tk' } :=
  ⟨h', tk', rfl, F, N, hP⟩
theorem join_b {M : Model} {A : Around} {E : Value → Shared → Prop} {Q : Bool → Shared → Prop} {s : Shared} {h₀ : Heap} {L : Addr} {m : Str → Option Value} {news : List (Addr × Obj)} {t : Sem Bool} (c : Bool)
    (hc : InJoin → wpAny M A t (fun b s' => MetB h₀ L m news s c b s') E s)
    (hk : ∀ h' tk', Fr h₀ L h' m → News h₀ L h' news → Q c { s with heap := h', toks := tk' }) (_F : Fr h₀ L s.heap m := by k_asm) (_N : News h₀ L s.heap news := by k_asm) : wpAny M A t Q E s := by
  refine wpAny_mono (hc ⟨⟩) (fun b s' hq => ?_) fun _ _ h => h
  obtain ⟨h', tk', rfl, F, N, rfl⟩ := hq
  exact hk h' tk' F N
/-- the ways of a statement meet: it turns the frame to m' -/
def MetS (h₀ : Heap) (L : Addr) (m : Str → Option Value) (news : List (Addr × Obj)) (s : Shared) (x : Str) (P : Value → Prop) (f : Flow) (s' : Shared) : Prop :=
  ∃ v h' tk', f = .next ∧ s' = { s with heap := h', toks := tk' } ∧ Fr h₀ L h' (fun y => if y = x then some v else m y) ∧ News h₀ L h' news ∧ P v
theorem MetS.mk {h₀ : Heap} {L : Addr} {m m' : Str → Option Value} {news : List (Addr × Obj)} {s : Shared} {x : Str} {P : Value → Prop} {v : Value} {h' : Heap} {tk' : Nat} (F : Fr h₀ L h' m') (e : (fun y => if y = x then some v else m y) = m') (hP : P v) (N : News h₀ L h' news := by k_asm) : MetS h₀ L m news s x P .next { s with heap := h', toks := tk' } :=
  ⟨v, h', tk', rfl, rfl, e ▸ F, N, hP⟩
theorem join_s {M : Model} {A : Around} {E : Value → Shared → Prop} {Q : Flow → Shared → Prop} {s : Shared} {h₀ : Heap} {L : Addr} {m : Str → Option Value} {news : List (Addr × Obj)} {c : Sem Flow} (x : Str) (P : Value → Prop)
    (hc : InJoin → wpAny M A c (fun f s' => MetS h₀ L m news s x P f s') E s)
    (hk : ∀ v h' tk', P v → Fr h₀ L h' (fun y => if y = x then some v else m y) → News h₀ L h' news → Q .next { s with heap := h', toks := tk' }) (_F : Fr h₀ L s.heap m := by k_asm) (_N : News h₀ L s.heap news := by k_asm) : wpAny M A c Q E s := by
  refine wpAny_mono (hc ⟨⟩) (fun f s' hq => ?_) fun _ _ h => h
  obtain ⟨v, h', tk', rfl, rfl, F, N, hP⟩ := hq
  exact hk v h' tk' hP F N
theorem ad {m m' : Str → Option Value} {x : Str} {v : Value} (e : m' = m) (hx : m x = some v) : (fun y => if y = x then some v else m' y) = m := by
  funext y
  by_cases h : y = x
  · rw [if_pos h, h, hx]
  · rw [if_neg h, e]
theorem len_dot : (Str.ofString ".").length = 1 := by decide
theorem len_nodot : (Str.ofString "0.").length = 2 := by decide
theorem len_zero : (Str.ofString "0").length = 1 := by decide
theorem len_plus : (Str.ofString "+").length = 1 := by decide
theorem len_minus : (Str.ofString "-").length = 1 := by decide
theorem len_none : (Str.ofString "").length = 0 := by decide

noncomputable def expF (letter : Str) (p : Int) : Str := letter ++ (if p < 0 then Str.ofString "-" else Str.ofString "+") ++ Txt.mul (Str.ofString "0") (2 - (Str.ofString (toString (if p < 0 then -p else p))).length) ++ (Str.ofString (toString (if p < 0 then -p else p)))
theorem two_of : ∀ q : Fin 100, (Str.ofString (toString (q.val : Int))).length ≤ 2 := by decide +kernel
theorem itx_two {p : Int} (h : -99 ≤ p ∧ p ≤ 99) : (Str.ofString (toString (if p < 0 then -p else p))).length ≤ 2 := by
  have e : (if p < 0 then -p else p) = ((p.natAbs : Nat) : Int) := by split <;> omega
  rw [e]
  exact two_of ⟨p.natAbs, by omega⟩
noncomputable def pfF (sign whole rest : Str) (n : Int) : Str :=
  if (whole == Str.ofString "") = true then
    (if ((sign.length + (Str.ofString "0.").length + rest.length : Nat) : Int) ≤ n then fieldF ((sign ++ Str.ofString "0.") ++ rest) n else fieldF (((sign ++ whole) ++ Str.ofString ".") ++ rest) n)
  else fieldF (((sign ++ whole) ++ Str.ofString ".") ++ rest) n
theorem not_none {z : Str} (h : 1 ≤ z.length) : (z == Str.ofString "") = false := by
  rw [beq_eq_false_iff_ne]
  intro e
  rw [e, len_none] at h
  omega
theorem not_dot {x y z : Str} (h : 1 ≤ z.length) : (x ++ y ++ Str.ofString "." ++ z == x ++ Str.ofString ".") = false := by
  rw [beq_eq_false_iff_ne]
  intro e
  have := congrArg Str.length e
  simp only [Str.length_append] at this
  omega

theorem exponent_text_C {w mean mg mb} (news : List (Addr × Obj)) (x : Str) (t1 : Tok) (p : Int) (t2 : Tok) : Cl 8 w mean mg mb 116 news (x.length ≤ 10 ∧ -99 ≤ p ∧ p ≤ 99) [.str x t1, .int p t2, .none] (RetS news (expF x p)) := by
  k_with_none
  k_with "exec If" => (k_here; (fail_if_success (with_reducible rename InJoin => hJ)); (with_reducible show wpAny _ _ (exec (Stmt.If _ (Stmt.Assign [PySem.Expr.Name (Str.ofString "sign") _] _ _ :: _) _ _) _) _ _ _); refine later_ ?_)
  k_with "call ref" => (k_here; k_dflt (refine use (field_C _ _ _ _ _) ?_ (hp := ⟨by omega, hn0, hn⟩)); intro t9 h9 tk9 F9 N9; (try dsimp only); (try k_fold))
  unfold Cl PG
  k_fill
  dsimp only [RetS]; intros; rename_i hp _ _ hret
  obtain ⟨hx, hn0, hn⟩ := hp
  have hl := itx_two ⟨hn0, hn⟩
  refine wpAny_call ?_
  k_dflt cell_enter
  k_steps
  unfold Later
  k_dflt (refine join_s (Str.ofString "sign") (fun v => ∃ z t, v = .str z t ∧ z = if p < 0 then Str.ofString "-" else Str.ofString "+") ?ca ?ka)
  case ca =>
    intro mk
    k_steps
    all_goals first | exact MetS.mk (by k_asm) (by exact ad rfl rfl) ⟨_, _, rfl, (if_neg (by assumption)).symm⟩ | exact MetS.mk (by k_asm) (by rfl) ⟨_, _, rfl, (if_pos (by assumption)).symm⟩
  intro v1 h1 k1 hv1 F1 N1
  obtain ⟨z, t6, e1, hz⟩ := hv1
  subst e1
  have hzl : z.length = 1 := by rw [hz]; split <;> decide
  k_steps
  all_goals (subst hz; refine' retS hret ?e1 ?e2 ?e3; (case e2 => k_asm); (case e3 => k_asm); (case e1 => rfl))

theorem point_field_C {w mean mg mb} (news : List (Addr × Obj)) (x : Str) (t1 : Tok) (y : Str) (t2 : Tok) (z : Str) (t3 : Tok) (n : Int) (t4 : Tok) : Cl 8 w mean mg mb 95 news
   (x.length ≤ 2 ∧ y.length ≤ 10000 ∧ 1 ≤ z.length ∧ z.length ≤ 10000 ∧ 0 ≤ n ∧ n ≤ 30000) [.str x t1, .str y t2, .str z t3, .int n t4] (RetS news (pfF x y z n)) := by
  unfold Cl PG
  dsimp only [RetS]; intros; rename_i hp _ _ hret
  obtain ⟨hx, hy, hz, hz', hn0, hn⟩ := hp
  have hzn := not_none hz
  have := len_dot; have := len_nodot; have := len_zero
  refine wpAny_call ?_
  k_dflt cell_enter
  k_steps
  all_goals (refine' retS hret ?e1 ?e2 ?e3; (case e2 => k_asm); (case e3 => k_asm); (case e1 => (unfold pfF; (repeat' split) <;> first | rfl | (exfalso; omega) | (exfalso; simp_all; done) | (exfalso; simp_all; omega))))

/-- the text that the law lays, ahead of its field -/
noncomputable def txF (x y z : Str) (n : Int) : Str := if (y == Str.ofString "") = true ∧ ((x.length + (Str.ofString "0.").length + z.length : Nat) : Int) ≤ n then (x ++ Str.ofString "0.") ++ z else ((x ++ y) ++ Str.ofString ".") ++ z
theorem pfF_eq (x y z : Str) (n : Int) : pfF x y z n = fieldF (txF x y z n) n := by
  unfold pfF txF
  by_cases h : (y == Str.ofString "") = true
  · rw [if_pos h]
    split
    · rename_i h2; rw [if_pos ⟨h, h2⟩]
    · rename_i h2; rw [if_neg fun q => h2 q.2]
  · rw [if_neg h, if_neg fun q => h q.1]
theorem tx_1 {x y z : Str} {n : Int} (h : (y == Str.ofString "") = true) (k : ((x.length + (Str.ofString "0.").length + z.length : Nat) : Int) ≤ n) : (x ++ Str.ofString "0.") ++ z = txF x y z n := (if_pos ⟨h, k⟩).symm
theorem tx_2 {x y z : Str} {n : Int} (_h : (y == Str.ofString "") = true) (k : ¬ ((x.length + (Str.ofString "0.").length + z.length : Nat) : Int) ≤ n) : ((x ++ y) ++ Str.ofString ".") ++ z = txF x y z n := (if_neg fun q => k q.2).symm
theorem tx_3 {x y z : Str} {n : Int} (h : (y == Str.ofString "") = false) : ((x ++ y) ++ Str.ofString ".") ++ z = txF x y z n := (if_neg fun q => by rw [h] at q; exact absurd q.1 (by decide)).symm
theorem txF_len {x y z : Str} {n : Int} : (txF x y z n).length ≤ x.length + y.length + 2 + z.length := by
  unfold txF
  split
  · simp only [Str.length_append, len_nodot]; omega
  · simp only [Str.length_append, len_dot]; omega

theorem law_laid_C {w mean mg mb} (news : List (Addr × Obj)) (x : Str) (t1 : Tok) (y : Str) (t2 : Tok) (z : Str) (t3 : Tok) (n : Int) (t4 : Tok) : Cl 8 w mean mg mb 193 news
   (x.length ≤ 2 ∧ y.length ≤ 10000 ∧ 1 ≤ z.length ∧ z.length ≤ 10000 ∧ 0 ≤ n ∧ n ≤ 30000) [.str x t1, .str y t2, .str z t3, .int n t4] (RetS news (pfF x y z n)) := by
  unfold Cl PG
  dsimp only [RetS]; intros; rename_i hp _ _ hret
  obtain ⟨hx, hy, hz, hz', hn0, hn⟩ := hp
  have hzn := not_dot (x := x) (y := y) hz
  have := len_dot; have := len_nodot; have := len_zero
  have hyl : (y == Str.ofString "") = true → y.length = 0 := fun h => by rw [eq_of_beq h]; decide
  k_with "exec If" => (k_here; (fail_if_success (with_reducible rename InJoin => hJ)); (with_reducible show wpAny _ _ (exec (Stmt.If _ (Stmt.Assign [PySem.Expr.Name (Str.ofString "text") _] _ _ :: _) _ _) _) _ _ _); refine later_ ?_)
  refine wpAny_call ?_
  k_dflt cell_enter
  k_steps
  unfold Later
  k_dflt (refine join_s (Str.ofString "text") (fun v => ∃ u t, v = .str u t ∧ u = txF x y z n) ?ca ?ka)
  case ca =>
    intro mk
    k_steps
    all_goals first
      | exact MetS.mk (by k_asm) (by rfl) ⟨_, _, rfl, tx_1 (by assumption) (by have := hyl (by assumption); omega)⟩
      | exact MetS.mk (by k_asm) (by exact ad rfl rfl) ⟨_, _, rfl, tx_2 (by assumption) (by have := hyl (by assumption); omega)⟩
      | exact MetS.mk (by k_asm) (by exact ad rfl rfl) ⟨_, _, rfl, tx_3 (by assumption)⟩
  intro v1 h1 k1 hv1 F1 N1
  obtain ⟨u, t6, e1, hu⟩ := hv1
  subst e1
  have hul := txF_len (x := x) (y := y) (z := z) (n := n)
  rw [← hu] at hul
  k_steps
  all_goals (refine' retS hret ?e1 ?e2 ?e3; (case e2 => k_asm); (case e3 => k_asm); (case e1 => (rw [pfF_eq, ← hu]; unfold fieldF; first | exact (if_pos (by assumption)).symm | exact (if_neg (by assumption)).symm)))
local macro_rules | `(tactic| k_all) => `(tactic| assumption)
noncomputable abbrev tubO (l : Addr) (a : Int) (t : Tok) (c : Nat) : Obj := listOf #[.ref l, .int a t] c
abbrev RetG (D l : Addr) (lo : Obj) (rest : List (Addr × Obj)) (a many : Int) (h₀ : Heap) (L : Addr) (m : Str → Option Value) (s : Shared) (Q : Value → Shared → Prop) : Prop :=
  ∀ (r : Int) (t t' : Tok) (c' : Nat) (h' : Heap) (tk' : Nat), 0 ≤ r → r < many → Fr h₀ L h' m → News h₀ L h' ((D, tubO l (a + 1) t' c') :: (l, lo) :: rest) → Q (.int r t) { s with heap := h', toks := tk' }

theorem law_get_C {w mean mg mb} (D l : Addr) (a : Int) (t : Tok) (c : Nat) (vs : List Value) (ns : List Int) (c2 : Nat) (rest : List (Addr × Obj)) (many : Int) (t2 : Tok) :
   Cl 4 w mean mg mb 179 ((D, tubO l a t c) :: (l, listOf vs.toArray c2) :: rest) (IntsAre vs ns ∧ ns.length ≤ 100 ∧ 0 ≤ a ∧ a ≤ 1000 ∧ 1 ≤ many ∧ many ≤ 100 ∧ l ≠ D ∧ (∀ p ∈ rest, p.1 ≠ D)) [.ref D, .int many t2]
     (RetG D l (listOf vs.toArray c2) rest a many) := by
  unfold Cl PG
  k_fill
  dsimp only [RetG]; intros; rename_i hp _ _ hret
  obtain ⟨hI, hlen, ha0, ha1, hm0, hm1, hlD, hR⟩ := hp
  refine wpAny_call ?_
  k_dflt cell_enter
  k_steps
  all_goals (refine' hret _ _ _ _ _ _ ?e0 ?e1 ?e2 ?e3; (case e0 => exact Int.fmod_nonneg_of_pos _ (by omega)); (case e1 => exact Int.fmod_lt_of_pos _ (by omega)); (case e2 => k_asm); (case e3 => k_asm))
section
open PySem.Builtin PySem.Builtin.Str
abbrev lst (x : Str) : List Nat := x.cps.toList
theorem lst_inj {x y : Str} (h : lst x = lst y) : x = y := by
  obtain ⟨a⟩ := x
  obtain ⟨b⟩ := y
  exact congrArg Str.mk (Array.toList_inj.mp h)
theorem lst_len (x : Str) : (lst x).length = x.length := by simp [lst, Str.length]
theorem lst_add (x y : Str) : lst (x ++ y) = lst x ++ lst y := by
  show (x.cps ++ y.cps).toList = _
  simp
theorem reps_list (c : Array Nat) : ∀ (k : Nat) (acc : Array Nat), ((List.replicate k c).foldl (· ++ ·) acc).toList = acc.toList ++ (List.replicate k c.toList).flatten
  | 0, acc => by simp
  | k + 1, acc => by
    rw [List.replicate_succ, List.foldl_cons, reps_list c k]
    simp [List.replicate_succ]
theorem lst_mul {x : Str} {c : Nat} (hx : lst x = [c]) (n : Int) : lst (Txt.mul x n) = List.replicate n.toNat c := by
  have hl : x.length = 1 := by rw [← lst_len, hx]; rfl
  unfold Txt.mul
  by_cases h1 : n < 1
  · rw [if_pos h1]
    have e : n.toNat = 0 := by omega
    rw [e]; rfl
  · rw [if_neg h1]
    split
    · rename_i h
      rw [hl] at h
      have e : n.toNat = 1 := by simp at h; omega
      rw [e, hx]; rfl
    · show ((List.replicate n.toNat x.cps).foldl (· ++ ·) #[]).toList = _
      rw [reps_list]
      have hx' : x.cps.toList = [c] := hx
      rw [hx']
      simp
theorem lst_zero : lst (Str.ofString "0") = [48] := by decide
theorem lst_zeros (n : Int) : lst (Txt.mul (Str.ofString "0") n) = List.replicate n.toNat 48 := lst_mul lst_zero n
theorem lst_from {x : Str} {i : Int} (h0 : 0 ≤ i) (h1 : i ≤ x.length) : lst (Txt.slice x (some i) none) = (lst x).drop i.toNat := by
  rw [slice_from_eq h0 h1 rfl]
  show (List.take _ (List.drop _ _)) = _
  apply List.take_of_length_le
  rw [List.length_drop]
  have := lst_len x
  simp only [lst] at this
  omega
theorem lst_to {x : Str} {i : Int} (h0 : 0 ≤ i) (h1 : i ≤ x.length) : lst (Txt.slice x none (some i)) = (lst x).take i.toNat := by
  rw [beq_iff_eq.mp (slice_closes_toL h0 h1)]
  show (List.take _ (List.drop _ _)) = _
  simp [lst]
theorem to_neg {n : Nat} {i : Int} (h0 : i < 0) (h1 : 0 ≤ i + n) : strSliceIndices none (some i) 1 n = strSliceIndices none (some (i + n)) 1 n := by
  have a : ¬ (i + n < 0) := by omega
  have h2 : (1 : Int) > 0 := by decide
  simp only [strSliceIndices, h0, a, h2, if_false, if_true]
theorem from_neg {n : Nat} {i : Int} (h0 : i < 0) (h1 : 0 ≤ i + n) : strSliceIndices (some i) none 1 n = strSliceIndices (some (i + n)) none 1 n := by
  have a : ¬ (i + n < 0) := by omega
  have h2 : (1 : Int) > 0 := by decide
  simp only [strSliceIndices, h0, a, h2, if_false, if_true]
theorem lst_to_neg {x : Str} {i : Int} (h0 : i < 0) (h1 : 0 ≤ i + x.length) : lst (Txt.slice x none (some i)) = (lst x).take (i + x.length).toNat := by
  have e : Txt.slice x none (some i) = Txt.slice x none (some (i + x.length)) := by
    unfold Txt.slice
    rw [to_neg h0 h1]
  rw [e, lst_to h1 (by omega)]
theorem lst_from_neg {x : Str} {i : Int} (h0 : i < 0) (h1 : 0 ≤ i + x.length) : lst (Txt.slice x (some i) none) = (lst x).drop (i + x.length).toNat := by
  have e : Txt.slice x (some i) none = Txt.slice x (some (i + x.length)) none := by
    unfold Txt.slice
    rw [from_neg h0 h1]
  rw [e, lst_from h1 (by omega)]
theorem len_from {x : Str} {i : Int} (h0 : 0 ≤ i) (h1 : i ≤ x.length) : ((Txt.slice x (some i) none).length : Int) = x.length - i := by
  rw [← lst_len, lst_from h0 h1, List.length_drop, lst_len]
  omega
theorem len_to {x : Str} {i : Int} (h0 : 0 ≤ i) (h1 : i ≤ x.length) : ((Txt.slice x none (some i)).length : Int) = i := by
  rw [← lst_len, lst_to h0 h1, List.length_take, lst_len]
  omega
theorem len_zeros (n : Int) : (Txt.mul (Str.ofString "0") n).length = n.toNat := by
  rw [← lst_len, lst_zeros, List.length_replicate]
noncomputable abbrev tupO (xs : Array Value) (c : Nat) : Obj := { cls := .type "tuple", data := .seq xs c }
noncomputable abbrev ab (v : Int) : Int := if v < 0 then -v else v
theorem sgn_len (a b : Bool) : (sgn a b).length ≤ 1 := by cases a <;> cases b <;> decide
theorem itx_len {n : Int} (h : 0 ≤ n) (h2 : n < 10000000) : (Str.ofString (toString n)).length ≤ 8 := by
  rw [PySem.ofString_length]
  exact PySem.int_text_length_le10 (k := 7) (by decide) (by omega)
theorem fig_len {n p : Int} (h : 0 ≤ n) (h2 : n < 10000000) (hp : 0 ≤ p) : ((figF n p).length : Int) ≤ 8 + p := by
  unfold figF
  split
  · rw [len_none]; omega
  · rw [Str.length_append, len_zeros]
    have := itx_len h h2
    omega
end
local macro_rules | `(tactic| walk_at "subscriptTail Name Constant ref int") => `(tactic| (k_here; (with_reducible show wpAny _ _ (subscriptTail _ _ (Value.ref _) (Value.int _ _)) _ _ _); k_dflt (refine' item_tupleT ?t ?a ?b ?c ?d ?_; (case t => exact News.isTup (by k_asm) (by k_mem)); (case a => decide); (case b => decide); (case c => rfl); (case d => rfl); k_whole)))
theorem tail_ge {x : Str} {pl : Int} (h1 : 1 ≤ pl) (h2 : pl ≤ x.length) : 1 ≤ (Txt.slice x (some (x.length - pl)) none).length := by
  have := len_from (x := x) (i := x.length - pl) (by omega) (by omega)
  omega
noncomputable def dgF (v p pl sc : Int) : Str := Txt.mul (Str.ofString "0") (pl - (figF (ab v) (p + sc + pl)).length) ++ figF (ab v) (p + sc + pl)
noncomputable def fixF (v p pl sc : Int) (plus : Bool) (n : Int) : Str :=
  pfF (sgn (decide (v < 0) && (figF (ab v) (p + sc + pl) != Str.ofString "")) plus) (Txt.slice (dgF v p pl sc) none (some ((dgF v p pl sc).length - pl))) (Txt.slice (dgF v p pl sc) (some ((dgF v p pl sc).length - pl)) none) n

theorem edit_fixed_C {w mean mg mb} (V : Addr) (v : Int) (tv : Tok) (p : Int) (tp : Tok) (cv : Nat) (rest : List (Addr × Obj)) (n : Int) (t2 : Tok) (pl : Int) (t3 : Tok) (sc : Int) (t4 : Tok) (plus : Bool) :
   Cl 16 w mean mg mb 102 ((V, tupO #[.int v tv, .int p tp] cv) :: rest) (-10000000 < v ∧ v < 10000000 ∧ -16 ≤ p ∧ p ≤ 40 ∧ 20 ≤ pl ∧ pl ≤ 4400 ∧ -2 ≤ sc ∧ sc ≤ 4000 ∧ 0 ≤ n ∧ n ≤ 30000) [.ref V, .int n t2, .int pl t3, .int sc t4, .bool plus]
     (RetS ((V, tupO #[.int v tv, .int p tp] cv) :: rest) (fixF v p pl sc plus n)) := by
  k_with_none
  k_with "call ref" => (k_here; k_dflt (first | refine use (sign_text_C _ _ _) ?_ | refine use (figures_of_C _ _ _ _ _) ?_ (hp := ⟨hA.1, hA.2, by omega, by omega⟩) | refine use (point_field_C _ _ _ _ _ _ _ _ _) ?_ (hp := ⟨Nat.le_trans (sgn_len _ _) (by decide), by omega, tail_ge (by omega) (by omega), by omega, by omega, by omega⟩)); intro t9 h9 tk9 F9 N9; (try dsimp only); (try k_fold))
  unfold Cl PG
  k_fill
  dsimp only [RetS]; intros; rename_i hp _ _ hret
  obtain ⟨hv1, hv2, hp1, hp2, hl1, hl2, hs1, hs2, hn1, hn2⟩ := hp
  have hA : 0 ≤ (if v < 0 then -v else v) ∧ (if v < 0 then -v else v) < 10000000 := by split <;> omega
  have hF := fig_len (p := p + sc + pl) hA.1 hA.2 (by omega)
  refine wpAny_call ?_
  k_dflt cell_enter
  k_steps
  all_goals (refine' retS hret ?e1 ?e2 ?e3; (case e2 => k_asm); (case e3 => k_asm); (case e1 => first | (simp only [fixF, dgF, ab, decide_eq_true (by assumption : v < 0), Bool.true_and]) | (simp only [fixF, dgF, ab, decide_eq_false (by assumption : ¬ v < 0), Bool.false_and])))
theorem fig_eq {n q : Int} (h : n ≠ 0) (hq : 0 ≤ q) : ((figF n q).length : Int) = (Str.ofString (toString n)).length + q := by
  unfold figF
  rw [if_neg h, Str.length_append, len_zeros]
  omega
theorem expF_len {x : Str} {p : Int} (hx : x.length ≤ 10) (h : -99 ≤ p ∧ p ≤ 99) : 1 ≤ (expF x p).length ∧ (expF x p).length ≤ 20 := by
  have a := itx_two h
  have b : (if p < 0 then Str.ofString "-" else Str.ofString "+").length = 1 := by split <;> decide
  unfold expF
  simp only [Str.length_append, len_zeros, b]
  omega
abbrev RetP (news : List (Addr × Obj)) (x : Str) (P : Prop) (h₀ : Heap) (L : Addr) (m : Str → Option Value) (s : Shared) (Q : Value → Shared → Prop) : Prop :=
  ∀ (t : Tok) (h' : Heap) (tk' : Nat), P → Fr h₀ L h' m → News h₀ L h' news → Q (.str x t) { s with heap := h', toks := tk' }
theorem exponent_text_C' {w mean mg mb} (news : List (Addr × Obj)) (x : Str) (t1 : Tok) (p : Int) (t2 : Tok) : Cl 8 w mean mg mb 116 news (x.length ≤ 10 ∧ -99 ≤ p ∧ p ≤ 99) [.str x t1, .int p t2, .none] (RetP news (expF x p) (1 ≤ (expF x p).length ∧ (expF x p).length ≤ 20)) :=
  fun _ _ _ _ _ _ _ _ _ _ _ _ _ _ _ _ _ B F X N T hk hp hd hu ret => exponent_text_C news x t1 p t2 _ _ _ _ _ _ _ _ _ _ _ _ _ _ _ _ _ B F X N T hk hp hd hu fun t h' tk' F' N' => ret t h' tk' (expF_len hp.1 hp.2) F' N'
noncomputable def ldF (v c : Int) : Str := if v = 0 then Txt.mul (Str.ofString "0") c else figF (ab v) (c - (Str.ofString (toString (ab v))).length)
noncomputable def pwF (v p sc : Int) : Int := if v = 0 then 0 else (Str.ofString (toString (ab v))).length + p - sc
noncomputable def expE (x : Str) (v p pl sc : Int) (plus : Bool) (n : Int) : Str :=
  if 0 < sc then pfF (sgn (decide (v < 0)) plus) (Txt.slice (ldF v (pl + 1)) none (some sc)) (Txt.slice (ldF v (pl + 1)) (some sc) none ++ expF x (pwF v p sc)) n
  else pfF (sgn (decide (v < 0)) plus) (Str.ofString "") (Txt.mul (Str.ofString "0") (-sc) ++ ldF v (pl + sc) ++ expF x (pwF v p sc)) n

noncomputable def pw0 (v p : Int) : Int := if v = 0 then 0 else (Str.ofString (toString (ab v))).length + p
abbrev RetL (news : List (Addr × Obj)) (x : Str) (q : Int) (h₀ : Heap) (L : Addr) (m : Str → Option Value) (s : Shared) (Q : Value → Shared → Prop) : Prop :=
  ∀ (D : Addr) (t1 t2 : Tok) (c : Nat) (h' : Heap) (tk' : Nat), Fr h₀ L h' m → News h₀ L h' ((D, tupO #[.str x t1, .int q t2] c) :: news) → (∀ p ∈ news, p.1 < D) → Q (.ref D) { s with heap := h', toks := tk' }
theorem retL {h₀ : Heap} {L : Addr} {m : Str → Option Value} {news : List (Addr × Obj)} {s : Shared} {Q : Value → Shared → Prop} {x x' : Str} {q q' : Int} {D : Addr} {t1 t2 : Tok} {c : Nat} {h' : Heap} {tk' : Nat}
    (hret : RetL news x q h₀ L m s Q) (e1 : x' = x) (e2 : q' = q) (N : News h₀ L h' ((D, tupO #[.str x' t1, .int q' t2] c) :: news)) (l : ∀ p ∈ news, p.1 < D) (F : Fr h₀ L h' m := by k_asm) : Q (.ref D) { s with heap := h', toks := tk' } := by
  subst e1; subst e2
  exact hret D t1 t2 c h' tk' F N l
theorem leading_C {w mean mg mb} (V : Addr) (v : Int) (tv : Tok) (p : Int) (tp : Tok) (cv : Nat) (rest : List (Addr × Obj)) (c : Int) (t2 : Tok) :
   Cl 8 w mean mg mb 109 ((V, tupO #[.int v tv, .int p tp] cv) :: rest) (-10000000 < v ∧ v < 10000000 ∧ -16 ≤ p ∧ p ≤ 40 ∧ 12 ≤ c ∧ c ≤ 4500) [.ref V, .int c t2]
     (RetL ((V, tupO #[.int v tv, .int p tp] cv) :: rest) (ldF v c) (pw0 v p)) := by
  k_with_none
  k_with "call ref" => (k_here; k_dflt (first | refine use (sign_text_C _ _ _) ?_ | refine use (figures_of_C _ _ _ _ _) ?_ (hp := ⟨hA.1, hA.2, by omega, by omega⟩) | refine use (point_field_C _ _ _ _ _ _ _ _ _) ?_ (hp := ⟨Nat.le_trans (sgn_len _ _) (by decide), by omega, by omega, by omega, by omega, by omega⟩)); intro t9 h9 tk9 F9 N9; (try dsimp only); (try k_fold))
  k_with "call ref" => (k_here; k_dflt (refine use (exponent_text_C' _ _ _ _ _) ?_ (hp := ⟨by omega, hqb.1, hqb.2⟩)); intro t9 h9 tk9 hE9 F9 N9; (try dsimp only); (try k_fold))
  k_with "ite" => (k_here; k_openite; first | (refine ite_pos (by ((try simp only [decide_eq_true_eq, decide_eq_false_iff_not, bne_iff_ne, ne_eq, beq_iff_eq]); omega)) ?_; walk_say "OMEGA") | (refine ite_neg (by ((try simp only [decide_eq_true_eq, decide_eq_false_iff_not, bne_iff_ne, ne_eq, beq_iff_eq]); omega)) ?_; walk_say "OMEGA"))
  unfold Cl PG
  k_fill
  intros; rename_i hp _ _ hret
  obtain ⟨hv1, hv2, hp1, hp2, hc1, hc2⟩ := hp
  have hA : 0 ≤ (if v < 0 then -v else v) ∧ (if v < 0 then -v else v) < 10000000 := by split <;> omega
  have hL := itx_len hA.1 hA.2
  have hv0 : v = 0 ∨ (if v < 0 then -v else v) ≠ 0 ∧ v ≠ 0 := by
    by_cases h : v = 0
    · exact .inl h
    · refine .inr ⟨?_, h⟩; split <;> omega
  refine wpAny_call ?_
  k_dflt cell_enter
  rcases hv0 with hv0 | ⟨hv0, hv9⟩
  · k_steps
    all_goals exact retL hret (if_pos hv0).symm (if_pos hv0).symm (by k_asm) (by first | assumption | exact ktn_ltOf (by assumption))
  · have hF := fig_eq (n := if v < 0 then -v else v) (q := c - (Str.ofString (toString (if v < 0 then -v else v))).length) hv0 (by omega)
    k_steps
    all_goals exact retL hret (if_neg hv9).symm (if_neg hv9).symm (by k_asm) (by first | assumption | exact ktn_ltOf (by assumption))
theorem pw_1 {v p sc : Int} (h : v ≠ 0) : pw0 v p - sc = pwF v p sc := by
  unfold pw0 pwF
  rw [if_neg h, if_neg h]
theorem pw_2 {v p sc : Int} (h : v = 0) : pw0 v p = pwF v p sc := by
  unfold pw0 pwF
  rw [if_pos h, if_pos h]
theorem ab_in {v : Int} (h1 : -10000000 < v) (h2 : v < 10000000) : 0 ≤ ab v ∧ ab v < 10000000 := by unfold ab; split <;> omega
theorem pwF_in {v p sc : Int} (h1 : -10000000 < v) (h2 : v < 10000000) (h3 : -16 ≤ p) (h4 : p ≤ 40) (h5 : -2 ≤ sc) (h6 : sc ≤ 3) : -99 ≤ pwF v p sc ∧ pwF v p sc ≤ 99 := by
  have hA := ab_in h1 h2
  have hL := itx_len hA.1 hA.2
  unfold pwF
  split <;> omega
theorem ldF_len {v c : Int} (h1 : -10000000 < v) (h2 : v < 10000000) (hc : 8 ≤ c) : ((ldF v c).length : Int) = c := by
  have hA := ab_in h1 h2
  have hL := itx_len hA.1 hA.2
  unfold ldF
  split
  · rw [len_zeros]; omega
  · rw [fig_eq (by unfold ab; split <;> omega) (by omega)]
    omega
theorem expE_pos {x : Str} {v p pl sc n : Int} {plus : Bool} (h : 0 < sc) : pfF (sgn (decide (v < 0)) plus) (Txt.slice (ldF v (pl + 1)) none (some sc)) (Txt.slice (ldF v (pl + 1)) (some sc) none ++ expF x (pwF v p sc)) n = expE x v p pl sc plus n := (if_pos h).symm
theorem expE_neg {x : Str} {v p pl sc n : Int} {plus : Bool} (h : ¬ 0 < sc) : pfF (sgn (decide (v < 0)) plus) (Str.ofString "") (Txt.mul (Str.ofString "0") (-sc) ++ ldF v (pl + sc) ++ expF x (pwF v p sc)) n = expE x v p pl sc plus n := (if_neg h).symm

theorem edit_exp_C {w mean mg mb} (x : Str) (tx : Tok) (V : Addr) (v : Int) (tv : Tok) (p : Int) (tp : Tok) (cv : Nat) (rest : List (Addr × Obj)) (n : Int) (t2 : Tok) (pl : Int) (t3 : Tok) (sc : Int) (t4 : Tok) (plus : Bool) :
   Cl 16 w mean mg mb 123 ((V, tupO #[.int v tv, .int p tp] cv) :: rest) (x.length = 1 ∧ -10000000 < v ∧ v < 10000000 ∧ -16 ≤ p ∧ p ≤ 40 ∧ 20 ≤ pl ∧ pl ≤ 4400 ∧ -2 ≤ sc ∧ sc ≤ 3 ∧ 0 ≤ n ∧ n ≤ 30000) [.str x tx, .ref V, .int n t2, .int pl t3, .none, .int sc t4, .bool plus]
     (RetS ((V, tupO #[.int v tv, .int p tp] cv) :: rest) (expE x v p pl sc plus n)) := by
  k_with "call ref" => (k_here; k_dflt (refine use (leading_C _ _ _ _ _ _ _ _ _) ?_ (hp := ⟨hv1, hv2, hp1, hp2, by omega, by omega⟩)); intro D9 t9 u9 c9 h9 tk9 F9 N9 l9; (try k_lt l9); (try dsimp only); (try k_fold))
  k_with "exec If" => (k_here; (fail_if_success (with_reducible rename InJoin => hJ)); (first | (with_reducible show wpAny _ _ (exec (Stmt.If _ (Stmt.Assign _ _ _ :: _) _ _) _) _ _ _) | (with_reducible show wpAny _ _ (exec (Stmt.If _ (Stmt.AugAssign _ _ _ _ :: _) _ _) _) _ _ _)); refine later_ ?_)
  unfold Cl PG
  k_fill
  dsimp only [RetS]; intros; rename_i hp _ _ hret
  obtain ⟨hx, hv1, hv2, hp1, hp2, hl1, hl2, hs1, hs2, hn1, hn2⟩ := hp
  have := len_none
  refine wpAny_call ?_
  k_dflt cell_enter
  k_steps
  -- the count
  unfold Later
  k_dflt (refine join_s (Str.ofString "count") (fun v => ∃ c t, v = .int c t ∧ c = if sc ≤ 0 then pl + sc else pl + 1) ?ca ?ka)
  case ca =>
    intro mk
    k_steps
    all_goals first | exact MetS.mk (by k_asm) (by exact ad rfl rfl) ⟨_, _, rfl, by split <;> omega⟩ | exact MetS.mk (by k_asm) (by rfl) ⟨_, _, rfl, by split <;> omega⟩
  intro v1 h1 k1 hv1' F1 N1
  obtain ⟨c, t6, e1, hc⟩ := hv1'
  subst e1
  repeat (rename (@LE.le Nat _ _ _ ∧ _) => hcl; clear hcl)
  have hcb : 18 ≤ c ∧ c ≤ 4450 := by rw [hc]; split <;> omega
  have hdl := ldF_len (c := c) hv1 hv2 (by omega)
  k_steps
  -- the power
  unfold Later
  k_dflt (refine join_s (Str.ofString "power") (fun u => ∃ q t, u = .int q t ∧ q = pwF v p sc) ?cb ?kb)
  case cb =>
    intro mk
    k_steps
    all_goals first | exact MetS.mk (by k_asm) (by exact ad rfl rfl) ⟨_, _, rfl, pw_2 (by assumption)⟩ | exact MetS.mk (by k_asm) (by rfl) ⟨_, _, rfl, pw_1 (by assumption)⟩
  intro v2 h2 k2 hv2' F2 N2
  obtain ⟨q, t7, e2, hq⟩ := hv2'
  subst e2
  repeat (rename (@LE.le Nat _ _ _ ∧ _) => hcl; clear hcl)
  have hqb := pwF_in hv1 hv2 hp1 hp2 hs1 hs2
  rw [← hq] at hqb
  k_steps
  · rename (0 < sc) => hs0
    have hc1 : c = pl + 1 := by rw [hc, if_neg (by omega)]
    subst hc1 hq
    refine' retS hret ?e1 ?e2 ?e3; (case e2 => k_asm); (case e3 => first | k_asm | (refine' cb_drop ?cbN ?cbS; (case cbN => assumption); (case cbS => exact fun q hq => List.mem_cons_of_mem _ hq))); (case e1 => with_reducible exact expE_pos hs0)
  · rename (¬ 0 < sc) => hs0
    have hc1 : c = pl + sc := by rw [hc, if_pos (by omega)]
    subst hc1 hq
    refine' retS hret ?f1 ?f2 ?f3; (case f2 => k_asm); (case f3 => first | k_asm | (refine' cb_drop ?cbM ?cbT; (case cbM => assumption); (case cbT => exact fun q hq => List.mem_cons_of_mem _ hq))); (case f1 => with_reducible exact expE_neg hs0)
local macro_rules | `(tactic| walk_at "call ref") => `(tactic| (k_here; (first | (with_reducible show wpAny _ _ (call (Value.ref 158) _) _ _ _) | (with_reducible show wpAny _ _ (call (Value.ref 172) _) _ _ _)); refine wpAny_call ?_; k_dflt (refine' code_def ?k1 ?k2 ?k3 ?k4 ?k5 ?kA ?kF ?kK ?k6 ?k7 ?k8 ?k9 ?kB ?_ ?c2 ?c3 ?c4 ?c5; (case kA => exact rfl); (case kF => exact rfl); (case kK => first | exact rfl | assumption); (case k1 => k_asm); (case k2 => k_asm); (case k3 => k_asm); (case k4 => k_asm); (case k5 => k_asm); (case k6 => k_is); (case k7 => k_is); (case k8 => ktr_room); (case k9 => exact BindsTo.of_eq rfl); (case c5 => decide); (case kB => exact locs rfl); (case c2 => exact rfl); (case c3 => exact rfl); (case c4 => exact rfl); k_whole; intro g' L' h' FG' F' N' B' X' T'; (try dsimp only); (try k_lift B'); (try k_fold))))
theorem edit_value_F {w mean mg mb} (V I : Addr) (v : Int) (tv : Tok) (p : Int) (tp : Tok) (cv : Nat) (tf : Tok) (n : Int) (t2 : Tok) (pl : Int) (t3 : Tok) (ci : Nat) (rest : List (Addr × Obj)) (k : Int) (tk : Tok) (sc : Int) (t4 : Tok) (plus : Bool) :
   Cl 32 w mean mg mb 165 ((V, tupO #[.int v tv, .int p tp] cv) :: (I, tupO #[.str (Str.ofString "F") tf, .int n t2, .int pl t3] ci) :: rest)
     (-10000000 < v ∧ v < 10000000 ∧ -16 ≤ p ∧ p ≤ 40 ∧ 20 ≤ pl ∧ pl ≤ 4400 ∧ -2 ≤ sc ∧ sc ≤ 4000 ∧ 0 ≤ n ∧ n ≤ 30000 ∧ (k = 1 ∨ k = 2)) [.ref I, .int k tk, .ref V, .int sc t4, .bool plus]
     (RetS ((V, tupO #[.int v tv, .int p tp] cv) :: (I, tupO #[.str (Str.ofString "F") tf, .int n t2, .int pl t3] ci) :: rest) (fixF v p pl sc plus n)) := by
  k_with_none
  k_with "isTrue BoolOp" => (k_here; (fail_if_success (with_reducible rename InJoin => hJ)); refine later_ ?_)
  k_with "call ref" => (k_here; k_dflt (first | refine useM (edit_fixed_C _ _ _ _ _ _ _ _ _ _ _ _ _ _) ?_ (hp := ⟨hv1, hv2, hp1, hp2, hl1, hl2, hs1, hs2, hn1, hn2⟩) | refine useM (edit_exp_C _ _ _ _ _ _ _ _ _ _ _ _ _ _ _ _) ?_ (hp := ⟨by assumption, hv1, hv2, hp1, hp2, hl1, hl2, hs1, hs2, hn1, hn2⟩)); intro t9 h9 tk9 F9 N9; (try dsimp only); (try k_fold))
  k_with "ite" => (k_here; k_openite; first | (refine ite_pos (by ((try simp only [decide_eq_true_eq, decide_eq_false_iff_not, bne_iff_ne, ne_eq, beq_iff_eq, Bool.not_eq_true]); omega)) ?_; walk_say "OMEGA") | (refine ite_neg (by ((try simp only [decide_eq_true_eq, decide_eq_false_iff_not, bne_iff_ne, ne_eq, beq_iff_eq, Bool.not_eq_true]); omega)) ?_; walk_say "OMEGA"))
  unfold Cl PG
  k_fill
  dsimp only [RetS]; intros; rename_i hp _ _ hret
  obtain ⟨hv1, hv2, hp1, hp2, hl1, hl2, hs1, hs2, hn1, hn2, hk⟩ := hp
  refine wpAny_call ?_
  k_dflt cell_enter
  k_steps
  unfold Later
  k_dflt (refine join_b false ?ca ?ka)
  case ca =>
    intro mk
    k_steps
    all_goals exact MetB.mk (by first | rfl | simp)
  intro h1 k1 F1 N1
  k_steps
  unfold Later
  k_dflt (refine join_b true ?cb ?kb)
  case cb =>
    intro mk
    k_steps
    all_goals exact MetB.mk (by first | rfl | assumption | simp | (simp; omega)) (by k_asm) (by first | k_asm | exact cb_drop (by assumption) (fun q hq => List.mem_cons_of_mem _ hq))
  intro h2 k2 F2 N2
  k_steps
  all_goals (refine' retS hret ?e1 ?e2 ?e3; (case e2 => k_asm); (case e3 => first | k_asm | (refine' cb_drop ?cbN ?cbS; (case cbN => assumption); (case cbS => exact fun q hq => List.mem_cons_of_mem _ hq))); (case e1 => rfl))
theorem edit_value_D {w mean mg mb} (V I : Addr) (v : Int) (tv : Tok) (p : Int) (tp : Tok) (cv : Nat) (tf : Tok) (n : Int) (t2 : Tok) (pl : Int) (t3 : Tok) (ci : Nat) (rest : List (Addr × Obj)) (k : Int) (tk : Tok) (sc : Int) (t4 : Tok) (plus : Bool) :
   Cl 32 w mean mg mb 165 ((V, tupO #[.int v tv, .int p tp] cv) :: (I, tupO #[.str (Str.ofString "D") tf, .int n t2, .int pl t3] ci) :: rest)
     (-10000000 < v ∧ v < 10000000 ∧ -16 ≤ p ∧ p ≤ 40 ∧ 20 ≤ pl ∧ pl ≤ 4400 ∧ -2 ≤ sc ∧ sc ≤ 3 ∧ 0 ≤ n ∧ n ≤ 30000 ∧ (k = 1 ∨ k = 2)) [.ref I, .int k tk, .ref V, .int sc t4, .bool plus]
     (RetS ((V, tupO #[.int v tv, .int p tp] cv) :: (I, tupO #[.str (Str.ofString "D") tf, .int n t2, .int pl t3] ci) :: rest) (expE (Str.ofString "D") v p pl sc plus n)) := by
  unfold Cl PG
  k_fill
  dsimp only [RetS]; intros; rename_i hp _ _ hret
  obtain ⟨hv1, hv2, hp1, hp2, hl1, hl2, hs1, hs2, hn1, hn2, hk⟩ := hp
  have : (Str.ofString "D").length = 1 := by decide
  refine wpAny_call ?_
  k_dflt cell_enter
  k_steps
  unfold Later
  k_dflt (refine join_b false ?ca ?ka)
  case ca =>
    intro mk
    k_steps
    all_goals exact MetB.mk (by first | rfl | simp)
  intro h1 k1 F1 N1
  k_steps
  unfold Later
  k_dflt (refine join_b true ?cb ?kb)
  case cb =>
    intro mk
    k_steps
    all_goals exact MetB.mk (by first | rfl | assumption | simp | (simp; omega)) (by k_asm) (by first | k_asm | exact cb_drop (by assumption) (fun q hq => List.mem_cons_of_mem _ hq))
  intro h2 k2 F2 N2
  k_steps
  all_goals (refine' retS hret ?e1 ?e2 ?e3; (case e2 => k_asm); (case e3 => first | k_asm | (refine' cb_drop ?cbN ?cbS; (case cbN => assumption); (case cbS => exact fun q hq => List.mem_cons_of_mem _ hq))); (case e1 => rfl))
theorem edit_value_E {w mean mg mb} (V I : Addr) (v : Int) (tv : Tok) (p : Int) (tp : Tok) (cv : Nat) (tf : Tok) (n : Int) (t2 : Tok) (pl : Int) (t3 : Tok) (ci : Nat) (rest : List (Addr × Obj)) (k : Int) (tk : Tok) (sc : Int) (t4 : Tok) (plus : Bool) :
   Cl 32 w mean mg mb 165 ((V, tupO #[.int v tv, .int p tp] cv) :: (I, tupO #[.str (Str.ofString "E") tf, .int n t2, .int pl t3, .none] ci) :: rest)
     (-10000000 < v ∧ v < 10000000 ∧ -16 ≤ p ∧ p ≤ 40 ∧ 20 ≤ pl ∧ pl ≤ 4400 ∧ -2 ≤ sc ∧ sc ≤ 3 ∧ 0 ≤ n ∧ n ≤ 30000 ∧ (k = 1 ∨ k = 2)) [.ref I, .int k tk, .ref V, .int sc t4, .bool plus]
     (RetS ((V, tupO #[.int v tv, .int p tp] cv) :: (I, tupO #[.str (Str.ofString "E") tf, .int n t2, .int pl t3, .none] ci) :: rest) (expE (Str.ofString "E") v p pl sc plus n)) := by
  unfold Cl PG
  k_fill
  dsimp only [RetS]; intros; rename_i hp _ _ hret
  obtain ⟨hv1, hv2, hp1, hp2, hl1, hl2, hs1, hs2, hn1, hn2, hk⟩ := hp
  have : (Str.ofString "E").length = 1 := by decide
  refine wpAny_call ?_
  k_dflt cell_enter
  k_steps
  unfold Later
  k_dflt (refine join_b false ?ca ?ka)
  case ca =>
    intro mk
    k_steps
    all_goals exact MetB.mk (by first | rfl | simp)
  intro h1 k1 F1 N1
  k_steps
  unfold Later
  k_dflt (refine join_b true ?cb ?kb)
  case cb =>
    intro mk
    k_steps
    all_goals exact MetB.mk (by first | rfl | assumption | simp | (simp; omega)) (by k_asm) (by first | k_asm | exact cb_drop (by assumption) (fun q hq => List.mem_cons_of_mem _ hq))
  intro h2 k2 F2 N2
  k_steps
  all_goals (refine' retS hret ?e1 ?e2 ?e3; (case e2 => k_asm); (case e3 => first | k_asm | (refine' cb_drop ?cbN ?cbS; (case cbN => assumption); (case cbS => exact fun q hq => List.mem_cons_of_mem _ hq))); (case e1 => rfl))
abbrev RetT2 (news : List (Addr × Obj)) (x y : Str) (h₀ : Heap) (L : Addr) (m : Str → Option Value) (s : Shared) (Q : Value → Shared → Prop) : Prop :=
  ∀ (D : Addr) (t1 t2 : Tok) (c : Nat) (h' : Heap) (tk' : Nat), Fr h₀ L h' m → News h₀ L h' ((D, tupO #[.str x t1, .str y t2] c) :: news) → (∀ p ∈ news, p.1 < D) → Q (.ref D) { s with heap := h', toks := tk' }
abbrev RetT3 (news : List (Addr × Obj)) (x y z : Str) (P : Prop) (h₀ : Heap) (L : Addr) (m : Str → Option Value) (s : Shared) (Q : Value → Shared → Prop) : Prop :=
  ∀ (D : Addr) (t1 t2 t3 : Tok) (c : Nat) (h' : Heap) (tk' : Nat), P → Fr h₀ L h' m → News h₀ L h' ((D, tupO #[.str x t1, .str y t2, .str z t3] c) :: news) → (∀ p ∈ news, p.1 < D) → Q (.ref D) { s with heap := h', toks := tk' }
theorem retT2 {h₀ : Heap} {L : Addr} {m : Str → Option Value} {news news' : List (Addr × Obj)} {s : Shared} {Q : Value → Shared → Prop} {x y x' y' : Str} {D : Addr} {t1 t2 : Tok} {c : Nat} {h' : Heap} {tk' : Nat}
    (hret : RetT2 news x y h₀ L m s Q) (e1 : x' = x) (e2 : y' = y) (F : Fr h₀ L h' m) (N : News h₀ L h' news') (hm : (D, tupO #[.str x' t1, .str y' t2] c) ∈ news') (hs : ∀ p ∈ news, p ∈ news') (l : ∀ p ∈ news, p.1 < D) : Q (.ref D) { s with heap := h', toks := tk' } := by
  subst e1; subst e2
  refine hret D t1 t2 c h' tk' F (fun q hq => ?_) l
  rcases List.mem_cons.mp hq with rfl | hq
  · exact N _ hm
  · exact N _ (hs q hq)
theorem retT3 {h₀ : Heap} {L : Addr} {m : Str → Option Value} {news news' : List (Addr × Obj)} {s : Shared} {Q : Value → Shared → Prop} {x y z x' y' z' : Str} {P : Prop} {D : Addr} {t1 t2 t3 : Tok} {c : Nat} {h' : Heap} {tk' : Nat}
    (hret : RetT3 news x y z P h₀ L m s Q) (hP : P) (e1 : x' = x) (e2 : y' = y) (e3 : z' = z) (F : Fr h₀ L h' m) (N : News h₀ L h' news') (hm : (D, tupO #[.str x' t1, .str y' t2, .str z' t3] c) ∈ news') (hs : ∀ p ∈ news, p ∈ news') (l : ∀ p ∈ news, p.1 < D) : Q (.ref D) { s with heap := h', toks := tk' } := by
  subst e1; subst e2; subst e3
  refine hret D t1 t2 t3 c h' tk' hP F (fun q hq => ?_) l
  rcases List.mem_cons.mp hq with rfl | hq
  · exact N _ hm
  · exact N _ (hs q hq)
noncomputable def shW (D : Str) (p : Int) : Str := if (D == Str.ofString "") = true then Str.ofString "" else if 0 ≤ p then D ++ Txt.mul (Str.ofString "0") p else if 0 < (D.length : Int) + p then Txt.slice D none (some p) else Str.ofString ""
noncomputable def shR (D : Str) (p : Int) : Str := if (D == Str.ofString "") = true then Str.ofString "" else if 0 ≤ p then Str.ofString "" else if 0 < (D.length : Int) + p then Txt.slice D (some p) none else Txt.mul (Str.ofString "0") (0 - p - D.length) ++ D

theorem law_shifted_C {w mean mg mb} (news : List (Addr × Obj)) (D : Str) (t1 : Tok) (p : Int) (t2 : Tok) : Cl 8 w mean mg mb 186 news (D.length ≤ 7 ∧ -20 ≤ p ∧ p ≤ 9000) [.str D t1, .int p t2] (RetT2 news (shW D p) (shR D p)) := by
  k_with_none
  k_with "ite" => (k_here; k_openite; first | (refine ite_pos (by ((try simp only [decide_eq_true_eq, decide_eq_false_iff_not, bne_iff_ne, ne_eq, beq_iff_eq, Bool.not_eq_true]); omega)) ?_; walk_say "OMEGA") | (refine ite_neg (by ((try simp only [decide_eq_true_eq, decide_eq_false_iff_not, bne_iff_ne, ne_eq, beq_iff_eq, Bool.not_eq_true]); omega)) ?_; walk_say "OMEGA"))
  unfold Cl PG
  k_fill
  intros; rename_i hp _ _ hret
  obtain ⟨hx, hn0, hn⟩ := hp
  refine wpAny_call ?_
  k_dflt cell_enter
  k_steps
  all_goals (refine' retT2 hret ?e1 ?e2 ?e3 ?e4 ?e5 ?e6 ?e7; (case e3 => k_asm); (case e4 => k_asm); (case e5 => k_mem); (case e6 => exact fun q hq => List.mem_cons_of_mem _ hq); (case e7 => assumption); (case e1 => (unfold shW; (repeat' split) <;> first | rfl | (exfalso; omega) | (exfalso; simp_all; done))); (case e2 => (unfold shR; (repeat' split) <;> first | rfl | (exfalso; omega) | (exfalso; simp_all; done))))
theorem shR_len {D : Str} {p : Int} (h : D.length ≤ 7) (hp : -20 ≤ p) : (shR D p).length ≤ 27 := by
  unfold shR
  split
  · rw [len_none]; omega
  · split
    · rw [len_none]; omega
    · split
      · exact Nat.le_trans (Txt.slice_le D _ _) (by omega)
      · rw [Str.length_append, len_zeros]; omega
theorem shW_len {D : Str} {p : Int} (h : D.length ≤ 7) (hp : p ≤ 9000) : (shW D p).length ≤ 9007 := by
  unfold shW
  split
  · rw [len_none]; omega
  · split
    · rw [Str.length_append, len_zeros]; omega
    · split
      · exact Nat.le_trans (Txt.slice_le D _ _) (by omega)
      · rw [len_none]; omega
noncomputable def sgL (mn : Bool) (D plus : Str) : Str := if (mn && D != Str.ofString "") = true then Str.ofString "-" else plus
theorem sgL_len {mn : Bool} {D plus : Str} (h : plus.length ≤ 1) : (sgL mn D plus).length ≤ 1 := by
  unfold sgL
  split
  · rw [len_minus]; omega
  · exact h
noncomputable def fR (D : Str) (p pl : Int) : Str := shR D p ++ Txt.mul (Str.ofString "0") (pl - (shR D p).length)
theorem fR_len {D : Str} {p pl : Int} (h : D.length ≤ 7) (hp : -20 ≤ p) (h1 : 20 ≤ pl) (h2 : pl ≤ 4400) : 1 ≤ (fR D p pl).length ∧ (fR D p pl).length ≤ 4400 := by
  have := shR_len h hp
  unfold fR
  rw [Str.length_append, len_zeros]
  omega
theorem ltTail {q : Addr × Obj} {news : List (Addr × Obj)} {D : Addr} (h : ∀ p ∈ q :: news, p.1 < D) : ∀ p ∈ news, p.1 < D := fun p hp => h p (List.mem_cons_of_mem _ hp)

theorem law_by_f_C {w mean mg mb} (news : List (Addr × Obj)) (D : Str) (t1 : Tok) (p : Int) (t2 : Tok) (mn : Bool) (pl : Int) (t3 : Tok) (sc : Int) (t4 : Tok) (plus : Str) (t5 : Tok) :
   Cl 16 w mean mg mb 200 news (D.length ≤ 7 ∧ -16 ≤ p ∧ p ≤ 40 ∧ 20 ≤ pl ∧ pl ≤ 4400 ∧ -2 ≤ sc ∧ sc ≤ 4000 ∧ plus.length ≤ 1) [.str D t1, .int p t2, .bool mn, .int pl t3, .int sc t4, .str plus t5]
     (RetT3 news (sgL mn D plus) (shW D (p + sc)) (fR D (p + sc) pl) ((sgL mn D plus).length ≤ 1 ∧ (shW D (p + sc)).length ≤ 9007 ∧ 1 ≤ (fR D (p + sc) pl).length ∧ (fR D (p + sc) pl).length ≤ 4400)) := by
  k_with_none
  k_with "call ref" => (k_here; k_dflt (refine use (law_shifted_C _ _ _ _ _) ?_ (hp := ⟨hx, by omega, by omega⟩)); intro D9 t9 u9 c9 h9 tk9 F9 N9 l9; (try dsimp only); (try k_fold))
  unfold Cl PG
  k_fill
  intros; rename_i hp _ _ hret
  obtain ⟨hx, hp1, hp2, hl1, hl2, hs1, hs2, hpl⟩ := hp
  have hR := shR_len (p := p + sc) hx (by omega)
  refine wpAny_call ?_
  k_dflt cell_enter
  k_steps
  all_goals (refine' retT3 hret ⟨sgL_len hpl, shW_len hx (by omega), fR_len hx (by omega) hl1 hl2⟩ ?e1 ?e2 ?e0 ?e3 ?e4 ?e5 ?e6 ?e7; (case e3 => k_asm); (case e4 => k_asm); (case e5 => k_mem); (case e6 => exact fun q hq => List.mem_cons_of_mem _ (List.mem_cons_of_mem _ hq)); (case e1 => (unfold sgL; simp_all; done)); (case e2 => rfl); (case e0 => rfl); (case e7 => first | assumption | exact ktn_ltOf (And.right (by assumption))))
noncomputable def rowF (D : Str) (c : Int) : Str := Txt.slice (D ++ Txt.mul (Str.ofString "0") c) none (some c)
noncomputable def hiF (D : Str) (p sc : Int) : Int := if (D == Str.ofString "") = true then 0 else D.length + p - sc
noncomputable def tailL (x : Str) (h : Int) : Str := x ++ ((if h < 0 then Str.ofString "-" else Str.ofString "+") ++ (Txt.mul (Str.ofString "0") (2 - (Str.ofString (toString (if h < 0 then -h else h))).length) ++ Str.ofString (toString (if h < 0 then -h else h))))
noncomputable def eW (D : Str) (pl sc : Int) : Str := if 0 < sc then Txt.slice (rowF D (pl + 1)) none (some sc) else Str.ofString ""
noncomputable def eR (x D : Str) (p pl sc : Int) : Str := if 0 < sc then Txt.slice (rowF D (pl + 1)) (some sc) none ++ tailL x (hiF D p sc) else Txt.mul (Str.ofString "0") (0 - sc) ++ rowF D (pl + sc) ++ tailL x (hiF D p sc)
theorem tail0 (x : Str) : tailL x 0 = x ++ Str.ofString "+00" := by
  have : ((if (0 : Int) < 0 then Str.ofString "-" else Str.ofString "+") ++ (Txt.mul (Str.ofString "0") (2 - (Str.ofString (toString (if (0 : Int) < 0 then -(0 : Int) else 0))).length) ++ Str.ofString (toString (if (0 : Int) < 0 then -(0 : Int) else 0)))) = Str.ofString "+00" := by decide +kernel
  unfold tailL
  rw [this]
theorem hiF_in {D : Str} {p sc : Int} (h : D.length ≤ 7) (h1 : -16 ≤ p) (h2 : p ≤ 40) (h3 : -2 ≤ sc) (h4 : sc ≤ 3) : -99 ≤ hiF D p sc ∧ hiF D p sc ≤ 99 := by
  unfold hiF
  split <;> omega
theorem tailL_len {x : Str} {p : Int} (hx : x.length = 1) (h : -99 ≤ p ∧ p ≤ 99) : 1 ≤ (tailL x p).length ∧ (tailL x p).length ≤ 20 := by
  have a := itx_two h
  have b : (if p < 0 then Str.ofString "-" else Str.ofString "+").length = 1 := by split <;> decide
  unfold tailL
  simp only [Str.length_append, len_zeros, b]
  omega
theorem rowF_len {D : Str} {c : Int} (hc : 0 ≤ c) (h : D.length ≤ 7) : ((rowF D c).length : Int) = c := by
  unfold rowF
  rw [len_to hc]
  rw [Str.length_append, len_zeros]
  omega
theorem eW_len {D : Str} {pl sc : Int} (h : D.length ≤ 7) (h1 : 20 ≤ pl) (h2 : pl ≤ 4400) : (eW D pl sc).length ≤ 10000 := by
  unfold eW
  split
  · have := rowF_len (c := pl + 1) (by omega) h
    have := Txt.slice_le (rowF D (pl + 1)) none (some sc)
    omega
  · rw [len_none]; omega
theorem eR_len {x D : Str} {p pl sc : Int} (hx : x.length = 1) (h : D.length ≤ 7) (h1 : 20 ≤ pl) (h2 : pl ≤ 4400) (h3 : -16 ≤ p) (h4 : p ≤ 40) (h5 : -2 ≤ sc) (h6 : sc ≤ 3) : 1 ≤ (eR x D p pl sc).length ∧ (eR x D p pl sc).length ≤ 10000 := by
  have t := tailL_len hx (hiF_in h h3 h4 h5 h6)
  unfold eR
  split
  · have := rowF_len (c := pl + 1) (by omega) h
    have := Txt.slice_le (rowF D (pl + 1)) (some sc) none
    rw [Str.length_append]
    omega
  · have := rowF_len (c := pl + sc) (by omega) h
    rw [Str.length_append, Str.length_append, len_zeros]
    omega
theorem hi_z {D : Str} {p sc : Int} (h : (D == Str.ofString "") = true) : hiF D p sc = 0 := if_pos h
theorem hi_n {D : Str} {p sc : Int} (h : (D == Str.ofString "") = false) : hiF D p sc = D.length + p - sc := if_neg (by rw [h]; decide)
theorem sgL_1 {mn : Bool} {D plus : Str} (h : mn = true) (k : (D != Str.ofString "") = true) : Str.ofString "-" = sgL mn D plus := by subst h; unfold sgL; rw [k]; rfl
theorem sgL_2 {mn : Bool} {D plus : Str} (k : (D != Str.ofString "") = false) : plus = sgL mn D plus := by unfold sgL; rw [k]; cases mn <;> rfl
theorem sgL_3 {mn : Bool} {D plus : Str} (h : mn = false) : plus = sgL mn D plus := by subst h; rfl
theorem sgL_4 {mn : Bool} {D plus : Str} (h : ¬ mn = true) : plus = sgL mn D plus := sgL_3 (by simpa using h)
abbrev row1 (D : Str) (c : Int) : Str := Txt.slice (D ++ Txt.mul (Str.ofString "0") c) none (some c)
abbrev tail1 (x : Str) (h : Int) : Str := x ++ ((if h < 0 then Str.ofString "-" else Str.ofString "+") ++ (Txt.mul (Str.ofString "0") (2 - (Str.ofString (toString (if h < 0 then -h else h))).length) ++ Str.ofString (toString (if h < 0 then -h else h))))
theorem eW_pos {D : Str} {pl sc : Int} (h : 0 < sc) : Txt.slice (row1 D (pl + 1)) none (some sc) = eW D pl sc := (if_pos h).symm
theorem eW_neg {D : Str} {pl sc : Int} (h : ¬ 0 < sc) : Str.ofString "" = eW D pl sc := (if_neg h).symm
theorem eR_pos {x D : Str} {p pl sc : Int} (h : 0 < sc) : Txt.slice (row1 D (pl + 1)) (some sc) none ++ tail1 x (hiF D p sc) = eR x D p pl sc := (if_pos h).symm
theorem eR_neg {x D : Str} {p pl sc : Int} (h : ¬ 0 < sc) : Txt.mul (Str.ofString "0") (0 - sc) ++ row1 D (pl + sc) ++ tail1 x (hiF D p sc) = eR x D p pl sc := (if_neg h).symm

theorem law_by_e_C {w mean mg mb} (news : List (Addr × Obj)) (x : Str) (tx : Tok) (D : Str) (t1 : Tok) (p : Int) (t2 : Tok) (mn : Bool) (pl : Int) (t3 : Tok) (sc : Int) (t4 : Tok) (plus : Str) (t5 : Tok) :
   Cl 16 w mean mg mb 207 news (x.length = 1 ∧ D.length ≤ 7 ∧ -16 ≤ p ∧ p ≤ 40 ∧ 20 ≤ pl ∧ pl ≤ 4400 ∧ -2 ≤ sc ∧ sc ≤ 3 ∧ plus.length ≤ 1) [.str x tx, .str D t1, .int p t2, .bool mn, .int pl t3, .int sc t4, .str plus t5]
     (RetT3 news (sgL mn D plus) (eW D pl sc) (eR x D p pl sc) ((sgL mn D plus).length ≤ 1 ∧ (eW D pl sc).length ≤ 10000 ∧ 1 ≤ (eR x D p pl sc).length ∧ (eR x D p pl sc).length ≤ 10000)) := by
  k_with_none
  k_with "ite" => (k_here; k_openite; (fail_if_success (with_reducible rename InJoin => hJ)); first | (refine ite_pos (by ((try simp only [decide_eq_true_eq, decide_eq_false_iff_not, beq_iff_eq]); omega)) ?_; walk_say "OMEGA") | (refine ite_neg (by ((try simp only [decide_eq_true_eq, decide_eq_false_iff_not, beq_iff_eq]); omega)) ?_; walk_say "OMEGA"))
  k_with "eval IfExp" => (k_here; (fail_if_success (with_reducible rename InJoin => hJ)); refine later_ ?_)
  k_with "subscriptTail" => (k_here; (with_reducible show wpAny _ _ (subscriptTail (PySem.Expr.BinOp _ _ _ _) (Expr.Slice none (some _) none _) (Value.str _ _) (Value.ref _)) _ _ _); (with_reducible rename Fr _ _ _ _ => F'); (with_reducible rename News _ _ _ _ => N'); refine slice_strN_ns_len (s := ⟨_, _, _, _, _⟩) F' N' ?_; intro _ _ _ _ _ _)
  unfold Cl PG
  k_fill
  intros; rename_i hp _ _ hret
  obtain ⟨hxl, hx, hp1, hp2, hl1, hl2, hs1, hs2, hpl⟩ := hp
  have := len_none; have := len_plus; have := len_minus
  refine wpAny_call ?_
  k_dflt cell_enter
  k_steps
  -- count
  unfold Later
  k_dflt (refine join_e (fun v => ∃ c t, v = .int c t ∧ c = if sc ≤ 0 then pl + sc else pl + 1) ?ca ?ka)
  case ca =>
    intro mk
    k_steps
    all_goals exact Met.mk ⟨_, _, rfl, by first | exact (if_pos (by assumption)).symm | exact (if_neg (by assumption)).symm⟩
  intro v1 h1 k1 hv1 F1 N1
  obtain ⟨c, t6, e1, hc⟩ := hv1
  subst e1
  repeat (rename (@LE.le Nat _ _ _ ∧ _) => hcl; clear hcl)
  have hcb : 8 ≤ c ∧ c ≤ 4500 := by rw [hc]; split <;> omega
  k_steps
  -- high
  unfold Later
  k_dflt (refine join_e (fun v => ∃ h t, v = .int h t ∧ h = hiF D p sc) ?cb ?kb)
  case cb =>
    intro mk
    k_steps
    all_goals exact Met.mk ⟨_, _, rfl, by first | exact (hi_z (by assumption)).symm | exact (hi_n (by assumption)).symm⟩
  intro v2 h2 k2 hv2 F2 N2
  obtain ⟨hh, t7, e2, hhe⟩ := hv2
  subst e2
  repeat (rename (@LE.le Nat _ _ _ ∧ _) => hcl; clear hcl)
  have hhb := hiF_in hx hp1 hp2 hs1 hs2
  rw [← hhe] at hhb
  have hq1 := itx_two hhb
  k_steps
  -- the exponent's sign
  unfold Later
  k_dflt (refine join_e (fun v => ∃ z t, v = .str z t ∧ z = if hh < 0 then Str.ofString "-" else Str.ofString "+") ?cc ?kc)
  case cc =>
    intro mk
    k_steps
    all_goals exact Met.mk ⟨_, _, rfl, by first | exact (if_pos (by assumption)).symm | exact (if_neg (by assumption)).symm⟩
  intro v3 h3 k3 hv3 F3 N3
  obtain ⟨z3, t8, e3, hz3⟩ := hv3
  subst e3
  repeat (rename (@LE.le Nat _ _ _ ∧ _) => hcl; clear hcl)
  have hz3l : z3.length = 1 := by rw [hz3]; split <;> decide
  k_steps
  -- the sign
  unfold Later
  k_dflt (refine join_e (fun v => ∃ z t, v = .str z t ∧ z = sgL mn D plus) ?cd ?kd)
  case cd =>
    intro mk
    k_steps
    all_goals exact Met.mk ⟨_, _, rfl, by first | exact sgL_1 (by assumption) (by assumption) | exact sgL_2 (by assumption) | exact sgL_3 (by assumption) | exact sgL_4 (by assumption)⟩
  intro v4 h4 k4 hv4 F4 N4
  obtain ⟨z4, t9, e4, hz4⟩ := hv4
  subst e4
  repeat (rename (@LE.le Nat _ _ _ ∧ _) => hcl; clear hcl)
  k_steps
  · rename (0 < sc) => hs0
    have hc1 : c = pl + 1 := by rw [hc, if_neg (by omega)]
    subst hc1 hhe hz3
    refine' retT3 hret ⟨sgL_len hpl, eW_len hx hl1 hl2, eR_len hxl hx hl1 hl2 hp1 hp2 hs1 hs2⟩ ?e1 ?e2 ?e0 ?e3 ?e4 ?e5 ?e6 ?e7; (case e3 => k_asm); (case e4 => k_asm); (case e5 => k_mem); (case e6 => exact fun q hq => List.mem_cons_of_mem _ hq); (case e7 => first | assumption | exact ktn_ltOf (And.right (by assumption))); (case e1 => exact hz4); (case e2 => with_reducible exact eW_pos hs0); (case e0 => with_reducible exact eR_pos hs0)
  · rename (¬ 0 < sc) => hs0
    have hc1 : c = pl + sc := by rw [hc, if_pos (by omega)]
    subst hc1 hhe hz3
    refine' retT3 hret ⟨sgL_len hpl, eW_len hx hl1 hl2, eR_len hxl hx hl1 hl2 hp1 hp2 hs1 hs2⟩ ?f1 ?f2 ?f0 ?f3 ?f4 ?f5 ?f6 ?f7; (case f3 => k_asm); (case f4 => k_asm); (case f5 => k_mem); (case f6 => exact fun q hq => List.mem_cons_of_mem _ hq); (case f7 => first | assumption | exact ktn_ltOf (And.right (by assumption))); (case f1 => exact hz4); (case f2 => with_reducible exact eW_neg hs0); (case f0 => with_reducible exact eR_neg hs0)
/-- the figures' text and the number that it tells -/
def Dg (D : Str) (N : Int) : Prop := (D = Str.ofString "" ∧ N = 0) ∨ (1 ≤ D.length ∧ D.length ≤ 7 ∧ 0 < N ∧ N < 10000000 ∧ Str.ofString (toString N) = D)
def Pl (plus : Str) : Prop := plus = Str.ofString "" ∨ plus = Str.ofString "+"
theorem ne_none {D : Str} (h : 1 ≤ D.length) : (D != Str.ofString "") = true := by
  unfold bne
  rw [not_none h]; rfl
theorem sgn_plus {plus : Str} (h : Pl plus) (mn : Bool) : sgn mn (plus == Str.ofString "+") = if mn then Str.ofString "-" else plus := by
  cases mn
  · rcases h with rfl | rfl <;> decide
  · rfl
theorem sgL_n {mn : Bool} {D plus : Str} (h : 1 ≤ D.length) : sgL mn D plus = if mn then Str.ofString "-" else plus := by
  unfold sgL
  rw [ne_none h]
  cases mn <;> rfl
theorem sgL_z {mn : Bool} {plus : Str} : sgL mn (Str.ofString "") plus = plus := by
  unfold sgL
  cases mn <;> rfl
noncomputable abbrev vOf (mn : Bool) (N : Int) : Int := if mn then 0 - N else N
theorem ab_v {mn : Bool} {N : Int} (h : 0 ≤ N) : ab (vOf mn N) = N := by
  cases mn <;> simp only [vOf, ab] <;> split <;> simp at * <;> omega
theorem lt_v {mn : Bool} {N : Int} (h : 0 < N) : decide (vOf mn N < 0) = mn := by
  cases mn <;> simp [vOf] <;> omega
theorem lst_none : lst (Str.ofString "") = [] := by decide
theorem len_lst (x : Str) : x.length = (lst x).length := (lst_len x).symm
theorem fig_n {D : Str} {N P : Int} (h : 0 < N) (hD : Str.ofString (toString N) = D) : figF N P = D ++ Txt.mul (Str.ofString "0") P := by
  unfold figF
  rw [if_neg (by omega), hD]
theorem fig_z {P : Int} : figF 0 P = Str.ofString "" := if_pos rfl

theorem dg_lst {D : Str} {mn : Bool} {N p pl sc : Int} (h : 0 < N) (hD : Str.ofString (toString N) = D) :
    lst (dgF (vOf mn N) p pl sc) = List.replicate (pl - (D.length + (p + sc + pl).toNat)).toNat 48 ++ (lst D ++ List.replicate (p + sc + pl).toNat 48) := by
  unfold dgF
  rw [ab_v (by omega), fig_n h hD, lst_add, lst_zeros, lst_add, lst_zeros, Str.length_append, len_zeros]
  congr 2
theorem ar_a {n : Nat} {q pl : Int} (h : 0 ≤ (n : Int) + q) (hP : 0 ≤ q + pl) : (pl - ((n : Int) + ((q + pl).toNat : Int))).toNat = 0 := by
  rw [Int.toNat_of_nonneg hP]
  exact Int.toNat_of_nonpos (by omega)
theorem ar_c {n : Nat} {q pl : Int} (h : 0 ≤ (n : Int) + q) (hP : 0 ≤ q + pl) : (((pl - ((n : Int) + ((q + pl).toNat : Int))).toNat : Int) + ((n : Int) + ((q + pl).toNat : Int)) - pl) = n + q := by
  rw [ar_a h hP, Int.toNat_of_nonneg hP]
  omega
theorem ar_1 {n : Nat} {q pl : Int} (h : 0 ≤ q) (hP : 0 ≤ q + pl) : (((pl - ((n : Int) + ((q + pl).toNat : Int))).toNat : Int) + ((n : Int) + ((q + pl).toNat : Int)) - pl).toNat = n + q.toNat := by
  rw [ar_c (Int.add_nonneg (Int.natCast_nonneg _) h) hP]
  omega
theorem ar_2 {n : Nat} {q pl : Int} (h : 0 < (n : Int) + q) (hP : 0 ≤ q + pl) : (((pl - ((n : Int) + ((q + pl).toNat : Int))).toNat : Int) + ((n : Int) + ((q + pl).toNat : Int)) - pl).toNat = (q + n).toNat := by
  rw [ar_c (Int.le_of_lt h) hP, Int.add_comm]
theorem ar_3 {n : Nat} {q pl : Int} (h : ¬ 0 < (n : Int) + q) (hP : 0 ≤ q + pl) : (((pl - ((n : Int) + ((q + pl).toNat : Int))).toNat : Int) + ((n : Int) + ((q + pl).toNat : Int)) - pl).toNat = 0 := by
  rw [Int.toNat_of_nonneg hP, Int.toNat_of_nonneg (by omega)]
  exact Int.toNat_of_nonpos (by omega)
theorem ar_4 {q pl : Int} (hP : 0 ≤ q + pl) (h : 0 ≤ q) (hpl : 0 ≤ pl) : (q + pl).toNat - q.toNat = (pl - ((0 : Nat) : Int)).toNat := by
  rw [Int.toNat_add h hpl, Nat.add_sub_cancel_left]
  congr 1
  omega
theorem ar_5 {q pl : Int} (h : 0 ≤ q) (hpl : 0 ≤ pl) : min q.toNat (q + pl).toNat = q.toNat := by
  rw [Int.toNat_add h hpl]
  exact Nat.min_eq_left (Nat.le_add_right _ _)
theorem ar_6 {q pl : Int} : (q + pl).toNat = (pl - -q).toNat := by
  congr 1
  omega
theorem ar_7 {n : Nat} {q pl : Int} (hP : 0 ≤ q + pl) (h : ¬ 0 < (n : Int) + q) : (pl - ((n : Int) + ((q + pl).toNat : Int))).toNat = (0 - q - (n : Int)).toNat := by
  rw [Int.toNat_of_nonneg hP]
  congr 1
  omega
theorem ar_8 {n : Nat} {q pl : Int} (hP : 0 ≤ q + pl) (h : ¬ 0 < (n : Int) + q) : (q + pl).toNat = (pl - (((0 - q - (n : Int)).toNat + n : Nat) : Int)).toNat := by
  congr 1
  rw [Int.natCast_add, Int.toNat_of_nonneg (by omega)]
  omega
theorem ar_9 {n : Nat} {q : Int} (h0 : ¬ 0 ≤ q) (h : 0 < (n : Int) + q) : q < 0 ∧ 0 ≤ q + (n : Int) := ⟨by omega, by omega⟩
theorem ar_10 {n : Nat} {q : Int} (h0 : ¬ 0 ≤ q) (h : 0 < (n : Int) + q) : (n : Int) - (q + n).toNat = -q := by
  rw [Int.toNat_of_nonneg (by omega)]
  omega
theorem law_f {D plus : Str} {mn : Bool} {N p pl sc n : Int} (hD : Dg D N) (hp : Pl plus) (h1 : -16 ≤ p) (h2 : -2 ≤ sc) (h3 : 20 ≤ pl) :
    fixF (vOf mn N) p pl sc (plus == Str.ofString "+") n = pfF (sgL mn D plus) (shW D (p + sc)) (fR D (p + sc) pl) n := by
  rcases hD with ⟨rfl, rfl⟩ | ⟨hl, hl7, hN, hN7, hD⟩
  · have e : ab (vOf mn 0) = 0 := ab_v (by omega)
    have ed : dgF (vOf mn 0) p pl sc = Txt.mul (Str.ofString "0") pl := by
      apply lst_inj
      unfold dgF
      rw [e, fig_z, lst_add, lst_zeros, lst_zeros, lst_none, List.append_nil, len_none]
      congr 2
      omega
    have el : ((Txt.mul (Str.ofString "0") pl).length : Int) - pl = 0 := by rw [len_zeros]; omega
    have ew : shW (Str.ofString "") (p + sc) = Str.ofString "" := if_pos (by decide)
    have er : shR (Str.ofString "") (p + sc) = Str.ofString "" := if_pos (by decide)
    unfold fixF fR
    rw [ed, el, e, fig_z, sgL_z, ew, er]
    have e1 : Txt.slice (Txt.mul (Str.ofString "0") pl) none (some 0) = Str.ofString "" := by
      apply lst_inj
      rw [lst_to (by omega) (by omega), lst_none]
      rfl
    have e2 : Txt.slice (Txt.mul (Str.ofString "0") pl) (some 0) none = Str.ofString "" ++ Txt.mul (Str.ofString "0") (pl - (Str.ofString "").length) := by
      apply lst_inj
      rw [lst_from (by omega) (by omega), lst_add, lst_none, lst_zeros, lst_zeros, len_none]
      show List.replicate _ _ = _
      rw [List.nil_append]
      congr 2
      omega
    have e3 : (decide (vOf mn 0 < 0) && Str.ofString "" != Str.ofString "") = false := by
      cases mn <;> decide
    have e4 : sgn false (plus == Str.ofString "+") = plus := by
      rw [sgn_plus hp]; rfl
    rw [e1, e2, e3, e4]
  · have hP : 0 ≤ p + sc + pl := by omega
    have hL := dg_lst (mn := mn) (p := p) (pl := pl) (sc := sc) hN hD
    have hlen : ((dgF (vOf mn N) p pl sc).length : Int) = (pl - (D.length + (p + sc + pl).toNat)).toNat + (D.length + (p + sc + pl).toNat) := by
      rw [len_lst, hL]
      simp only [List.length_append, List.length_replicate, lst_len]
      omega
    have hlD := lst_len D
    unfold fixF
    have e3 : (decide (vOf mn N < 0) && figF (ab (vOf mn N)) (p + sc + pl) != Str.ofString "") = mn := by
      rw [lt_v hN, ab_v (by omega), fig_n hN hD, ne_none (by rw [Str.length_append]; omega), Bool.and_true]
    rw [e3, sgn_plus hp, sgL_n hl]
    have hz : ¬ (D == Str.ofString "") = true := by rw [not_none hl]; decide
    have hc : 0 ≤ ((dgF (vOf mn N) p pl sc).length : Int) - pl ∧ ((dgF (vOf mn N) p pl sc).length : Int) - pl ≤ (dgF (vOf mn N) p pl sc).length := by omega
    have hpl : 0 ≤ pl := by omega
    have e1 : Txt.slice (dgF (vOf mn N) p pl sc) none (some ((dgF (vOf mn N) p pl sc).length - pl)) = shW D (p + sc) := by
      apply lst_inj
      rw [lst_to hc.1 hc.2, hL, hlen]
      unfold shW
      rw [if_neg hz]
      split
      · rename_i hq
        rw [lst_add, lst_zeros, ar_1 hq hP, ar_a (Int.add_nonneg (Int.natCast_nonneg _) hq) hP, ← hlD]
        show List.take _ (lst D ++ _) = _
        rw [List.take_length_add_append, List.take_replicate, ar_5 hq hpl]
      · rename_i hq0
        split
        · rename_i hq
          rw [lst_to_neg (ar_9 hq0 hq).1 (ar_9 hq0 hq).2, ar_2 hq hP, ar_a (Int.le_of_lt hq) hP]
          show List.take _ (lst D ++ _) = _
          rw [List.take_append_of_le_length (by rw [hlD]; have := ar_10 hq0 hq; omega)]
        · rename_i hq
          rw [ar_3 hq hP, lst_none]
          rfl
    have e2 : Txt.slice (dgF (vOf mn N) p pl sc) (some ((dgF (vOf mn N) p pl sc).length - pl)) none = fR D (p + sc) pl := by
      apply lst_inj
      rw [lst_from hc.1 hc.2, hL, hlen]
      unfold fR
      rw [lst_add, lst_zeros]
      unfold shR
      rw [if_neg hz]
      split
      · rename_i hq
        rw [ar_1 hq hP, ar_a (Int.add_nonneg (Int.natCast_nonneg _) hq) hP, len_none, lst_none, ← hlD]
        show List.drop _ (lst D ++ _) = _
        rw [List.drop_length_add_append, List.drop_replicate, List.nil_append, ar_4 hP hq hpl]
      · rename_i hq0
        split
        · rename_i hq
          have c : ((Txt.slice D (some (p + sc)) none).length : Int) = -(p + sc) := by
            rw [len_lst, lst_from_neg (ar_9 hq0 hq).1 (ar_9 hq0 hq).2, List.length_drop, hlD]
            have := ar_10 hq0 hq
            omega
          rw [ar_2 hq hP, ar_a (Int.le_of_lt hq) hP, c, lst_from_neg (ar_9 hq0 hq).1 (ar_9 hq0 hq).2]
          show List.drop _ (lst D ++ _) = _
          rw [List.drop_append_of_le_length (by rw [hlD]; have := ar_10 hq0 hq; omega), ar_6 (q := p + sc) (pl := pl)]
        · rename_i hq
          rw [ar_3 hq hP, lst_add, lst_zeros, Str.length_append, len_zeros]
          show _ ++ (_ ++ _) = _
          rw [List.append_assoc, ar_7 hP hq, ← ar_8 hP hq]
    rw [e1, e2]
theorem tail_eq (x : Str) (h : Int) : expF x h = tailL x h := by
  unfold expF tailL
  rw [Str.append_assoc, Str.append_assoc]
theorem vOf_ne {mn : Bool} {N : Int} (h : 0 < N) : vOf mn N ≠ 0 := by cases mn <;> simp [vOf] <;> omega
theorem ld_z {mn : Bool} {c : Int} (hc : 0 ≤ c) : ldF (vOf mn 0) c = rowF (Str.ofString "") c := by
  have e : vOf mn 0 = 0 := by cases mn <;> rfl
  unfold ldF rowF
  rw [if_pos e]
  apply lst_inj
  rw [lst_to hc (by rw [Str.length_append, len_zeros]; omega), lst_add, lst_zeros, lst_none, List.nil_append, List.take_replicate, Nat.min_self]
theorem ld_n {D : Str} {mn : Bool} {N c : Int} (hl : D.length ≤ 7) (hN : 0 < N) (hD : Str.ofString (toString N) = D) (hc : 8 ≤ c) : ldF (vOf mn N) c = rowF D c := by
  unfold ldF rowF
  rw [if_neg (vOf_ne hN), ab_v (by omega), fig_n hN hD, hD]
  apply lst_inj
  rw [lst_to (by omega) (by rw [Str.length_append, len_zeros]; omega), lst_add, lst_add, lst_zeros, lst_zeros]
  have hlD := lst_len D
  have b : c.toNat = (lst D).length + (c - D.length).toNat := by omega
  rw [b, List.take_length_add_append, List.take_replicate]
  congr 2
  omega
theorem law_e {x D plus : Str} {mn : Bool} {N p pl sc n : Int} (hD : Dg D N) (hp : Pl plus) (h2 : -2 ≤ sc) (h3 : 20 ≤ pl) :
    expE x (vOf mn N) p pl sc (plus == Str.ofString "+") n = pfF (sgL mn D plus) (eW D pl sc) (eR x D p pl sc) n := by
  have hs : sgn (decide (vOf mn N < 0)) (plus == Str.ofString "+") = sgL mn D plus := by
    rcases hD with ⟨rfl, rfl⟩ | ⟨hl, hl7, hN, hN7, hD⟩
    · have : decide (vOf mn 0 < 0) = false := by cases mn <;> decide
      rw [this, sgn_plus hp, sgL_z]; rfl
    · rw [lt_v hN, sgn_plus hp, sgL_n hl]
  have hw : pwF (vOf mn N) p sc = hiF D p sc := by
    rcases hD with ⟨rfl, rfl⟩ | ⟨hl, hl7, hN, hN7, hD⟩
    · have e : vOf mn 0 = 0 := by cases mn <;> rfl
      rw [hi_z (by decide)]
      exact if_pos e
    · rw [hi_n (not_none hl)]
      unfold pwF
      rw [if_neg (vOf_ne hN), ab_v (by omega), hD]
  have hld : ∀ c, 8 ≤ c → ldF (vOf mn N) c = rowF D c := by
    intro c hc
    rcases hD with ⟨rfl, rfl⟩ | ⟨hl, hl7, hN, hN7, hD⟩
    · exact ld_z (by omega)
    · exact ld_n hl7 hN hD hc
  unfold expE eW eR
  rw [hs, hw, tail_eq, hld _ (by omega), hld _ (by omega), Int.zero_sub]
  split
  · rfl
  · rfl
noncomputable def lastOf : List Stmt → Option Stmt
  | [] => none
  | [s] => some s
  | _ :: r => lastOf r
noncomputable def lawOf (p : Program) : Option Stmt := lastOf p.main.body
noncomputable def scopeOf (p : Program) : Option Scope := match lawOf p with
  | some (.FunctionDef (scope := x) ..) => some x
  | _ => none
noncomputable def turnOf (p : Program) : Option (List Stmt) := match lawOf p with
  | some (.FunctionDef (body := _ :: .For _ _ b _ _ :: _) ..) => some b
  | _ => none
noncomputable def turn6Of (p : Program) : Option (List Stmt) := match turnOf p with
  | some (_ :: _ :: _ :: _ :: _ :: _ :: r) => some r
  | _ => none
noncomputable def turn11Of (p : Program) : Option (List Stmt) := match turnOf p with
  | some (_ :: _ :: _ :: _ :: _ :: _ :: _ :: _ :: _ :: _ :: _ :: r) => some r
  | _ => none
noncomputable def scopeLit : { x : Scope // scopeOf PySem.Challenge.pw_pq0352_01 = some x } := ⟨_, rfl⟩
noncomputable def turnLit : { x : List Stmt // turnOf PySem.Challenge.pw_pq0352_01 = some x } := ⟨_, rfl⟩
noncomputable def turn6Lit : { x : List Stmt // turn6Of PySem.Challenge.pw_pq0352_01 = some x } := ⟨_, rfl⟩
noncomputable def turn11Lit : { x : List Stmt // turn11Of PySem.Challenge.pw_pq0352_01 = some x } := ⟨_, rfl⟩
noncomputable def lawScope : Scope := scopeLit.1
noncomputable def turn0 : List Stmt := turnLit.1
noncomputable def turn6 : List Stmt := turn6Lit.1
noncomputable def turn11 : List Stmt := turn11Lit.1
theorem fr_eq {h₀ h : Heap} {L : Addr} {m m' : Str → Option Value} (F : Fr h₀ L h m) (e : m' = m) : Fr h₀ L h m' := e ▸ F
theorem ne_same {a b : Str} (h : a = b) : (a != b) = false := by rw [h]; simp
theorem kind_of (i : Int) : ([1, 2] : List Int).getD (i.fmod 2).toNat 0 = 1 ∨ ([1, 2] : List Int).getD (i.fmod 2).toNat 0 = 2 := by
  have h1 := Int.fmod_nonneg_of_pos i (by decide : (0 : Int) < 2)
  have h2 := Int.fmod_lt_of_pos i (by decide : (0 : Int) < 2)
  have : (i.fmod 2).toNat = 0 ∨ (i.fmod 2).toNat = 1 := by omega
  rcases this with h | h <;> rw [h]
  · exact .inl rfl
  · exact .inr rfl
/-- how a turn, or a part of one, ends -/
abbrev TurnEnd (T l : Addr) (to lo : Obj) (rest : List (Addr × Obj)) (h₀ : Heap) (L : Addr) (s : Shared) (Q : Flow → Shared → Prop) : Prop :=
  ∀ (h' : Heap) (tk' : Nat) (m' : Str → Option Value), m' (Str.ofString "tub") = some (.ref T) → Fr h₀ L h' m' → News h₀ L h' ((T, to) :: (l, lo) :: rest) → Q .next { s with heap := h', toks := tk' }
noncomputable abbrev lawEnv (L f : Addr) (ccd : Value) : Env := envX (Str.ofString "law") lawScope L f ccd []
noncomputable abbrev lawA (dp un : Nat) (gd : Option (List Code)) (L f : Addr) (ccd : Value) (outer : List Env) : Around := ktrTop dp un gd (Str.ofString "law") lawScope L f ccd [] outer
/-- a call of the reader: any number below many comes back; the tub's counter has grown -/
abbrev RetU (l : Addr) (g : Obj → List (Addr × Obj)) (a many : Int) (h₀ : Heap) (L : Addr) (m : Str → Option Value) (s : Shared) (Q : Value → Shared → Prop) : Prop :=
  ∀ (r : Int) (t t' : Tok) (c' : Nat) (h' : Heap) (tk' : Nat), 0 ≤ r → r < many → Fr h₀ L h' m → News h₀ L h' (g (tubO l (a + 1) t' c')) → Q (.int r t) { s with heap := h', toks := tk' }
theorem getU {w mean mg mb} {T l : Addr} {a : Int} {t : Tok} {c : Nat} {vs : List Value} {ns : List Int} {c2 : Nat} {news : List (Addr × Obj)} {g : Obj → List (Addr × Obj)} (many : Int) (t2 : Tok)
    (U : UpdF T (tubO l a t c) news g) (hl : (l, listOf vs.toArray c2) ∈ news) (hn : l ≠ T) :
    Cl 4 w mean mg mb 179 news (IntsAre vs ns ∧ ns.length ≤ 100 ∧ 0 ≤ a ∧ a ≤ 1000 ∧ 1 ≤ many ∧ many ≤ 100) [.ref T, .int many t2] (RetU l g a many) := by
  obtain ⟨pre, post, rfl, hg, h1, h2⟩ := U.split
  intro dp un gd cn cs ad ccd cl outer A₀ base h₀ L m s Q E B F X N TT hk hp hd hu ret
  have hr : ∀ p ∈ pre ++ post, p.1 ≠ T := fun p hp => (List.mem_append.mp hp).elim (h1 p) (h2 p)
  refine law_get_C T l a t c vs ns c2 (pre ++ post) many t2 dp un gd cn cs ad ccd cl outer A₀ base h₀ L m s Q E B F X (fun q hq => ?_) TT hk ⟨hp.1, hp.2.1, hp.2.2.1, hp.2.2.2.1, hp.2.2.2.2.1, hp.2.2.2.2.2, hn, hr⟩ hd hu fun r t t' c' h' tk' r0 r1 F' N' => ret r t t' c' h' tk' r0 r1 F' (fun q hq => ?_)
  · rcases List.mem_cons.mp hq with rfl | hq
    · exact N _ (List.mem_append.mpr (.inr (.head _)))
    · rcases List.mem_cons.mp hq with rfl | hq
      · exact N _ hl
      · exact N _ ((List.mem_append.mp hq).elim (fun z => List.mem_append.mpr (.inl z)) fun z => List.mem_append.mpr (.inr (.tail _ z)))
  · rw [hg] at hq
    rcases List.mem_append.mp hq with z | z
    · exact N' _ (.tail _ (.tail _ (List.mem_append.mpr (.inl z))))
    · rcases List.mem_cons.mp z with rfl | z
      · exact N' _ (.head _)
      · exact N' _ (.tail _ (.tail _ (List.mem_append.mpr (.inr z))))
theorem useU {w : World} {mean : ExcName → Option Value} {mg mb : Str → Option Value} {T l : Addr} {a : Int} {t : Tok} {c : Nat} {vs : List Value} {ns : List Int} {c2 : Nat} {news : List (Addr × Obj)} {g : Obj → List (Addr × Obj)} {many : Int} {t2 : Tok}
    {dp un : Nat} {gd : Option (List Code)} {cn : Str} {cs : Scope} {ad : Addr} {ccd : Value} {cl : List (Str × Addr)} {outer : List Env} {A₀ : Around} {base h₀ : Heap} {L : Addr} {m : Str → Option Value} {s : Shared} {Q E : Value → Shared → Prop}
    (ret : RetU l g a many h₀ L m s Q) (B : Below A₀ base outer h₀ := by k_asm) (F : Fr h₀ L s.heap m := by k_asm) (X : (hd.heap_39 w.params).In h₀ := by k_asm) (N : News h₀ L s.heap news := by k_asm) (U : UpdF T (tubO l a t c) news g := by k_updF) (hl : (l, listOf vs.toArray c2) ∈ news := by k_mem) (hn : l ≠ T := by assumption)
    (TT : Top hd.view_39 (looseW hd.view_39 []) mean mg mb h₀ := by k_asm) (hk : cs.kind = .function := by first | exact rfl | assumption) (hI : IntsAre vs ns := by assumption) (hp : ns.length ≤ 100 ∧ 0 ≤ a ∧ a ≤ 1000 ∧ 1 ≤ many ∧ many ≤ 100 := by exact ⟨by assumption, by omega, by omega, by decide, by decide⟩) (hd : dp + 4 < recursionLimit := by ktr_room) (hu : un + 8 * 4 < cLine := by ktr_units) :
    wpAny (model PG w) (ktrTop dp un gd cn cs L ad ccd cl outer) (call (.ref 179) [.ref T, .int many t2]) Q E s :=
  use (getU many t2 U hl hn) ret B F X N TT hk ⟨hI, hp⟩ hd hu
theorem all_nil {P : Value → Prop} : ∀ v ∈ ([] : List Value), P v := fun _ h => nomatch h
theorem all_cons {P : Value → Prop} {a : Value} {r : List Value} (h : P a) (k : ∀ v ∈ r, P v) : ∀ v ∈ a :: r, P v := List.forall_mem_cons.mpr ⟨h, k⟩
/-- an item of a list that the call has made, at a place that is not written: what holds of each holds of it -/
theorem tab_any {prog : Program} {w : World} {A : Around} {E : Value → Shared → Prop} {s : Shared} {h₀ : Heap} {L : Addr} {news : List (Addr × Obj)} {value slice : PySem.Expr} {l : Addr} {vs : List Value} {c : Nat} {k : Int} {u : Tok} {Q : Value → Shared → Prop} (P : Value → Prop)
    (h : ∀ v, P v → Q v s) (N : News h₀ L s.heap news := by k_asm) (hm : (l, listOf vs.toArray c) ∈ news := by k_mem) (h0 : 0 ≤ k := by omega) (h1 : k < (vs.length : Int) := by (simp only [List.length_cons, List.length_nil]; omega)) (h2 : k < 2 ^ 63 := by omega) (hP : ∀ v ∈ vs, P v := by repeat' (first | exact all_nil | (refine all_cons ⟨_, _, rfl, by decide, by decide⟩ ?_)))
    (hs : subscripted slice false (.ref l) (.int k u) = operate [.ref l, .int k u] (getItem (.ref l) (.int k u)) := by with_unfolding_all rfl) :
    wpAny (model prog w) A (subscriptTail value slice (.ref l) (.int k u)) Q E s := by
  have hlt : k.toNat < vs.length := by omega
  have hl : s.heap.IsList l vs.toArray := News.isList N hm
  exact tail_any hl.typeIs slot_list_getitem.lookup (wpAny_getItem_list hl h0 h2 (x := vs[k.toNat]) (by simp [hlt]) (h _ (hP _ (List.getElem_mem hlt)))) hs
abbrev PI (lo hi : Int) (v : Value) : Prop := ∃ x t, v = .int x t ∧ lo ≤ x ∧ x ≤ hi
abbrev PS (R : Str → Prop) (v : Value) : Prop := ∃ x t, v = .str x t ∧ R x
def DT (D : Str) : Prop := D = Str.ofString "1" ∨ D = Str.ofString "25" ∨ D = Str.ofString "307" ∨ D = Str.ofString "9999999" ∨ D = Str.ofString "" ∨ D = Str.ofString "40" ∨ D = Str.ofString "1234567"
theorem DT_len {D : Str} (h : DT D) : D.length ≤ 7 := by
  rcases h with rfl | rfl | rfl | rfl | rfl | rfl | rfl <;> decide
theorem Pl_len {x : Str} (h : Pl x) : x.length ≤ 1 := by rcases h with rfl | rfl <;> decide
theorem DT_int {D : Str} (h : DT D) (hn : ¬ (D == Str.ofString "") = true) : ∃ N : Int, PySem.intText? D = some N ∧ D.length ≤ 640 ∧ Dg D N := by
  rcases h with rfl | rfl | rfl | rfl | rfl | rfl | rfl
  · exact ⟨1, by decide +kernel, by decide, .inr ⟨by decide, by decide, by decide, by decide, by decide +kernel⟩⟩
  · exact ⟨25, by decide +kernel, by decide, .inr ⟨by decide, by decide, by decide, by decide, by decide +kernel⟩⟩
  · exact ⟨307, by decide +kernel, by decide, .inr ⟨by decide, by decide, by decide, by decide, by decide +kernel⟩⟩
  · exact ⟨9999999, by decide +kernel, by decide, .inr ⟨by decide, by decide, by decide, by decide, by decide +kernel⟩⟩
  · exact absurd (by decide) hn
  · exact ⟨40, by decide +kernel, by decide, .inr ⟨by decide, by decide, by decide, by decide, by decide +kernel⟩⟩
  · exact ⟨1234567, by decide +kernel, by decide, .inr ⟨by decide, by decide, by decide, by decide, by decide +kernel⟩⟩
theorem int_D {prog : Program} {w : World} {A : Around} {E : Value → Shared → Prop} {s : Shared} {Q : Value → Shared → Prop} {D : Str} {t : Tok} (h : DT D) (hn : ¬ (D == Str.ofString "") = true) (k : ∀ N t' k', Dg D N → Q (.int N t') { s with toks := k' }) :
    wpAny (model prog w) A (call (.type "int") [.str D t]) Q E s := by
  obtain ⟨N, h1, h2, h3⟩ := DT_int h hn
  exact KIN.call_text h1 h2 (k _ _ _ h3)
theorem Dg_none {D : Str} (h : (D == Str.ofString "") = true) : Dg D 0 := .inl ⟨eq_of_beq h, rfl⟩
theorem v_1 {mn : Bool} {N : Int} (h : mn = true) : 0 - N = vOf mn N := by subst h; rfl
theorem v_2 {mn : Bool} {N : Int} (h : mn = false) : N = vOf mn N := by subst h; rfl
theorem v_3 {mn : Bool} {N : Int} (h : ¬ mn = true) : N = vOf mn N := v_2 (by simpa using h)
theorem turn11_F {w mean mg mb} {dp un : Nat} {gd : Option (List Code)} {f : Addr} {ccd : Value} {outer : List Env} {A₀ : Around} {base h₀ : Heap} {L : Addr} {m : Str → Option Value} {s : Shared} {Q : Flow → Shared → Prop} {E : Value → Shared → Prop}
    {T l P : Addr} {to lo : Obj} {rest : List (Addr × Obj)} {D plus : Str} {N p pl sc n i : Int} {mn : Bool} {ti tp tpl tsc tn tN tpr tw t1 t2 t3 : Tok} {c : Nat}
    (B : Below A₀ base outer h₀) (F : Fr h₀ L s.heap m) (X : (hd.heap_39 w.params).In h₀) (NW : News h₀ L s.heap ((P, tupO #[.str (sgL mn D plus) t1, .str (shW D (p + sc)) t2, .str (fR D (p + sc) pl) t3] c) :: (T, to) :: (l, lo) :: rest))
    (TT : Top hd.view_39 (looseW hd.view_39 []) mean mg mb h₀) (hd : dp + 64 < recursionLimit) (hu : un + 8 * 64 < cLine)
    (m1 : m (Str.ofString "tub") = some (.ref T)) (m2 : m (Str.ofString "turn") = some (.int i ti)) (m3 : m (Str.ofString "word") = some (.str (Str.ofString "F") tw)) (m4 : m (Str.ofString "power") = some (.int p tp))
    (m5 : m (Str.ofString "places") = some (.int pl tpl)) (m6 : m (Str.ofString "scale") = some (.int sc tsc)) (m7 : m (Str.ofString "is_minus") = some (.bool mn)) (m8 : m (Str.ofString "plus") = some (.str plus tpr)) (m9 : m (Str.ofString "parts") = some (.ref P))
    (m10 : m (Str.ofString "width") = some (.int n tn)) (m11 : m (Str.ofString "number") = some (.int N tN))
    (hD : Dg D N) (hpl : Pl plus) (hP : (sgL mn D plus).length ≤ 1 ∧ (shW D (p + sc)).length ≤ 9007 ∧ 1 ≤ (fR D (p + sc) pl).length ∧ (fR D (p + sc) pl).length ≤ 4400)
    (hb : -16 ≤ p ∧ p ≤ 40 ∧ 20 ≤ pl ∧ pl ≤ 4400 ∧ -2 ≤ sc ∧ sc ≤ 4000 ∧ 0 ≤ n ∧ n ≤ 30000 ∧ 0 ≤ i ∧ i ≤ 2)
    (hret : TurnEnd T l to lo rest h₀ L s Q) :
    wpAny (model PG w) (lawA dp un gd L f ccd outer) (execs turn11 (lawEnv L f ccd)) Q E s := by
  k_with_none
  k_with "eval IfExp" => (k_here; (fail_if_success (with_reducible rename InJoin => hJ)); (with_reducible show wpAny _ _ (eval (PySem.Expr.IfExp (PySem.Expr.Name (Str.ofString "is_minus") _) _ _ _) _) _ _ _); refine later_ ?_)
  k_with "call ref" => (k_here; k_dflt (first | refine use (law_laid_C _ _ _ _ _ _ _ _ _) ?_ (hp := ⟨Nat.le_trans hP1 (by decide), Nat.le_trans hP2 (by decide), hP3, Nat.le_trans hP4 (by decide), hn1, hn2⟩) | refine useM2 (edit_value_F _ _ _ _ _ _ _ _ _ _ _ _ _ _ _ _ _ _ _) ?_ (hp := ⟨hvb.1, hvb.2, hp1, hp2, hl1, hl2, hs1, hs2, hn1, hn2, by omega⟩)); intro t9 h9 tk9 F9 N9; (try dsimp only); (try k_fold))
  k_with "subscriptTail" => (k_here; (with_reducible show wpAny _ _ (subscriptTail _ _ (Value.ref _) (Value.int _ _)) _ _ _); first | (k_dflt (refine tab_any (PI 1 2) ?_); intro v9 hv9; (obtain ⟨x9, t9, e9, hx9, hy9⟩ := hv9); subst e9))
  unfold turn11 turn11Lit lawA lawEnv lawScope scopeLit PG
  dsimp only
  have hN : 0 ≤ N ∧ N < 10000000 := by rcases hD with ⟨_, h⟩ | ⟨_, _, h1, h2, _⟩ <;> omega
  obtain ⟨hp1, hp2, hl1, hl2, hs1, hs2, hn1, hn2, hi1, hi2⟩ := hb
  obtain ⟨hP1, hP2, hP3, hP4⟩ := hP
  have hne := ne_same (law_f (mn := mn) (n := n) hD hpl hp1 hs1 hl1)
  have hf1 := Int.fmod_nonneg_of_pos i (by decide : (0 : Int) < 2)
  have hf2 := Int.fmod_lt_of_pos i (by decide : (0 : Int) < 2)
  have F1 := fr_eq F (ad (ad (ad (ad (ad (ad (ad (ad (ad (ad (ad rfl m1) m2) m3) m4) m5) m6) m7) m8) m9) m10) m11)
  clear F m1 m2 m3 m4 m5 m6 m7 m8 m9 m10 m11
  (try k_fold)
  have hvb : -10000000 < vOf mn N ∧ vOf mn N < 10000000 := by cases mn <;> simp only [vOf, if_true, Bool.false_eq_true, if_false] <;> omega
  k_steps
  unfold Later
  k_dflt (refine join_e (fun u => ∃ x t, u = .int x t ∧ x = vOf mn N) ?ca ?ka)
  case ca =>
    intro mk
    k_steps
    all_goals exact Met.mk ⟨_, _, rfl, by first | exact v_1 (by assumption) | exact v_2 (by assumption) | exact v_3 (by assumption)⟩
  intro v1 h1 k1 hv1 F2 N2
  obtain ⟨y, t9, e1, hy⟩ := hv1
  subst e1
  rw [← hy] at hvb hne
  k_steps
  all_goals (refine' hret _ _ _ ?a ?b ?c; (case b => k_asm); (case a => rfl); (case c => (refine' cb_drop ?cbN ?cbS; (case cbN => assumption); (case cbS => (intro q hq; repeat (first | exact hq | refine List.mem_cons_of_mem _ ?_))))))
theorem turn11_D {w mean mg mb} {dp un : Nat} {gd : Option (List Code)} {f : Addr} {ccd : Value} {outer : List Env} {A₀ : Around} {base h₀ : Heap} {L : Addr} {m : Str → Option Value} {s : Shared} {Q : Flow → Shared → Prop} {E : Value → Shared → Prop}
    {T l P : Addr} {to lo : Obj} {rest : List (Addr × Obj)} {D plus : Str} {N p pl sc n i : Int} {mn : Bool} {ti tp tpl tsc tn tN tpr tw t1 t2 t3 : Tok} {c : Nat}
    (B : Below A₀ base outer h₀) (F : Fr h₀ L s.heap m) (X : (hd.heap_39 w.params).In h₀) (NW : News h₀ L s.heap ((P, tupO #[.str (sgL mn D plus) t1, .str (eW D pl sc) t2, .str (eR (Str.ofString "D") D p pl sc) t3] c) :: (T, to) :: (l, lo) :: rest))
    (TT : Top hd.view_39 (looseW hd.view_39 []) mean mg mb h₀) (hd : dp + 64 < recursionLimit) (hu : un + 8 * 64 < cLine)
    (m1 : m (Str.ofString "tub") = some (.ref T)) (m2 : m (Str.ofString "turn") = some (.int i ti)) (m3 : m (Str.ofString "word") = some (.str (Str.ofString "D") tw)) (m4 : m (Str.ofString "power") = some (.int p tp))
    (m5 : m (Str.ofString "places") = some (.int pl tpl)) (m6 : m (Str.ofString "scale") = some (.int sc tsc)) (m7 : m (Str.ofString "is_minus") = some (.bool mn)) (m8 : m (Str.ofString "plus") = some (.str plus tpr)) (m9 : m (Str.ofString "parts") = some (.ref P))
    (m10 : m (Str.ofString "width") = some (.int n tn)) (m11 : m (Str.ofString "number") = some (.int N tN))
    (hD : Dg D N) (hpl : Pl plus) (hP : (sgL mn D plus).length ≤ 1 ∧ (eW D pl sc).length ≤ 10000 ∧ 1 ≤ (eR (Str.ofString "D") D p pl sc).length ∧ (eR (Str.ofString "D") D p pl sc).length ≤ 10000)
    (hb : -16 ≤ p ∧ p ≤ 40 ∧ 20 ≤ pl ∧ pl ≤ 4400 ∧ -2 ≤ sc ∧ sc ≤ 3 ∧ 0 ≤ n ∧ n ≤ 30000 ∧ 0 ≤ i ∧ i ≤ 2)
    (hret : TurnEnd T l to lo rest h₀ L s Q) :
    wpAny (model PG w) (lawA dp un gd L f ccd outer) (execs turn11 (lawEnv L f ccd)) Q E s := by
  k_with_none
  k_with "eval IfExp" => (k_here; (fail_if_success (with_reducible rename InJoin => hJ)); (with_reducible show wpAny _ _ (eval (PySem.Expr.IfExp (PySem.Expr.Name (Str.ofString "is_minus") _) _ _ _) _) _ _ _); refine later_ ?_)
  k_with "call ref" => (k_here; k_dflt (first | refine use (law_laid_C _ _ _ _ _ _ _ _ _) ?_ (hp := ⟨Nat.le_trans hP1 (by decide), Nat.le_trans hP2 (by decide), hP3, Nat.le_trans hP4 (by decide), hn1, hn2⟩) | refine useM2 (edit_value_D _ _ _ _ _ _ _ _ _ _ _ _ _ _ _ _ _ _ _) ?_ (hp := ⟨hvb.1, hvb.2, hp1, hp2, hl1, hl2, hs1, hs2, hn1, hn2, by omega⟩)); intro t9 h9 tk9 F9 N9; (try dsimp only); (try k_fold))
  k_with "subscriptTail" => (k_here; (with_reducible show wpAny _ _ (subscriptTail _ _ (Value.ref _) (Value.int _ _)) _ _ _); first | (k_dflt (refine tab_any (PI 1 2) ?_); intro v9 hv9; (obtain ⟨x9, t9, e9, hx9, hy9⟩ := hv9); subst e9))
  unfold turn11 turn11Lit lawA lawEnv lawScope scopeLit PG
  dsimp only
  have hN : 0 ≤ N ∧ N < 10000000 := by rcases hD with ⟨_, h⟩ | ⟨_, _, h1, h2, _⟩ <;> omega
  obtain ⟨hp1, hp2, hl1, hl2, hs1, hs2, hn1, hn2, hi1, hi2⟩ := hb
  obtain ⟨hP1, hP2, hP3, hP4⟩ := hP
  have hne := ne_same (law_e (x := Str.ofString "D") (mn := mn) (p := p) (n := n) hD hpl hs1 hl1)
  have hf1 := Int.fmod_nonneg_of_pos i (by decide : (0 : Int) < 2)
  have hf2 := Int.fmod_lt_of_pos i (by decide : (0 : Int) < 2)
  have F1 := fr_eq F (ad (ad (ad (ad (ad (ad (ad (ad (ad (ad (ad rfl m1) m2) m3) m4) m5) m6) m7) m8) m9) m10) m11)
  clear F m1 m2 m3 m4 m5 m6 m7 m8 m9 m10 m11
  (try k_fold)
  have hvb : -10000000 < vOf mn N ∧ vOf mn N < 10000000 := by cases mn <;> simp only [vOf, if_true, Bool.false_eq_true, if_false] <;> omega
  k_steps
  unfold Later
  k_dflt (refine join_e (fun u => ∃ x t, u = .int x t ∧ x = vOf mn N) ?ca ?ka)
  case ca =>
    intro mk
    k_steps
    all_goals exact Met.mk ⟨_, _, rfl, by first | exact v_1 (by assumption) | exact v_2 (by assumption) | exact v_3 (by assumption)⟩
  intro v1 h1 k1 hv1 F2 N2
  obtain ⟨y, t9, e1, hy⟩ := hv1
  subst e1
  rw [← hy] at hvb hne
  k_steps
  all_goals (refine' hret _ _ _ ?a ?b ?c; (case b => k_asm); (case a => rfl); (case c => (refine' cb_drop ?cbN ?cbS; (case cbN => assumption); (case cbS => (intro q hq; repeat (first | exact hq | refine List.mem_cons_of_mem _ ?_))))))
theorem turn11_E {w mean mg mb} {dp un : Nat} {gd : Option (List Code)} {f : Addr} {ccd : Value} {outer : List Env} {A₀ : Around} {base h₀ : Heap} {L : Addr} {m : Str → Option Value} {s : Shared} {Q : Flow → Shared → Prop} {E : Value → Shared → Prop}
    {T l P : Addr} {to lo : Obj} {rest : List (Addr × Obj)} {D plus : Str} {N p pl sc n i : Int} {mn : Bool} {ti tp tpl tsc tn tN tpr tw t1 t2 t3 : Tok} {c : Nat}
    (B : Below A₀ base outer h₀) (F : Fr h₀ L s.heap m) (X : (hd.heap_39 w.params).In h₀) (NW : News h₀ L s.heap ((P, tupO #[.str (sgL mn D plus) t1, .str (eW D pl sc) t2, .str (eR (Str.ofString "E") D p pl sc) t3] c) :: (T, to) :: (l, lo) :: rest))
    (TT : Top hd.view_39 (looseW hd.view_39 []) mean mg mb h₀) (hd : dp + 64 < recursionLimit) (hu : un + 8 * 64 < cLine)
    (m1 : m (Str.ofString "tub") = some (.ref T)) (m2 : m (Str.ofString "turn") = some (.int i ti)) (m3 : m (Str.ofString "word") = some (.str (Str.ofString "E") tw)) (m4 : m (Str.ofString "power") = some (.int p tp))
    (m5 : m (Str.ofString "places") = some (.int pl tpl)) (m6 : m (Str.ofString "scale") = some (.int sc tsc)) (m7 : m (Str.ofString "is_minus") = some (.bool mn)) (m8 : m (Str.ofString "plus") = some (.str plus tpr)) (m9 : m (Str.ofString "parts") = some (.ref P))
    (m10 : m (Str.ofString "width") = some (.int n tn)) (m11 : m (Str.ofString "number") = some (.int N tN))
    (hD : Dg D N) (hpl : Pl plus) (hP : (sgL mn D plus).length ≤ 1 ∧ (eW D pl sc).length ≤ 10000 ∧ 1 ≤ (eR (Str.ofString "E") D p pl sc).length ∧ (eR (Str.ofString "E") D p pl sc).length ≤ 10000)
    (hb : -16 ≤ p ∧ p ≤ 40 ∧ 20 ≤ pl ∧ pl ≤ 4400 ∧ -2 ≤ sc ∧ sc ≤ 3 ∧ 0 ≤ n ∧ n ≤ 30000 ∧ 0 ≤ i ∧ i ≤ 2)
    (hret : TurnEnd T l to lo rest h₀ L s Q) :
    wpAny (model PG w) (lawA dp un gd L f ccd outer) (execs turn11 (lawEnv L f ccd)) Q E s := by
  k_with_none
  k_with "eval IfExp" => (k_here; (fail_if_success (with_reducible rename InJoin => hJ)); (with_reducible show wpAny _ _ (eval (PySem.Expr.IfExp (PySem.Expr.Name (Str.ofString "is_minus") _) _ _ _) _) _ _ _); refine later_ ?_)
  k_with "call ref" => (k_here; k_dflt (first | refine use (law_laid_C _ _ _ _ _ _ _ _ _) ?_ (hp := ⟨Nat.le_trans hP1 (by decide), Nat.le_trans hP2 (by decide), hP3, Nat.le_trans hP4 (by decide), hn1, hn2⟩) | refine useM2 (edit_value_E _ _ _ _ _ _ _ _ _ _ _ _ _ _ _ _ _ _ _) ?_ (hp := ⟨hvb.1, hvb.2, hp1, hp2, hl1, hl2, hs1, hs2, hn1, hn2, by omega⟩)); intro t9 h9 tk9 F9 N9; (try dsimp only); (try k_fold))
  k_with "subscriptTail" => (k_here; (with_reducible show wpAny _ _ (subscriptTail _ _ (Value.ref _) (Value.int _ _)) _ _ _); first | (k_dflt (refine tab_any (PI 1 2) ?_); intro v9 hv9; (obtain ⟨x9, t9, e9, hx9, hy9⟩ := hv9); subst e9))
  unfold turn11 turn11Lit lawA lawEnv lawScope scopeLit PG
  dsimp only
  have hN : 0 ≤ N ∧ N < 10000000 := by rcases hD with ⟨_, h⟩ | ⟨_, _, h1, h2, _⟩ <;> omega
  obtain ⟨hp1, hp2, hl1, hl2, hs1, hs2, hn1, hn2, hi1, hi2⟩ := hb
  obtain ⟨hP1, hP2, hP3, hP4⟩ := hP
  have hne := ne_same (law_e (x := Str.ofString "E") (mn := mn) (p := p) (n := n) hD hpl hs1 hl1)
  have hf1 := Int.fmod_nonneg_of_pos i (by decide : (0 : Int) < 2)
  have hf2 := Int.fmod_lt_of_pos i (by decide : (0 : Int) < 2)
  have F1 := fr_eq F (ad (ad (ad (ad (ad (ad (ad (ad (ad (ad (ad rfl m1) m2) m3) m4) m5) m6) m7) m8) m9) m10) m11)
  clear F m1 m2 m3 m4 m5 m6 m7 m8 m9 m10 m11
  (try k_fold)
  have hvb : -10000000 < vOf mn N ∧ vOf mn N < 10000000 := by cases mn <;> simp only [vOf, if_true, Bool.false_eq_true, if_false] <;> omega
  k_steps
  unfold Later
  k_dflt (refine join_e (fun u => ∃ x t, u = .int x t ∧ x = vOf mn N) ?ca ?ka)
  case ca =>
    intro mk
    k_steps
    all_goals exact Met.mk ⟨_, _, rfl, by first | exact v_1 (by assumption) | exact v_2 (by assumption) | exact v_3 (by assumption)⟩
  intro v1 h1 k1 hv1 F2 N2
  obtain ⟨y, t9, e1, hy⟩ := hv1
  subst e1
  rw [← hy] at hvb hne
  k_steps
  all_goals (refine' hret _ _ _ ?a ?b ?c; (case b => k_asm); (case a => rfl); (case c => (refine' cb_drop ?cbN ?cbS; (case cbN => assumption); (case cbS => (intro q hq; repeat (first | exact hq | refine List.mem_cons_of_mem _ ?_))))))
theorem turn6_F {w mean mg mb} {dp un : Nat} {gd : Option (List Code)} {f : Addr} {ccd : Value} {outer : List Env} {A₀ : Around} {base h₀ : Heap} {L : Addr} {m : Str → Option Value} {s : Shared} {Q : Flow → Shared → Prop} {E : Value → Shared → Prop}
    {T l : Addr} {rest : List (Addr × Obj)} {D : Str} {p pl sc i a : Int} {t ti tp tpl tsc tD tw : Tok} {c c2 : Nat} {vs : List Value} {ns : List Int}
    (B : Below A₀ base outer h₀) (F : Fr h₀ L s.heap m) (X : (hd.heap_39 w.params).In h₀) (NW : News h₀ L s.heap ((T, tubO l a t c) :: (l, listOf vs.toArray c2) :: rest))
    (TT : Top hd.view_39 (looseW hd.view_39 []) mean mg mb h₀) (hd : dp + 64 < recursionLimit) (hu : un + 8 * 64 < cLine)
    (m1 : m (Str.ofString "tub") = some (.ref T)) (m2 : m (Str.ofString "turn") = some (.int i ti)) (m3 : m (Str.ofString "word") = some (.str (Str.ofString "F") tw)) (m4 : m (Str.ofString "power") = some (.int p tp))
    (m5 : m (Str.ofString "places") = some (.int pl tpl)) (m6 : m (Str.ofString "scale") = some (.int sc tsc)) (m7 : m (Str.ofString "digits") = some (.str D tD))
    (hD : DT D) (hI : IntsAre vs ns) (hlen : ns.length ≤ 100) (hlT : l ≠ T) (hrT : ∀ p ∈ rest, p.1 ≠ T)
    (hb : -16 ≤ p ∧ p ≤ 40 ∧ 20 ≤ pl ∧ pl ≤ 4400 ∧ -2 ≤ sc ∧ sc ≤ 4000 ∧ 0 ≤ i ∧ i ≤ 2 ∧ 0 ≤ a ∧ a ≤ 900)
    (hret : ∀ t' c', TurnEnd T l (tubO l (a + 1 + 1 + 1) t' c') (listOf vs.toArray c2) rest h₀ L s Q) :
    wpAny (model PG w) (lawA dp un gd L f ccd outer) (execs turn6 (lawEnv L f ccd)) Q E s := by
  k_with_none
  k_with "eval IfExp" => (k_here; (fail_if_success (with_reducible rename InJoin => hJ)); (with_reducible show wpAny _ _ (eval (PySem.Expr.IfExp (PySem.Expr.Compare (PySem.Expr.Name (Str.ofString "digits") _) _ _ _) _ _ _) _) _ _ _); refine later_ ?_)
  k_with "call ref" => (k_here; k_dflt (refine use (law_by_f_C _ _ _ _ _ _ _ _ _ _ _ _) ?_ (hp := ⟨hDl, hp1, hp2, hl1, hl2, hs1, hs2, by assumption⟩)); intro D9 t9 u9 v9 c9 h9 tk9 hP9 F9 N9 l9; (try k_lt l9); (obtain ⟨hP1, hP2, hP3, hP4⟩ := hP9); (try dsimp only); (try k_fold))
  k_with "call ref" => (k_here; (with_reducible show wpAny _ _ (call (Value.ref 179) _) _ _ _); k_dflt (refine useU ?_); intro r9 t9 u9 c9 h9 tk9 hr9 hs9 F9 N9; (try dsimp only at N9); (try dsimp only); (try k_fold))
  k_with "subscriptTail" => (k_here; (with_reducible show wpAny _ _ (subscriptTail _ _ (Value.ref _) (Value.int _ _)) _ _ _); first | (k_dflt (refine tab_any (PS Pl) ?_ (hP := all_cons ⟨_, _, rfl, .inl rfl⟩ (all_cons ⟨_, _, rfl, .inr rfl⟩ all_nil))); intro v9 hv9; (obtain ⟨x9, t9, e9, hx9⟩ := hv9); subst e9; have hy9 := Pl_len hx9) | (k_dflt (refine tab_any (PI 0 9) ?_); intro v9 hv9; (obtain ⟨x9, t9, e9, hx9, hy9⟩ := hv9); subst e9))
  k_with "call type:int" => (k_here; (with_reducible show wpAny _ _ (call (Value.type "int") [Value.str _ _]) _ _ _); (first | refine int_D (by assumption) (by assumption) ?_ | refine int_D (by assumption) (Bool.eq_false_iff.mp (by assumption)) ?_); intro N9 t9 k9 hN9; (try dsimp only))
  k_with "execs cons" => (k_here; (with_reducible show wpAny _ _ (execs (Stmt.Assign [Expr.Name (Str.ofString "value") _] _ _ :: _) _) _ _ _); refine later_ ?_)
  unfold turn6 turn6Lit lawA lawEnv lawScope scopeLit PG
  dsimp only
  obtain ⟨hp1, hp2, hl1, hl2, hs1, hs2, hi1, hi2, ha1, ha2⟩ := hb
  have hDl := DT_len hD
  have F1 := fr_eq F (ad (ad (ad (ad (ad (ad (ad rfl m1) m2) m3) m4) m5) m6) m7)
  clear F m1 m2 m3 m4 m5 m6 m7
  (try k_fold)
  k_steps
  unfold Later
  k_dflt (refine join_e (fun u => ∃ N t, u = .int N t ∧ Dg D N) ?ca ?ka)
  case ca =>
    intro mk
    k_steps
    all_goals first | exact Met.mk ⟨_, _, rfl, Dg_none (by assumption)⟩ | exact Met.mk ⟨_, _, rfl, by assumption⟩
  intro v1 h1 k1 hv1 F2 N2
  obtain ⟨N, t0, e1, hN⟩ := hv1
  subst e1
  k_steps
  unfold Later
  k_dflt (refine' turn11_F (l := l) ?Bp ?Fp ?Xp (cb_drop ?N0p ?hNp) ?TTp ?hdp ?hup ?m1p ?m2p ?m3p ?m4p ?m5p ?m6p ?m7p ?m8p ?m9p ?m10p ?m11p ?hDp ?hplp ?hPp ?hbp ?hretp; (case Fp => k_asm); (case N0p => k_asm); (case m1p => rfl); (case m2p => rfl); (case m3p => rfl); (case m4p => rfl); (case m5p => rfl); (case m6p => rfl); (case m7p => rfl); (case m8p => rfl); (case m9p => rfl); (case m10p => rfl); (case m11p => rfl); (case Bp => k_asm); (case Xp => k_asm); (case TTp => k_asm); (case hNp => first
    | exact List.forall_mem_cons.mpr ⟨by k_mem, List.forall_mem_cons.mpr ⟨by k_mem, List.forall_mem_cons.mpr ⟨by k_mem, fun q hq => List.Mem.tail _ (List.Mem.tail _ (List.Mem.tail _ (List.Mem.tail _ (List.Mem.tail _ hq))))⟩⟩⟩); (case hdp => assumption); (case hup => assumption); (case hDp => first | assumption | exact Dg_none (by assumption)); (case hplp => assumption); (case hPp => exact ⟨by with_reducible assumption, by with_reducible assumption, by with_reducible assumption, by with_reducible assumption⟩); (case hbp => exact ⟨hp1, hp2, hl1, hl2, hs1, hs2, by omega, by omega, hi1, hi2⟩))
  exact fun h' tk' m' e F N => hret _ _ h' tk' m' e F N
/-- the end of a turn, for a letter W that takes an exponent -/
abbrev T11 (w : World) (mean : ExcName → Option Value) (mg mb : Str → Option Value) (W : Str) : Prop :=
  ∀ {dp un : Nat} {gd : Option (List Code)} {f : Addr} {ccd : Value} {outer : List Env} {A₀ : Around} {base h₀ : Heap} {L : Addr} {m : Str → Option Value} {s : Shared} {Q : Flow → Shared → Prop} {E : Value → Shared → Prop}
    {T l P : Addr} {a' : Int} {u' : Tok} {c' : Nat} {lo : Obj} {news rest : List (Addr × Obj)} {D plus : Str} {N p pl sc n i : Int} {mn : Bool} {ti tp tpl tsc tn tN tpr tw t1 t2 t3 : Tok} {c : Nat}
    (B : Below A₀ base outer h₀) (F : Fr h₀ L s.heap m) (X : (hd.heap_39 w.params).In h₀) (N0 : News h₀ L s.heap news) (hN : ∀ q ∈ ((P, tupO #[.str (sgL mn D plus) t1, .str (eW D pl sc) t2, .str (eR (W) D p pl sc) t3] c) :: (T, tubO l a' u' c') :: (l, lo) :: rest), q ∈ news)
    (TT : Top hd.view_39 (looseW hd.view_39 []) mean mg mb h₀) (hd : dp + 64 < recursionLimit) (hu : un + 8 * 64 < cLine)
    (m1 : m (Str.ofString "tub") = some (.ref T)) (m2 : m (Str.ofString "turn") = some (.int i ti)) (m3 : m (Str.ofString "word") = some (.str (W) tw)) (m4 : m (Str.ofString "power") = some (.int p tp))
    (m5 : m (Str.ofString "places") = some (.int pl tpl)) (m6 : m (Str.ofString "scale") = some (.int sc tsc)) (m7 : m (Str.ofString "is_minus") = some (.bool mn)) (m8 : m (Str.ofString "plus") = some (.str plus tpr)) (m9 : m (Str.ofString "parts") = some (.ref P))
    (m10 : m (Str.ofString "width") = some (.int n tn)) (m11 : m (Str.ofString "number") = some (.int N tN))
    (hD : Dg D N) (hpl : Pl plus) (hP : (sgL mn D plus).length ≤ 1 ∧ (eW D pl sc).length ≤ 10000 ∧ 1 ≤ (eR (W) D p pl sc).length ∧ (eR (W) D p pl sc).length ≤ 10000)
    (hb : -16 ≤ p ∧ p ≤ 40 ∧ 20 ≤ pl ∧ pl ≤ 4400 ∧ -2 ≤ sc ∧ sc ≤ 3 ∧ 0 ≤ n ∧ n ≤ 30000 ∧ 0 ≤ i ∧ i ≤ 2)
    (hret : Later (TurnEnd T l (tubO l a' u' c') lo rest h₀ L s Q)),
    wpAny (model PG w) (lawA dp un gd L f ccd outer) (execs turn11 (lawEnv L f ccd)) Q E s
theorem t11_D {w mean mg mb} : T11 w mean mg mb (Str.ofString "D") := by
  unfold T11
  intro dp un gd f ccd outer A₀ base h₀ L m s Q E T l P a' u' c' lo news rest D plus N p pl sc n i mn ti tp tpl tsc tn tN tpr tw t1 t2 t3 c B F X N0 hN TT hd hu m1 m2 m3 m4 m5 m6 m7 m8 m9 m10 m11 hD hpl hP hb hret
  exact turn11_D B F X (fun q hq => N0 q (hN q hq)) TT hd hu m1 m2 m3 m4 m5 m6 m7 m8 m9 m10 m11 hD hpl hP hb hret
theorem t11_E {w mean mg mb} : T11 w mean mg mb (Str.ofString "E") := by
  unfold T11
  intro dp un gd f ccd outer A₀ base h₀ L m s Q E T l P a' u' c' lo news rest D plus N p pl sc n i mn ti tp tpl tsc tn tN tpr tw t1 t2 t3 c B F X N0 hN TT hd hu m1 m2 m3 m4 m5 m6 m7 m8 m9 m10 m11 hD hpl hP hb hret
  exact turn11_E B F X (fun q hq => N0 q (hN q hq)) TT hd hu m1 m2 m3 m4 m5 m6 m7 m8 m9 m10 m11 hD hpl hP hb hret

theorem turn6_W {w mean mg mb} {W : Str} (h11 : T11 w mean mg mb W) (hW : (W == Str.ofString "F") = false) (hxl : W.length = 1) {dp un : Nat} {gd : Option (List Code)} {f : Addr} {ccd : Value} {outer : List Env} {A₀ : Around} {base h₀ : Heap} {L : Addr} {m : Str → Option Value} {s : Shared} {Q : Flow → Shared → Prop} {E : Value → Shared → Prop}
    {T l : Addr} {rest : List (Addr × Obj)} {D : Str} {p pl sc i a : Int} {t ti tp tpl tsc tD tw : Tok} {c c2 : Nat} {vs : List Value} {ns : List Int}
    (B : Below A₀ base outer h₀) (F : Fr h₀ L s.heap m) (X : (hd.heap_39 w.params).In h₀) (NW : News h₀ L s.heap ((T, tubO l a t c) :: (l, listOf vs.toArray c2) :: rest))
    (TT : Top hd.view_39 (looseW hd.view_39 []) mean mg mb h₀) (hd : dp + 64 < recursionLimit) (hu : un + 8 * 64 < cLine)
    (m1 : m (Str.ofString "tub") = some (.ref T)) (m2 : m (Str.ofString "turn") = some (.int i ti)) (m3 : m (Str.ofString "word") = some (.str (W) tw)) (m4 : m (Str.ofString "power") = some (.int p tp))
    (m5 : m (Str.ofString "places") = some (.int pl tpl)) (m6 : m (Str.ofString "scale") = some (.int sc tsc)) (m7 : m (Str.ofString "digits") = some (.str D tD))
    (hD : DT D) (hI : IntsAre vs ns) (hlen : ns.length ≤ 100) (hlT : l ≠ T) (hrT : ∀ p ∈ rest, p.1 ≠ T)
    (hb : -16 ≤ p ∧ p ≤ 40 ∧ 20 ≤ pl ∧ pl ≤ 4400 ∧ -2 ≤ sc ∧ sc ≤ 3 ∧ 0 ≤ i ∧ i ≤ 2 ∧ 0 ≤ a ∧ a ≤ 900)
    (hret : ∀ t' c', TurnEnd T l (tubO l (a + 1 + 1 + 1) t' c') (listOf vs.toArray c2) rest h₀ L s Q) :
    wpAny (model PG w) (lawA dp un gd L f ccd outer) (execs turn6 (lawEnv L f ccd)) Q E s := by
  k_with_none
  k_with "eval IfExp" => (k_here; (fail_if_success (with_reducible rename InJoin => hJ)); (with_reducible show wpAny _ _ (eval (PySem.Expr.IfExp (PySem.Expr.Compare (PySem.Expr.Name (Str.ofString "digits") _) _ _ _) _ _ _) _) _ _ _); refine later_ ?_)
  k_with "call ref" => (k_here; k_dflt (refine use (law_by_e_C _ _ _ _ _ _ _ _ _ _ _ _ _ _) ?_ (hp := ⟨hxl, hDl, hp1, hp2, hl1, hl2, hs1, hs2, by assumption⟩)); intro D9 t9 u9 v9 c9 h9 tk9 hP9 F9 N9 l9; (try k_lt l9); (obtain ⟨hP1, hP2, hP3, hP4⟩ := hP9); (try dsimp only); (try k_fold))
  k_with "call ref" => (k_here; (with_reducible show wpAny _ _ (call (Value.ref 179) _) _ _ _); k_dflt (refine useU ?_); intro r9 t9 u9 c9 h9 tk9 hr9 hs9 F9 N9; (try dsimp only at N9); (try dsimp only); (try k_fold))
  k_with "subscriptTail" => (k_here; (with_reducible show wpAny _ _ (subscriptTail _ _ (Value.ref _) (Value.int _ _)) _ _ _); first | (k_dflt (refine tab_any (PS Pl) ?_ (hP := all_cons ⟨_, _, rfl, .inl rfl⟩ (all_cons ⟨_, _, rfl, .inr rfl⟩ all_nil))); intro v9 hv9; (obtain ⟨x9, t9, e9, hx9⟩ := hv9); subst e9; have hy9 := Pl_len hx9) | (k_dflt (refine tab_any (PI 0 9) ?_); intro v9 hv9; (obtain ⟨x9, t9, e9, hx9, hy9⟩ := hv9); subst e9))
  k_with "call type:int" => (k_here; (with_reducible show wpAny _ _ (call (Value.type "int") [Value.str _ _]) _ _ _); (first | refine int_D (by assumption) (by assumption) ?_ | refine int_D (by assumption) (Bool.eq_false_iff.mp (by assumption)) ?_); intro N9 t9 k9 hN9; (try dsimp only))
  k_with "execs cons" => (k_here; (with_reducible show wpAny _ _ (execs (Stmt.Assign [Expr.Name (Str.ofString "value") _] _ _ :: _) _) _ _ _); refine later_ ?_)
  unfold turn6 turn6Lit lawA lawEnv lawScope scopeLit PG
  dsimp only
  obtain ⟨hp1, hp2, hl1, hl2, hs1, hs2, hi1, hi2, ha1, ha2⟩ := hb
  have hDl := DT_len hD
  have F1 := fr_eq F (ad (ad (ad (ad (ad (ad (ad rfl m1) m2) m3) m4) m5) m6) m7)
  clear F m1 m2 m3 m4 m5 m6 m7
  (try k_fold)
  k_steps
  unfold Later
  k_dflt (refine join_e (fun u => ∃ N t, u = .int N t ∧ Dg D N) ?ca ?ka)
  case ca =>
    intro mk
    k_steps
    all_goals first | exact Met.mk ⟨_, _, rfl, Dg_none (by assumption)⟩ | exact Met.mk ⟨_, _, rfl, by assumption⟩
  intro v1 h1 k1 hv1 F2 N2
  obtain ⟨N, t0, e1, hN⟩ := hv1
  subst e1
  k_steps
  unfold Later
  k_dflt (refine' h11 ?Bp ?Fp ?Xp ?N0p ?hNp ?TTp ?hdp ?hup ?m1p ?m2p ?m3p ?m4p ?m5p ?m6p ?m7p ?m8p ?m9p ?m10p ?m11p ?hDp ?hplp ?hPp ?hbp ?hretp; (case Fp => k_asm); (case N0p => k_asm); (case m1p => rfl); (case m2p => rfl); (case m3p => rfl); (case m4p => rfl); (case m5p => rfl); (case m6p => rfl); (case m7p => rfl); (case m8p => rfl); (case m9p => rfl); (case m10p => rfl); (case m11p => rfl); (case Bp => k_asm); (case Xp => k_asm); (case TTp => k_asm); (case hNp => first
    | exact List.forall_mem_cons.mpr ⟨by k_mem, List.forall_mem_cons.mpr ⟨by k_mem, List.forall_mem_cons.mpr ⟨by k_mem, fun q hq => List.Mem.tail _ (List.Mem.tail _ (List.Mem.tail _ (List.Mem.tail _ (List.Mem.tail _ hq))))⟩⟩⟩); (case hdp => assumption); (case hup => assumption); (case hDp => first | assumption | exact Dg_none (by assumption)); (case hplp => assumption); (case hPp => exact ⟨by with_reducible assumption, by with_reducible assumption, by with_reducible assumption, by with_reducible assumption⟩); (case hbp => exact ⟨hp1, hp2, hl1, hl2, hs1, hs2, by omega, by omega, hi1, hi2⟩))
  exact fun h' tk' m' e F N => hret _ _ h' tk' m' e F N
theorem fed {r : Int} (h0 : 0 ≤ r) (h1 : r < 3) (h : (Txt.item (Str.ofString "FED") r == Str.ofString "F") = false) : Txt.item (Str.ofString "FED") r = Str.ofString "E" ∨ Txt.item (Str.ofString "FED") r = Str.ofString "D" := by
  have : r = 0 ∨ r = 1 ∨ r = 2 := by omega
  rcases this with rfl | rfl | rfl
  · exact absurd h (by decide)
  · exact .inl (by decide)
  · exact .inr (by decide)
theorem DT_all {t1 t2 t3 t4 t5 t6 t7 : Tok} : ∀ v ∈ [Value.str (Str.ofString "1") t1, Value.str (Str.ofString "25") t2, Value.str (Str.ofString "307") t3, Value.str (Str.ofString "9999999") t4, Value.str (Str.ofString "") t5, Value.str (Str.ofString "40") t6, Value.str (Str.ofString "1234567") t7], PS DT v := (all_cons ⟨_, _, rfl, .inl rfl⟩ (all_cons ⟨_, _, rfl, .inr (.inl rfl)⟩ (all_cons ⟨_, _, rfl, .inr (.inr (.inl rfl))⟩ (all_cons ⟨_, _, rfl, .inr (.inr (.inr (.inl rfl)))⟩ (all_cons ⟨_, _, rfl, .inr (.inr (.inr (.inr (.inl rfl))))⟩ (all_cons ⟨_, _, rfl, .inr (.inr (.inr (.inr (.inr (.inl rfl)))))⟩ (all_cons ⟨_, _, rfl, .inr (.inr (.inr (.inr (.inr (.inr rfl)))))⟩ all_nil)))))))
theorem pi5 {lo hi : Int} {a0 a1 a2 a3 a4 : Int} {t0 t1 t2 t3 t4 : Tok} (h : (lo ≤ a0 ∧ a0 ≤ hi) ∧ (lo ≤ a1 ∧ a1 ≤ hi) ∧ (lo ≤ a2 ∧ a2 ≤ hi) ∧ (lo ≤ a3 ∧ a3 ≤ hi) ∧ (lo ≤ a4 ∧ a4 ≤ hi)) : ∀ v ∈ [Value.int a0 t0, Value.int a1 t1, Value.int a2 t2, Value.int a3 t3, Value.int a4 t4], PI lo hi v := (all_cons ⟨_, _, rfl, (h.1).1, (h.1).2⟩ (all_cons ⟨_, _, rfl, (h.2.1).1, (h.2.1).2⟩ (all_cons ⟨_, _, rfl, (h.2.2.1).1, (h.2.2.1).2⟩ (all_cons ⟨_, _, rfl, (h.2.2.2.1).1, (h.2.2.2.1).2⟩ (all_cons ⟨_, _, rfl, (h.2.2.2.2).1, (h.2.2.2.2).2⟩ all_nil)))))
theorem pi6 {lo hi : Int} {a0 a1 a2 a3 a4 a5 : Int} {t0 t1 t2 t3 t4 t5 : Tok} (h : (lo ≤ a0 ∧ a0 ≤ hi) ∧ (lo ≤ a1 ∧ a1 ≤ hi) ∧ (lo ≤ a2 ∧ a2 ≤ hi) ∧ (lo ≤ a3 ∧ a3 ≤ hi) ∧ (lo ≤ a4 ∧ a4 ≤ hi) ∧ (lo ≤ a5 ∧ a5 ≤ hi)) : ∀ v ∈ [Value.int a0 t0, Value.int a1 t1, Value.int a2 t2, Value.int a3 t3, Value.int a4 t4, Value.int a5 t5], PI lo hi v := (all_cons ⟨_, _, rfl, (h.1).1, (h.1).2⟩ (all_cons ⟨_, _, rfl, (h.2.1).1, (h.2.1).2⟩ (all_cons ⟨_, _, rfl, (h.2.2.1).1, (h.2.2.1).2⟩ (all_cons ⟨_, _, rfl, (h.2.2.2.1).1, (h.2.2.2.1).2⟩ (all_cons ⟨_, _, rfl, (h.2.2.2.2.1).1, (h.2.2.2.2.1).2⟩ (all_cons ⟨_, _, rfl, (h.2.2.2.2.2).1, (h.2.2.2.2.2).2⟩ all_nil))))))

theorem turn_C {w mean mg mb} {dp un : Nat} {gd : Option (List Code)} {f : Addr} {ccd : Value} {outer : List Env} {A₀ : Around} {base h₀ : Heap} {L : Addr} {m : Str → Option Value} {s : Shared} {Q : Flow → Shared → Prop} {E : Value → Shared → Prop}
    {T l : Addr} {rest : List (Addr × Obj)} {i a : Int} {t ti : Tok} {c c2 : Nat} {vs : List Value} {ns : List Int}
    (B : Below A₀ base outer h₀) (F : Fr h₀ L s.heap m) (X : (hd.heap_39 w.params).In h₀) (NW : News h₀ L s.heap ((T, tubO l a t c) :: (l, listOf vs.toArray c2) :: rest))
    (TT : Top hd.view_39 (looseW hd.view_39 []) mean mg mb h₀) (hd : dp + 64 < recursionLimit) (hu : un + 8 * 64 < cLine)
    (m1 : m (Str.ofString "tub") = some (.ref T)) (m2 : m (Str.ofString "turn") = some (.int i ti))
    (hI : IntsAre vs ns) (hlen : ns.length ≤ 100) (hlT : l ≠ T) (hrT : ∀ p ∈ rest, p.1 ≠ T)
    (hb : 0 ≤ i ∧ i ≤ 2 ∧ 0 ≤ a ∧ a ≤ 800)
    (hret : ∀ t' c', TurnEnd T l (tubO l (a + 1 + 1 + 1 + 1 + 1 + 1 + 1 + 1) t' c') (listOf vs.toArray c2) rest h₀ L s Q) :
    wpAny (model PG w) (lawA dp un gd L f ccd outer) (execs turn0 (lawEnv L f ccd)) Q E s := by
  k_with_none
  k_with "call ref" => (k_here; (with_reducible show wpAny _ _ (call (Value.ref 179) _) _ _ _); k_dflt (refine useU ?_); intro r9 t9 u9 c9 h9 tk9 hr9 hs9 F9 N9; (try dsimp only at N9); (try dsimp only); (try k_fold))
  k_with "subscriptTail" => (k_here; (with_reducible show wpAny _ _ (subscriptTail _ _ (Value.ref _) (Value.int _ _)) _ _ _); first | (k_dflt (refine tab_any (PS DT) ?_ (hP := DT_all)); intro v9 hv9; (obtain ⟨x9, t9, e9, hx9⟩ := hv9); subst e9) | (k_dflt (refine tab_any (PI (-2) 3) ?_ (hP := pi6 (by decide))); intro v9 hv9; (obtain ⟨x9, t9, e9, hx9, hy9⟩ := hv9); subst e9) | (k_dflt (refine tab_any (PI 20 4350) ?_ (hP := pi5 (by decide))); intro v9 hv9; (obtain ⟨x9, t9, e9, hx9, hy9⟩ := hv9); subst e9) | (k_dflt (refine tab_any (PI (-12) 30) ?_ (hP := pi5 (by decide))); intro v9 hv9; (obtain ⟨x9, t9, e9, hx9, hy9⟩ := hv9); subst e9))
  k_with "execs cons" => (k_here; (with_reducible show wpAny _ _ (execs (Stmt.Assign [Expr.Name (Str.ofString "is_minus") _] _ _ :: _) _) _ _ _); refine later_ ?_)
  unfold turn0 turnLit lawA lawEnv lawScope scopeLit PG
  dsimp only
  obtain ⟨hi1, hi2, ha1, ha2⟩ := hb
  have F1 := fr_eq F (ad (ad rfl m1) m2)
  clear F m1 m2
  (try k_fold)
  k_steps
  all_goals unfold Later
  · rename ((Txt.item _ _ == _) = true) => hw0
    have hw := eq_of_beq hw0
    k_dflt (refine' turn6_F ?Ba ?Fa ?Xa (cb_drop ?N0a ?hNa) ?TTa ?hda ?hua ?m1a ?m2a ?m3a ?m4a ?m5a ?m6a ?m7a ?hDa ?hIa ?hlena ?hlTa ?hrTa ?hba ?hreta; (case Fa => k_asm); (case N0a => k_asm); (case m1a => rfl); (case m2a => rfl); (case m3a => exact congrArg (fun x => some (Value.str x _)) hw); (case m4a => rfl); (case m5a => rfl); (case m6a => rfl); (case m7a => rfl); (case Ba => k_asm); (case Xa => k_asm); (case TTa => k_asm); (case hNa => exact List.forall_mem_cons.mpr ⟨by k_mem, List.forall_mem_cons.mpr ⟨by k_mem, fun q hq => List.Mem.tail _ (List.Mem.tail _ (List.Mem.tail _ (List.Mem.tail _ (List.Mem.tail _ (List.Mem.tail _ hq)))))⟩⟩); (case hda => assumption); (case hua => assumption); (case hDa => assumption); (case hIa => assumption); (case hlena => assumption); (case hlTa => assumption); (case hrTa => assumption); (case hba => exact ⟨Int.le_trans (by decide : (-16 : Int) ≤ -12) (by assumption), Int.le_trans (by assumption) (by decide : (30 : Int) ≤ 40), by assumption, Int.le_trans (by assumption) (by decide : (4350 : Int) ≤ 4400), by decide, by decide, hi1, hi2, by omega, by omega⟩))
    exact fun t' c' h' tk' m' e F N => hret _ _ h' tk' m' e F N
  · rename ((Txt.item _ _ == _) = true) => hw0
    have hw := eq_of_beq hw0
    k_dflt (refine' turn6_F ?Bb ?Fb ?Xb (cb_drop ?N0b ?hNb) ?TTb ?hdb ?hub ?m1b ?m2b ?m3b ?m4b ?m5b ?m6b ?m7b ?hDb ?hIb ?hlenb ?hlTb ?hrTb ?hbb ?hretb; (case Fb => k_asm); (case N0b => k_asm); (case m1b => rfl); (case m2b => rfl); (case m3b => exact congrArg (fun x => some (Value.str x _)) hw); (case m4b => rfl); (case m5b => rfl); (case m6b => rfl); (case m7b => rfl); (case Bb => k_asm); (case Xb => k_asm); (case TTb => k_asm); (case hNb => exact List.forall_mem_cons.mpr ⟨by k_mem, List.forall_mem_cons.mpr ⟨by k_mem, fun q hq => List.Mem.tail _ (List.Mem.tail _ (List.Mem.tail _ (List.Mem.tail _ (List.Mem.tail _ (List.Mem.tail _ hq)))))⟩⟩); (case hdb => assumption); (case hub => assumption); (case hDb => assumption); (case hIb => assumption); (case hlenb => assumption); (case hlTb => assumption); (case hrTb => assumption); (case hbb => exact ⟨Int.le_trans (by decide : (-16 : Int) ≤ -12) (by assumption), Int.le_trans (by assumption) (by decide : (30 : Int) ≤ 40), by assumption, Int.le_trans (by assumption) (by decide : (4350 : Int) ≤ 4400), by assumption, Int.le_trans (by assumption) (by decide : (3 : Int) ≤ 4000), hi1, hi2, by omega, by omega⟩))
    exact fun t' c' h' tk' m' e F N => hret _ _ h' tk' m' e F N
  · rename ((Txt.item _ _ == _) = false) => hw0
    rcases fed (by assumption) (by assumption) hw0 with hw | hw
    · k_dflt (refine' turn6_W t11_E (by decide) (by decide) ?Bc ?Fc ?Xc (cb_drop ?N0c ?hNc) ?TTc ?hdc ?huc ?m1c ?m2c ?m3c ?m4c ?m5c ?m6c ?m7c ?hDc ?hIc ?hlenc ?hlTc ?hrTc ?hbc ?hretc; (case Fc => k_asm); (case N0c => k_asm); (case m1c => rfl); (case m2c => rfl); (case m3c => exact congrArg (fun x => some (Value.str x _)) hw); (case m4c => rfl); (case m5c => rfl); (case m6c => rfl); (case m7c => rfl); (case Bc => k_asm); (case Xc => k_asm); (case TTc => k_asm); (case hNc => exact List.forall_mem_cons.mpr ⟨by k_mem, List.forall_mem_cons.mpr ⟨by k_mem, fun q hq => List.Mem.tail _ (List.Mem.tail _ (List.Mem.tail _ (List.Mem.tail _ (List.Mem.tail _ (List.Mem.tail _ hq)))))⟩⟩); (case hdc => assumption); (case huc => assumption); (case hDc => assumption); (case hIc => assumption); (case hlenc => assumption); (case hlTc => assumption); (case hrTc => assumption); (case hbc => exact ⟨Int.le_trans (by decide : (-16 : Int) ≤ -12) (by assumption), Int.le_trans (by assumption) (by decide : (30 : Int) ≤ 40), by assumption, Int.le_trans (by assumption) (by decide : (4350 : Int) ≤ 4400), by assumption, by assumption, hi1, hi2, by omega, by omega⟩))
      exact fun t' c' h' tk' m' e F N => hret _ _ h' tk' m' e F N
    · k_dflt (refine' turn6_W t11_D (by decide) (by decide) ?Bd ?Fd ?Xd (cb_drop ?N0d ?hNd) ?TTd ?hdd ?hud ?m1d ?m2d ?m3d ?m4d ?m5d ?m6d ?m7d ?hDd ?hId ?hlend ?hlTd ?hrTd ?hbd ?hretd; (case Fd => k_asm); (case N0d => k_asm); (case m1d => rfl); (case m2d => rfl); (case m3d => exact congrArg (fun x => some (Value.str x _)) hw); (case m4d => rfl); (case m5d => rfl); (case m6d => rfl); (case m7d => rfl); (case Bd => k_asm); (case Xd => k_asm); (case TTd => k_asm); (case hNd => exact List.forall_mem_cons.mpr ⟨by k_mem, List.forall_mem_cons.mpr ⟨by k_mem, fun q hq => List.Mem.tail _ (List.Mem.tail _ (List.Mem.tail _ (List.Mem.tail _ (List.Mem.tail _ (List.Mem.tail _ hq)))))⟩⟩); (case hdd => assumption); (case hud => assumption); (case hDd => assumption); (case hId => assumption); (case hlend => assumption); (case hlTd => assumption); (case hrTd => assumption); (case hbd => exact ⟨Int.le_trans (by decide : (-16 : Int) ≤ -12) (by assumption), Int.le_trans (by assumption) (by decide : (30 : Int) ≤ 40), by assumption, Int.le_trans (by assumption) (by decide : (4350 : Int) ≤ 4400), by assumption, by assumption, hi1, hi2, by omega, by omega⟩))
      exact fun t' c' h' tk' m' e F N => hret _ _ h' tk' m' e F N
theorem law_holds : PySem.Challenge.rw_pq0352_01.Holds := by
  k_with_none
  k_with "execs cons" => (k_here; (with_reducible show wpAny _ _ (execs (Stmt.Assign [Expr.Name (Str.ofString "word") _] _ _ :: _) _) _ _ _); refine later_ ?_)
  refine Mine.hd ?_
  k_go0
  (all_goals try k_fold)
  k_steps
  unfold Later
  k_dflt (refine' turn_C ?Bx ?Fx ?Xx (cb_drop ?N0x ?hNx) ?TTx ?hdx ?hux ?m1x ?m2x ?hIx ?hlenx ?hlTx ?hrTx ?hbx ?hretx; (case Fx => k_asm); (case N0x => k_asm); (case m1x => rfl); (case m2x => rfl); (case Bx => k_asm); (case Xx => k_asm); (case TTx => k_asm); (case hNx => exact List.forall_mem_cons.mpr ⟨by k_mem, List.forall_mem_cons.mpr ⟨by k_mem, List.forall_mem_cons.mpr ⟨List.Mem.head _, List.forall_mem_nil _⟩⟩⟩); (case hdx => ktr_room); (case hux => ktr_units); (case hIx => assumption); (case hlenx => omega); (case hlTx => exact neN (by omega)); (case hrTx => exact List.forall_mem_cons.mpr ⟨neN (by (try dsimp only); omega), List.forall_mem_nil _⟩); (case hbx => omega))
  intro tx cx hx tkx mx ex Fx Nx
  k_steps
  unfold Later
  k_dflt (refine' turn_C ?By ?Fy ?Xy (cb_drop ?N0y ?hNy) ?TTy ?hdy ?huy ?m1y ?m2y ?hIy ?hleny ?hlTy ?hrTy ?hby ?hrety; (case Fy => k_asm); (case N0y => k_asm); (case m1y => exact (if_neg (by decide)).trans ex); (case m2y => rfl); (case By => k_asm); (case Xy => k_asm); (case TTy => k_asm); (case hNy => exact List.forall_mem_cons.mpr ⟨by k_mem, List.forall_mem_cons.mpr ⟨by k_mem, List.forall_mem_cons.mpr ⟨List.Mem.head _, List.forall_mem_nil _⟩⟩⟩); (case hdy => ktr_room); (case huy => ktr_units); (case hIy => assumption); (case hleny => omega); (case hlTy => exact neN (by omega)); (case hrTy => exact List.forall_mem_cons.mpr ⟨neN (by (try dsimp only); omega), List.forall_mem_nil _⟩); (case hby => omega))
  intro ty cy hy tky my ey Fy Ny
  k_steps
  unfold Later
  k_dflt (refine' turn_C ?Bz ?Fz ?Xz (cb_drop ?N0z ?hNz) ?TTz ?hdz ?huz ?m1z ?m2z ?hIz ?hlenz ?hlTz ?hrTz ?hbz ?hretz; (case Fz => k_asm); (case N0z => k_asm); (case m1z => exact (if_neg (by decide)).trans ey); (case m2z => rfl); (case Bz => k_asm); (case Xz => k_asm); (case TTz => k_asm); (case hNz => exact List.forall_mem_cons.mpr ⟨by k_mem, List.forall_mem_cons.mpr ⟨by k_mem, List.forall_mem_cons.mpr ⟨List.Mem.head _, List.forall_mem_nil _⟩⟩⟩); (case hdz => ktr_room); (case huz => ktr_units); (case hIz => assumption); (case hlenz => omega); (case hlTz => exact neN (by omega)); (case hrTz => exact List.forall_mem_cons.mpr ⟨neN (by (try dsimp only); omega), List.forall_mem_nil _⟩); (case hbz => omega))
  intro tz cz hz tkz mz ez Fz Nz
  k_steps
end Mine
theorem PySem.Challenge.cw_pq0352_01_holds : PySem.Challenge.rw_pq0352_01.Holds := by
  exact Mine.law_holds
