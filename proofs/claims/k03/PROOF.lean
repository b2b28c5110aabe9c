import PyProof.Rows.All
import Wide.All
import OpenK.AllK
import Wide.FinOn
import HandS.ForMost
import HandS.Defaults
import PySem.Challenge.RW_stablepapers_k03_whole_statements_come_b
import HandS.RaiseMore
import HandS.More
import HandS.Replace
import HandS.ReplaceLit
import HandS.IsInst
import PyProof.ReprRoads
import HandS.Text
import HandS.ReplaceList
set_option Elab.async false
set_option linter.all false
set_option maxRecDepth 100000
set_option maxHeartbeats 4000000
/-! K1: trees of statements, their pieces, their texts, their tokens (no program here) -/
namespace Kt
open PySem

/-! ### texts by their codes -/
def cd (s : Str) : List Nat := s.cps.toList
def sS (l : List Nat) : Str := ⟨l.toArray⟩
theorem cd_sS (l : List Nat) : cd (sS l) = l := by simp [cd, sS]
theorem sS_cd (s : Str) : sS (cd s) = s := by cases s; simp [cd, sS]
theorem cd_app (a b : Str) : cd (a ++ b) = cd a ++ cd b := by
  show (a.cps ++ b.cps).toList = _
  simp [cd]
theorem sS_app (a b : List Nat) : sS a ++ sS b = sS (a ++ b) := by
  show (⟨a.toArray ++ b.toArray⟩ : Str) = _
  simp [sS]
theorem cd_inj {a b : Str} (h : cd a = cd b) : a = b := by rw [← sS_cd a, ← sS_cd b, h]
theorem len_cd (s : Str) : s.length = (cd s).length := by simp [cd, Str.length]
theorem len_sS (l : List Nat) : (sS l).length = l.length := by simp [sS, Str.length]
theorem len_app (a b : Str) : (a ++ b).length = a.length + b.length := by rw [len_cd, cd_app, List.length_append, ← len_cd, ← len_cd]

/-! ### pieces of a written form -/
inductive Pc where
  | sp
  | nl
  | tk (k w : Str)
abbrev Tk := Str × Str
def rend (g : List Nat) : List Pc → List Nat
  | [] => []
  | .sp :: r => g ++ rend g r
  | .nl :: r => 10 :: rend g r
  | .tk _ w :: r => cd w ++ rend g r
def toks : List Pc → List Tk
  | [] => []
  | .sp :: r => toks r
  | .nl :: r => toks r
  | .tk k w :: r => (k, w) :: toks r
theorem rend_app (g : List Nat) : ∀ a b : List Pc, rend g (a ++ b) = rend g a ++ rend g b
  | [], b => rfl
  | .sp :: r, b => by show g ++ rend g (r ++ b) = _; rw [rend_app g r b]; simp [rend]
  | .nl :: r, b => by show 10 :: rend g (r ++ b) = _; rw [rend_app g r b]; simp [rend]
  | .tk k w :: r, b => by show cd w ++ rend g (r ++ b) = _; rw [rend_app g r b]; simp [rend]
theorem toks_app : ∀ a b : List Pc, toks (a ++ b) = toks a ++ toks b
  | [], b => rfl
  | .sp :: r, b => toks_app r b
  | .nl :: r, b => toks_app r b
  | .tk k w :: r, b => by show (k, w) :: toks (r ++ b) = _; rw [toks_app r b]; rfl
def tx (p : List Pc) : Str := sS (rend [32] p)
theorem tx_app (a b : List Pc) : tx (a ++ b) = tx a ++ tx b := by unfold tx; rw [rend_app, sS_app]
theorem tx_sp : tx [.sp] = (" " : Str) := by decide +kernel
theorem tx_nl : tx [.nl] = ("\n" : Str) := by decide +kernel
theorem tx_nil : tx [] = ("" : Str) := by decide +kernel
theorem tx_tk (k w : Str) : tx [.tk k w] = w := by
  show sS (cd w ++ []) = w
  rw [List.append_nil, sS_cd]
theorem tx_cons (p : Pc) (r : List Pc) : tx (p :: r) = tx [p] ++ tx r := tx_app [p] r
theorem tx_len_app (a b : List Pc) : (tx (a ++ b)).length = (tx a).length + (tx b).length := by rw [tx_app, len_app]

abbrev sg (w : Str) : Pc := .tk "sign" w
/-- joined by sep -/
def jn (sep : List Pc) : List (List Pc) → List Pc
  | [] => []
  | [x] => x
  | x :: y :: r => x ++ (sep ++ jn sep (y :: r))
theorem str_app_assoc (a b c : Str) : a ++ b ++ c = a ++ (b ++ c) := cd_inj (by simp only [cd_app, List.append_assoc])
theorem str_nil_app (a : Str) : ("" : Str) ++ a = a := cd_inj (by
  rw [cd_app]
  have e : cd ("" : Str) = [] := by decide +kernel
  rw [e]; rfl)
theorem str_app_nil (a : Str) : a ++ ("" : Str) = a := cd_inj (by
  rw [cd_app]
  have e : cd ("" : Str) = [] := by decide +kernel
  rw [e, List.append_nil])
theorem tx_jn (sep : List Pc) : ∀ xs : List (List Pc), tx (jn sep xs) = Str.join (tx sep) (xs.map tx)
  | [] => by show tx [] = Str.empty; decide +kernel
  | [x] => rfl
  | x :: y :: r => by
    show tx (x ++ (sep ++ jn sep (y :: r))) = tx x ++ tx sep ++ Str.join (tx sep) ((y :: r).map tx)
    rw [tx_app, tx_app, tx_jn sep (y :: r), str_app_assoc]

/-! ### trees -/
inductive Tm where
  | int (n : Int)
  | sym (s : Str)
  | var (s : Str)
  | op (g : Str) (l r : Tm)
structure Am where
  nm : Str
  ts : List Tm
inductive Cd where
  | yes (a : Am)
  | no (a : Am)
  | cmp (g : Str) (l r : Tm)
structure Mb where
  t : Tm
  cs : List Cd
structure Ch where
  a : Am
  cs : List Cd
inductive Pt where
  | cd (c : Cd)
  | sum (g : Str) (ms : List Mb) (t : Tm)
inductive Sm where
  | rule (a : Am) (b : List Pt)
  | deny (b : List Pt)
  | choose (lo : Option Int) (cs : List Ch) (hi : Option Int) (b : List Pt)
  | range (lo hi : Int)
  | mini (ms : List Mb)

/-! ### the trees as Python's data -/
def Tm.enc : Tm → PyData
  | .int n => .tuple [.str "int", .int n]
  | .sym s => .tuple [.str "sym", .str s]
  | .var s => .tuple [.str "var", .str s]
  | .op g l r => .tuple [.str "op", .str g, l.enc, r.enc]
def Am.enc (a : Am) : PyData := .tuple [.str "atom", .str a.nm, .list (a.ts.map Tm.enc)]
def Cd.enc : Cd → PyData
  | .yes a => .tuple [.str "yes", a.enc]
  | .no a => .tuple [.str "no", a.enc]
  | .cmp g l r => .tuple [.str "compare", .str g, l.enc, r.enc]
def Mb.enc (m : Mb) : PyData := .tuple [.str "member", m.t.enc, .list (m.cs.map Cd.enc)]
def Ch.enc (c : Ch) : PyData := .tuple [.str "choice", c.a.enc, .list (c.cs.map Cd.enc)]
def Pt.enc : Pt → PyData
  | .cd c => c.enc
  | .sum g ms t => .tuple [.str "sum", .str g, .list (ms.map Mb.enc), t.enc]
def oI : Option Int → PyData
  | none => .none
  | some n => .int n
def Sm.enc : Sm → PyData
  | .rule a b => .tuple [.str "rule", a.enc, .list (b.map Pt.enc)]
  | .deny b => .tuple [.str "deny", .list (b.map Pt.enc)]
  | .choose lo cs hi b => .tuple [.str "choose", oI lo, .list (cs.map Ch.enc), oI hi, .list (b.map Pt.enc)]
  | .range lo hi => .tuple [.str "range", .int lo, .int hi]
  | .mini ms => .tuple [.str "minimize", .list (ms.map Mb.enc)]

/-! ### the trees' pieces -/
def dg (n : Int) : Str := toString n
def Tm.isOp : Tm → Bool
  | .op _ _ _ => true
  | _ => false
def Tm.isSum : Tm → Bool
  | .op g _ _ => !decide (g = "*")
  | _ => false
def par (x : List Pc) : List Pc := [sg "("] ++ x ++ [sg ")"]
def pT : Tm → List Pc
  | .int n => [.tk "int" (dg n)]
  | .sym s => [.tk "name" s]
  | .var s => [.tk "var" s]
  | .op g l r => (if decide (g = "*") && l.isSum then par (pT l) else pT l) ++ [.sp] ++ [sg g] ++ [.sp] ++ (if r.isOp then par (pT r) else pT r)
def pA (a : Am) : List Pc := if a.ts.length = 0 then [.tk "name" a.nm] else [.tk "name" a.nm] ++ [sg "("] ++ jn [sg ",", .sp] (a.ts.map pT) ++ [sg ")"]
def pC : Cd → List Pc
  | .yes a => pA a
  | .no a => [.tk "name" "not", .sp] ++ pA a
  | .cmp g l r => pT l ++ [.sp] ++ [sg g] ++ [.sp] ++ pT r
def pW (first : List Pc) (cs : List Cd) : List Pc := if cs.length = 0 then first else first ++ [.sp, sg ":", .sp] ++ jn [sg ",", .sp] (cs.map pC)
def pMs (ms : List Mb) : List Pc := [sg "{"] ++ jn [sg ";", .sp] (ms.map fun m => pW (pT m.t) m.cs) ++ [sg "}"]
def pCs (cs : List Ch) : List Pc := [sg "{"] ++ jn [sg ";", .sp] (cs.map fun c => pW (pA c.a) c.cs) ++ [sg "}"]
def pP : Pt → List Pc
  | .cd c => pC c
  | .sum g ms t => [.tk "name" "sum", .sp] ++ pMs ms ++ [.sp] ++ [sg g] ++ [.sp] ++ pT t
def pB (b : List Pt) : List Pc := jn [sg ",", .sp] (b.map pP)
def pLo : Option Int → List Pc
  | none => []
  | some n => [.tk "int" (dg n)] ++ [.sp]
def pHi : Option Int → List Pc
  | none => []
  | some n => [.sp] ++ [.tk "int" (dg n)]
def pH (lo : Option Int) (cs : List Ch) (hi : Option Int) : List Pc := pLo lo ++ pCs cs ++ pHi hi
def pHb (h : List Pc) (b : List Pt) : List Pc := if b.length = 0 then h ++ [sg "."] else h ++ [.sp, sg ":-", .sp] ++ pB b ++ [sg "."]
def pSm : Sm → List Pc
  | .rule a b => pHb (pA a) b
  | .deny b => [sg ":-", .sp] ++ pB b ++ [sg "."]
  | .choose lo cs hi b => pHb (pH lo cs hi) b
  | .range lo hi => [.tk "name" "range", .sp] ++ [.tk "int" (dg lo)] ++ [.sp] ++ [.tk "int" (dg hi)] ++ [sg "."]
  | .mini ms => [.tk "name" "minimize", .sp] ++ pMs ms ++ [sg "."]
def pAll : List Sm → List Pc
  | [] => []
  | s :: r => pSm s ++ [.nl] ++ pAll r

/-! ### what the law's own drawing makes -/
def nms : List Str := ["p", "q", "edge", "notes", "sum1", "a_B9", "colour_of_all_things"]
def vrs : List Str := ["X", "Y", "Long_Name9"]
def ops : List Str := ["+", "-", "*"]
def cms : List Str := ["=", "!=", "<", "<=", ">", ">="]
def i4 (n : Int) : Prop := 0 ≤ n ∧ n < 10000
def Tm.ok : Nat → Tm → Prop
  | _, .int n => i4 n
  | _, .sym s => s ∈ nms
  | _, .var s => s ∈ vrs
  | 0, .op _ _ _ => False
  | d + 1, .op g l r => g ∈ ops ∧ l.ok d ∧ r.ok d
def Am.ok (a : Am) : Prop := a.nm ∈ nms ∧ a.ts.length ≤ 2 ∧ ∀ t ∈ a.ts, Tm.ok 2 t
def Cd.ok : Cd → Prop
  | .yes a => a.ok
  | .no a => a.ok
  | .cmp g l r => g ∈ cms ∧ l.ok 2 ∧ r.ok 2
def csOk (n : Nat) (cs : List Cd) : Prop := cs.length ≤ n ∧ ∀ c ∈ cs, Cd.ok c
def Mb.ok (m : Mb) : Prop := m.t.ok 1 ∧ csOk 1 m.cs
def Ch.ok (c : Ch) : Prop := c.a.ok ∧ csOk 1 c.cs
def msOk (ms : List Mb) : Prop := 1 ≤ ms.length ∧ ms.length ≤ 2 ∧ ∀ m ∈ ms, Mb.ok m
def chOk (cs : List Ch) : Prop := 1 ≤ cs.length ∧ cs.length ≤ 2 ∧ ∀ c ∈ cs, Ch.ok c
def Pt.ok : Pt → Prop
  | .cd c => c.ok
  | .sum g ms t => (g = ">=" ∨ g = "<=") ∧ msOk ms ∧ t.ok 1
def bOk (n : Nat) (b : List Pt) : Prop := b.length ≤ n ∧ ∀ p ∈ b, Pt.ok p
def oOk : Option Int → Prop
  | none => True
  | some n => i4 n
def Sm.ok : Sm → Prop
  | .rule a b => a.ok ∧ bOk 3 b
  | .deny b => 1 ≤ b.length ∧ bOk 4 b
  | .choose lo cs hi b => oOk lo ∧ chOk cs ∧ oOk hi ∧ bOk 3 b
  | .range lo hi => i4 lo ∧ i4 hi
  | .mini ms => msOk ms
theorem Tm.ok_mono : ∀ {d e : Nat} {t : Tm}, d ≤ e → t.ok d → t.ok e
  | d, e, .int n, _, h => by cases d <;> cases e <;> exact h
  | d, e, .sym n, _, h => by cases d <;> cases e <;> exact h
  | d, e, .var n, _, h => by cases d <;> cases e <;> exact h
  | 0, _, .op _ _ _, _, h => h.elim
  | d + 1, 0, .op _ _ _, l, _ => absurd l (by omega)
  | d + 1, e + 1, .op _ _ _, l, h => ⟨h.1, Tm.ok_mono (Nat.le_of_succ_le_succ l) h.2.1, Tm.ok_mono (Nat.le_of_succ_le_succ l) h.2.2⟩
end Kt
/-! K2: the text by places; what the top has left -/
namespace Kt
open PySem L2
def top (i : Nat) : Stmt := PySem.Challenge.pw_stablepapers_k03_whole_statements_come_b.main.body.getD i (.Pass ⟨0, 0, 0, 0⟩)
abbrev s_word_end : Stmt := top 13
abbrev N_word_end : List Str := ["text", "at", "end"]
abbrev P_word_end : List Str := ["text", "at"]
theorem sc_word_end : FnScope N_word_end P_word_end (defScope s_word_end) := ⟨rfl, rfl, rfl, by decide +kernel, rfl, by decide +kernel, by decide +kernel⟩
abbrev s_integer_end : Stmt := top 14
abbrev N_integer_end : List Str := ["text", "at", "end"]
abbrev P_integer_end : List Str := ["text", "at"]
theorem sc_integer_end : FnScope N_integer_end P_integer_end (defScope s_integer_end) := ⟨rfl, rfl, rfl, by decide +kernel, rfl, by decide +kernel, by decide +kernel⟩
abbrev s_token : Stmt := top 15
abbrev N_token : List Str := ["text", "at", "char"]
abbrev P_token : List Str := ["text", "at"]
theorem sc_token : FnScope N_token P_token (defScope s_token) := ⟨rfl, rfl, rfl, by decide +kernel, rfl, by decide +kernel, by decide +kernel⟩
abbrev s_tokens : Stmt := top 16
abbrev N_tokens : List Str := ["text", "found", "at", "token"]
abbrev P_tokens : List Str := ["text"]
theorem sc_tokens : FnScope N_tokens P_tokens (defScope s_tokens) := ⟨rfl, rfl, rfl, by decide +kernel, rfl, by decide +kernel, by decide +kernel⟩
abbrev s_parser_init : Stmt := inClass (top 24) 0
abbrev N_parser_init : List Str := ["self", "found"]
abbrev P_parser_init : List Str := ["self", "found"]
theorem sc_parser_init : FnScope N_parser_init P_parser_init (defScope s_parser_init) := ⟨rfl, rfl, rfl, by decide +kernel, rfl, by decide +kernel, by decide +kernel⟩
abbrev s_m_peek : Stmt := inClass (top 24) 1
abbrev N_m_peek : List Str := ["self", "ahead", "k"]
abbrev P_m_peek : List Str := ["self", "ahead"]
theorem sc_m_peek : FnScope N_m_peek P_m_peek (defScope s_m_peek) := ⟨rfl, rfl, rfl, by decide +kernel, rfl, by decide +kernel, by decide +kernel⟩
abbrev s_m_kind : Stmt := inClass (top 24) 2
abbrev N_m_kind : List Str := ["self"]
abbrev P_m_kind : List Str := ["self"]
theorem sc_m_kind : FnScope N_m_kind P_m_kind (defScope s_m_kind) := ⟨rfl, rfl, rfl, by decide +kernel, rfl, by decide +kernel, by decide +kernel⟩
abbrev s_m_take : Stmt := inClass (top 24) 4
abbrev N_m_take : List Str := ["self", "sign"]
abbrev P_m_take : List Str := ["self", "sign"]
theorem sc_m_take : FnScope N_m_take P_m_take (defScope s_m_take) := ⟨rfl, rfl, rfl, by decide +kernel, rfl, by decide +kernel, by decide +kernel⟩
abbrev s_m_word : Stmt := inClass (top 24) 5
abbrev N_m_word : List Str := ["self", "kind"]
abbrev P_m_word : List Str := ["self", "kind"]
theorem sc_m_word : FnScope N_m_word P_m_word (defScope s_m_word) := ⟨rfl, rfl, rfl, by decide +kernel, rfl, by decide +kernel, by decide +kernel⟩
abbrev s_m_integer : Stmt := inClass (top 24) 6
abbrev N_m_integer : List Str := ["self"]
abbrev P_m_integer : List Str := ["self"]
theorem sc_m_integer : FnScope N_m_integer P_m_integer (defScope s_m_integer) := ⟨rfl, rfl, rfl, by decide +kernel, rfl, by decide +kernel, by decide +kernel⟩
abbrev s_m_is_sign : Stmt := inClass (top 24) 7
abbrev N_m_is_sign : List Str := ["self", "sign"]
abbrev P_m_is_sign : List Str := ["self", "sign"]
theorem sc_m_is_sign : FnScope N_m_is_sign P_m_is_sign (defScope s_m_is_sign) := ⟨rfl, rfl, rfl, by decide +kernel, rfl, by decide +kernel, by decide +kernel⟩
abbrev s_m_skip : Stmt := inClass (top 24) 8
abbrev N_m_skip : List Str := ["self", "sign"]
abbrev P_m_skip : List Str := ["self", "sign"]
theorem sc_m_skip : FnScope N_m_skip P_m_skip (defScope s_m_skip) := ⟨rfl, rfl, rfl, by decide +kernel, rfl, by decide +kernel, by decide +kernel⟩
abbrev s_m_factor : Stmt := inClass (top 24) 9
abbrev N_m_factor : List Str := ["self", "term"]
abbrev P_m_factor : List Str := ["self"]
theorem sc_m_factor : FnScope N_m_factor P_m_factor (defScope s_m_factor) := ⟨rfl, rfl, rfl, by decide +kernel, rfl, by decide +kernel, by decide +kernel⟩
abbrev s_m_product : Stmt := inClass (top 24) 10
abbrev N_m_product : List Str := ["self", "left"]
abbrev P_m_product : List Str := ["self"]
theorem sc_m_product : FnScope N_m_product P_m_product (defScope s_m_product) := ⟨rfl, rfl, rfl, by decide +kernel, rfl, by decide +kernel, by decide +kernel⟩
abbrev s_m_term : Stmt := inClass (top 24) 11
abbrev N_m_term : List Str := ["self", "left", "sign"]
abbrev P_m_term : List Str := ["self"]
theorem sc_m_term : FnScope N_m_term P_m_term (defScope s_m_term) := ⟨rfl, rfl, rfl, by decide +kernel, rfl, by decide +kernel, by decide +kernel⟩
abbrev s_m_atom : Stmt := inClass (top 24) 12
abbrev N_m_atom : List Str := ["self", "name", "terms"]
abbrev P_m_atom : List Str := ["self"]
theorem sc_m_atom : FnScope N_m_atom P_m_atom (defScope s_m_atom) := ⟨rfl, rfl, rfl, by decide +kernel, rfl, by decide +kernel, by decide +kernel⟩
abbrev s_m_starts_atom : Stmt := inClass (top 24) 13
abbrev N_m_starts_atom : List Str := ["self"]
abbrev P_m_starts_atom : List Str := ["self"]
theorem sc_m_starts_atom : FnScope N_m_starts_atom P_m_starts_atom (defScope s_m_starts_atom) := ⟨rfl, rfl, rfl, by decide +kernel, rfl, by decide +kernel, by decide +kernel⟩
abbrev s_m_condition : Stmt := inClass (top 24) 14
abbrev N_m_condition : List Str := ["self", "left", "sign"]
abbrev P_m_condition : List Str := ["self"]
theorem sc_m_condition : FnScope N_m_condition P_m_condition (defScope s_m_condition) := ⟨rfl, rfl, rfl, by decide +kernel, rfl, by decide +kernel, by decide +kernel⟩
abbrev s_m_conditions : Stmt := inClass (top 24) 15
abbrev N_m_conditions : List Str := ["self", "rows"]
abbrev P_m_conditions : List Str := ["self"]
theorem sc_m_conditions : FnScope N_m_conditions P_m_conditions (defScope s_m_conditions) := ⟨rfl, rfl, rfl, by decide +kernel, rfl, by decide +kernel, by decide +kernel⟩
abbrev s_m_members : Stmt := inClass (top 24) 16
abbrev N_m_members : List Str := ["self", "rows"]
abbrev P_m_members : List Str := ["self"]
theorem sc_m_members : FnScope N_m_members P_m_members (defScope s_m_members) := ⟨rfl, rfl, rfl, by decide +kernel, rfl, by decide +kernel, by decide +kernel⟩
abbrev s_m_member : Stmt := inClass (top 24) 17
abbrev N_m_member : List Str := ["self", "term"]
abbrev P_m_member : List Str := ["self"]
theorem sc_m_member : FnScope N_m_member P_m_member (defScope s_m_member) := ⟨rfl, rfl, rfl, by decide +kernel, rfl, by decide +kernel, by decide +kernel⟩
abbrev s_m_choices : Stmt := inClass (top 24) 18
abbrev N_m_choices : List Str := ["self", "rows"]
abbrev P_m_choices : List Str := ["self"]
theorem sc_m_choices : FnScope N_m_choices P_m_choices (defScope s_m_choices) := ⟨rfl, rfl, rfl, by decide +kernel, rfl, by decide +kernel, by decide +kernel⟩
abbrev s_m_choice : Stmt := inClass (top 24) 19
abbrev N_m_choice : List Str := ["self", "atom"]
abbrev P_m_choice : List Str := ["self"]
theorem sc_m_choice : FnScope N_m_choice P_m_choice (defScope s_m_choice) := ⟨rfl, rfl, rfl, by decide +kernel, rfl, by decide +kernel, by decide +kernel⟩
abbrev s_m_part : Stmt := inClass (top 24) 20
abbrev N_m_part : List Str := ["self", "members", "sign"]
abbrev P_m_part : List Str := ["self"]
theorem sc_m_part : FnScope N_m_part P_m_part (defScope s_m_part) := ⟨rfl, rfl, rfl, by decide +kernel, rfl, by decide +kernel, by decide +kernel⟩
abbrev s_m_body : Stmt := inClass (top 24) 21
abbrev N_m_body : List Str := ["self", "parts"]
abbrev P_m_body : List Str := ["self"]
theorem sc_m_body : FnScope N_m_body P_m_body (defScope s_m_body) := ⟨rfl, rfl, rfl, by decide +kernel, rfl, by decide +kernel, by decide +kernel⟩
abbrev s_m_optional_body : Stmt := inClass (top 24) 22
abbrev N_m_optional_body : List Str := ["self"]
abbrev P_m_optional_body : List Str := ["self"]
theorem sc_m_optional_body : FnScope N_m_optional_body P_m_optional_body (defScope s_m_optional_body) := ⟨rfl, rfl, rfl, by decide +kernel, rfl, by decide +kernel, by decide +kernel⟩
abbrev s_m_choose : Stmt := inClass (top 24) 23
abbrev N_m_choose : List Str := ["self", "low", "high", "rows"]
abbrev P_m_choose : List Str := ["self"]
theorem sc_m_choose : FnScope N_m_choose P_m_choose (defScope s_m_choose) := ⟨rfl, rfl, rfl, by decide +kernel, rfl, by decide +kernel, by decide +kernel⟩
abbrev s_m_statement : Stmt := inClass (top 24) 24
abbrev N_m_statement : List Str := ["self", "result", "low", "head"]
abbrev P_m_statement : List Str := ["self"]
theorem sc_m_statement : FnScope N_m_statement P_m_statement (defScope s_m_statement) := ⟨rfl, rfl, rfl, by decide +kernel, rfl, by decide +kernel, by decide +kernel⟩
abbrev s_too_deep : Stmt := top 25
abbrev N_too_deep : List Str := ["found", "deep", "token"]
abbrev P_too_deep : List Str := ["found"]
theorem sc_too_deep : FnScope N_too_deep P_too_deep (defScope s_too_deep) := ⟨rfl, rfl, rfl, by decide +kernel, rfl, by decide +kernel, by decide +kernel⟩
abbrev s_parse : Stmt := top 26
abbrev N_parse : List Str := ["text", "found", "parser", "statements", "words", "first", "token"]
abbrev P_parse : List Str := ["text"]
theorem sc_parse : FnScope N_parse P_parse (defScope s_parse) := ⟨rfl, rfl, rfl, by decide +kernel, rfl, by decide +kernel, by decide +kernel⟩
abbrev s_format_term : Stmt := top 28
abbrev N_format_term : List Str := ["term", "kind", "_", "sign", "left", "right", "first", "second"]
abbrev P_format_term : List Str := ["term"]
theorem sc_format_term : FnScope N_format_term P_format_term (defScope s_format_term) := ⟨rfl, rfl, rfl, by decide +kernel, rfl, by decide +kernel, by decide +kernel⟩
abbrev s_format_atom : Stmt := top 29
abbrev N_format_atom : List Str := ["atom", "_", "name", "terms", "term"]
abbrev P_format_atom : List Str := ["atom"]
theorem sc_format_atom : FnScope N_format_atom P_format_atom (defScope s_format_atom) := ⟨rfl, rfl, rfl, by decide +kernel, rfl, by decide +kernel, by decide +kernel⟩
abbrev s_format_condition : Stmt := top 30
abbrev N_format_condition : List Str := ["condition", "_", "sign", "left", "right"]
abbrev P_format_condition : List Str := ["condition"]
theorem sc_format_condition : FnScope N_format_condition P_format_condition (defScope s_format_condition) := ⟨rfl, rfl, rfl, by decide +kernel, rfl, by decide +kernel, by decide +kernel⟩
abbrev s_with_conditions : Stmt := top 31
abbrev N_with_conditions : List Str := ["first", "conditions", "condition"]
abbrev P_with_conditions : List Str := ["first", "conditions"]
theorem sc_with_conditions : FnScope N_with_conditions P_with_conditions (defScope s_with_conditions) := ⟨rfl, rfl, rfl, by decide +kernel, rfl, by decide +kernel, by decide +kernel⟩
abbrev s_format_members : Stmt := top 32
abbrev N_format_members : List Str := ["members", "rows", "member"]
abbrev P_format_members : List Str := ["members"]
theorem sc_format_members : FnScope N_format_members P_format_members (defScope s_format_members) := ⟨rfl, rfl, rfl, by decide +kernel, rfl, by decide +kernel, by decide +kernel⟩
abbrev s_format_part : Stmt := top 33
abbrev N_format_part : List Str := ["part", "_", "sign", "members", "term"]
abbrev P_format_part : List Str := ["part"]
theorem sc_format_part : FnScope N_format_part P_format_part (defScope s_format_part) := ⟨rfl, rfl, rfl, by decide +kernel, rfl, by decide +kernel, by decide +kernel⟩
abbrev s_body : Stmt := top 34
abbrev N_body : List Str := ["body", "part"]
abbrev P_body : List Str := ["body"]
theorem sc_body : FnScope N_body P_body (defScope s_body) := ⟨rfl, rfl, rfl, by decide +kernel, rfl, by decide +kernel, by decide +kernel⟩
abbrev s_head : Stmt := top 35
abbrev N_head : List Str := ["statement", "_", "low", "choices", "high", "rows", "text", "choice"]
abbrev P_head : List Str := ["statement"]
theorem sc_head : FnScope N_head P_head (defScope s_head) := ⟨rfl, rfl, rfl, by decide +kernel, rfl, by decide +kernel, by decide +kernel⟩
abbrev s_format_statement : Stmt := top 36
abbrev N_format_statement : List Str := ["statement", "kind", "head", "body"]
abbrev P_format_statement : List Str := ["statement"]
theorem sc_format_statement : FnScope N_format_statement P_format_statement (defScope s_format_statement) := ⟨rfl, rfl, rfl, by decide +kernel, rfl, by decide +kernel, by decide +kernel⟩
abbrev s_format_text : Stmt := top 37
abbrev N_format_text : List Str := ["statements", "statement"]
abbrev P_format_text : List Str := ["statements"]
theorem sc_format_text : FnScope N_format_text P_format_text (defScope s_format_text) := ⟨rfl, rfl, rfl, by decide +kernel, rfl, by decide +kernel, by decide +kernel⟩
abbrev s_law_state : Stmt := top 39
abbrev N_law_state : List Str := ["_law_script", "_law_seed", "_law_cell"]
abbrev P_law_state : List Str := ["_law_script"]
theorem sc_law_state : FnScope N_law_state P_law_state (defScope s_law_state) := ⟨rfl, rfl, rfl, by decide +kernel, rfl, by decide +kernel, by decide +kernel⟩
abbrev s_law_draw : Stmt := top 40
abbrev N_law_draw : List Str := ["_law_state_here", "_law_many", "_law_cells", "_law_k", "_law_amount", "_law_mixed"]
abbrev P_law_draw : List Str := ["_law_state_here", "_law_many"]
theorem sc_law_draw : FnScope N_law_draw P_law_draw (defScope s_law_draw) := ⟨rfl, rfl, rfl, by decide +kernel, rfl, by decide +kernel, by decide +kernel⟩
abbrev s_law_name : Stmt := top 41
abbrev N_law_name : List Str := ["_law_state_here"]
abbrev P_law_name : List Str := ["_law_state_here"]
theorem sc_law_name : FnScope N_law_name P_law_name (defScope s_law_name) := ⟨rfl, rfl, rfl, by decide +kernel, rfl, by decide +kernel, by decide +kernel⟩
abbrev s_law_term : Stmt := top 42
abbrev N_law_term : List Str := ["_law_state_here", "_law_deep", "_law_kind", "_law_left"]
abbrev P_law_term : List Str := ["_law_state_here", "_law_deep"]
theorem sc_law_term : FnScope N_law_term P_law_term (defScope s_law_term) := ⟨rfl, rfl, rfl, by decide +kernel, rfl, by decide +kernel, by decide +kernel⟩
abbrev s_law_atom : Stmt := top 43
abbrev N_law_atom : List Str := ["_law_state_here", "_law_k"]
abbrev P_law_atom : List Str := ["_law_state_here"]
theorem sc_law_atom : FnScope N_law_atom P_law_atom (defScope s_law_atom) := ⟨rfl, rfl, rfl, by decide +kernel, rfl, by decide +kernel, by decide +kernel⟩
abbrev s_law_condition : Stmt := top 44
abbrev N_law_condition : List Str := ["_law_state_here", "_law_kind", "_law_sign", "_law_left"]
abbrev P_law_condition : List Str := ["_law_state_here"]
theorem sc_law_condition : FnScope N_law_condition P_law_condition (defScope s_law_condition) := ⟨rfl, rfl, rfl, by decide +kernel, rfl, by decide +kernel, by decide +kernel⟩
abbrev s_law_conditions : Stmt := top 45
abbrev N_law_conditions : List Str := ["_law_state_here", "_law_many", "_law_k"]
abbrev P_law_conditions : List Str := ["_law_state_here", "_law_many"]
theorem sc_law_conditions : FnScope N_law_conditions P_law_conditions (defScope s_law_conditions) := ⟨rfl, rfl, rfl, by decide +kernel, rfl, by decide +kernel, by decide +kernel⟩
abbrev s_law_members : Stmt := top 46
abbrev N_law_members : List Str := ["_law_state_here", "_law_k"]
abbrev P_law_members : List Str := ["_law_state_here"]
theorem sc_law_members : FnScope N_law_members P_law_members (defScope s_law_members) := ⟨rfl, rfl, rfl, by decide +kernel, rfl, by decide +kernel, by decide +kernel⟩
abbrev s_law_body : Stmt := top 47
abbrev N_law_body : List Str := ["_law_state_here", "_law_body_here", "_law_part"]
abbrev P_law_body : List Str := ["_law_state_here"]
theorem sc_law_body : FnScope N_law_body P_law_body (defScope s_law_body) := ⟨rfl, rfl, rfl, by decide +kernel, rfl, by decide +kernel, by decide +kernel⟩
abbrev s_law_statement : Stmt := top 48
abbrev N_law_statement : List Str := ["_law_state_here", "_law_kind", "_law_rows", "_law_bounds", "_law_k"]
abbrev P_law_statement : List Str := ["_law_state_here"]
theorem sc_law_statement : FnScope N_law_statement P_law_statement (defScope s_law_statement) := ⟨rfl, rfl, rfl, by decide +kernel, rfl, by decide +kernel, by decide +kernel⟩
abbrev s_law_size : Stmt := top 49
abbrev N_law_size : List Str := ["_law_text", "_law_count", "_law_inside", "_law_char", "_law_word"]
abbrev P_law_size : List Str := ["_law_text"]
theorem sc_law_size : FnScope N_law_size P_law_size (defScope s_law_size) := ⟨rfl, rfl, rfl, by decide +kernel, rfl, by decide +kernel, by decide +kernel⟩
abbrev s_law : Stmt := top 50
abbrev N_law : List Str := ["_law_script", "_law_state_here", "_law_statements", "_law_one", "_law_kept", "_law_text", "_law_spread", "_law_told", "_law_term_here", "_law_shown", "_law_k"]
abbrev P_law : List Str := ["_law_script"]
theorem sc_law : FnScope N_law P_law (defScope s_law) := ⟨rfl, rfl, rfl, by decide +kernel, rfl, by decide +kernel, by decide +kernel⟩

structure Dfn (K : PySem.W.Frag) (mg : Str → Option Value) (x : Str) (st : Stmt) (ps : List Str) where
  f : Addr
  fd : FuncData
  F : Fun K x x st f fd
  b : Binds K fd ps []
  m : mg x = some (.ref f)
structure Mth (K : PySem.W.Frag) (C : Addr) (x qual : Str) (st : Stmt) (ps : List Str) where
  f : Addr
  fd : FuncData
  F : Fun K x qual st f fd
  b : Binds K fd ps []
  m : Meth K C x f
/-- a method with one default -/
structure MthD (K : PySem.W.Frag) (C : Addr) (x qual : Str) (st : Stmt) (ps : List Str) (dv : V) where
  f : Addr
  fd : FuncData
  F : FunD K x qual (defArgs st) (defBody st) (defScope st) [dv] [] f fd
  e0 : List Value
  v0 : Vals [dv] e0
  b0 : Binds K fd ps e0
  e1 : List Value
  v1 : Vals [] e1
  b1 : Binds K fd ps e1
  m : Meth K C x f
structure Txt (K : PySem.W.Frag) (mg : Str → Option Value) where
  C : Addr
  cl : Cls K C
  mgC : mg "Parser" = some (.ref C)
  nFound : NoAttr K C "found"
  nAt : NoAttr K C "at"
  nMost : NoAttr K C "most_terms"
  tLOWER : Tok
  gLOWER : mg "LOWER" = some (.str "abcdefghijklmnopqrstuvwxyz" tLOWER)
  tUPPER : Tok
  gUPPER : mg "UPPER" = some (.str "ABCDEFGHIJKLMNOPQRSTUVWXYZ" tUPPER)
  tDIGITS : Tok
  gDIGITS : mg "DIGITS" = some (.str "0123456789" tDIGITS)
  aPAIRS : Addr
  gPAIRS : mg "PAIRS" = some (.ref aPAIRS)
  qPAIRS : ∀ H, SqT K H aPAIRS [.str ":-", .str "!=", .str "<=", .str ">="]
  tSINGLES : Tok
  gSINGLES : mg "SINGLES" = some (.str "=<>(){},;:.+-*" tSINGLES)
  tSPACES : Tok
  gSPACES : mg "SPACES" = some (.str " \n" tSPACES)
  tLONGEST_WORD : Tok
  gLONGEST_WORD : mg "LONGEST_WORD" = some (.int 20 tLONGEST_WORD)
  tLONGEST_INTEGER : Tok
  gLONGEST_INTEGER : mg "LONGEST_INTEGER" = some (.int 4 tLONGEST_INTEGER)
  tLONGEST_TEXT : Tok
  gLONGEST_TEXT : mg "LONGEST_TEXT" = some (.int 4000 tLONGEST_TEXT)
  aKEYWORDS : Addr
  gKEYWORDS : mg "KEYWORDS" = some (.ref aKEYWORDS)
  qKEYWORDS : ∀ H, SqT K H aKEYWORDS [.str "not", .str "sum", .str "minimize", .str "range"]
  aCOMPARISONS : Addr
  gCOMPARISONS : mg "COMPARISONS" = some (.ref aCOMPARISONS)
  qCOMPARISONS : ∀ H, SqT K H aCOMPARISONS [.str "=", .str "!=", .str "<", .str "<=", .str ">", .str ">="]
  tDEEPEST : Tok
  gDEEPEST : mg "DEEPEST" = some (.int 10 tDEEPEST)
  tMOST_STATEMENTS : Tok
  gMOST_STATEMENTS : mg "MOST_STATEMENTS" = some (.int 60 tMOST_STATEMENTS)
  tMOST_TERMS : Tok
  gMOST_TERMS : mg "MOST_TERMS" = some (.int 4 tMOST_TERMS)
  tMOST_WORDS : Tok
  gMOST_WORDS : mg "MOST_WORDS" = some (.int 60 tMOST_WORDS)
  zlen : mg "len" = none
  zmin : mg "min" = none
  zmax : mg "max" = none
  zint : mg "int" = none
  zstr : mg "str" = none
  zabs : mg "abs" = none
  zrange : mg "range" = none
  zrepr : mg "repr" = none
  zisinstance : mg "isinstance" = none
  zlist : mg "list" = none
  word_end : Dfn K mg "_word_end" s_word_end P_word_end
  integer_end : Dfn K mg "_integer_end" s_integer_end P_integer_end
  token : Dfn K mg "_token" s_token P_token
  tokens : Dfn K mg "tokens" s_tokens P_tokens
  parser_init : Mth K C "__init__" "Parser.__init__" s_parser_init P_parser_init
  m_kind : Mth K C "kind" "Parser.kind" s_m_kind P_m_kind
  m_take : Mth K C "take" "Parser.take" s_m_take P_m_take
  m_word : Mth K C "word" "Parser.word" s_m_word P_m_word
  m_integer : Mth K C "integer" "Parser.integer" s_m_integer P_m_integer
  m_is_sign : Mth K C "is_sign" "Parser.is_sign" s_m_is_sign P_m_is_sign
  m_skip : Mth K C "skip" "Parser.skip" s_m_skip P_m_skip
  m_factor : Mth K C "factor" "Parser.factor" s_m_factor P_m_factor
  m_product : Mth K C "product" "Parser.product" s_m_product P_m_product
  m_term : Mth K C "term" "Parser.term" s_m_term P_m_term
  m_atom : Mth K C "atom" "Parser.atom" s_m_atom P_m_atom
  m_starts_atom : Mth K C "starts_atom" "Parser.starts_atom" s_m_starts_atom P_m_starts_atom
  m_condition : Mth K C "condition" "Parser.condition" s_m_condition P_m_condition
  m_conditions : Mth K C "conditions" "Parser.conditions" s_m_conditions P_m_conditions
  m_members : Mth K C "members" "Parser.members" s_m_members P_m_members
  m_member : Mth K C "member" "Parser.member" s_m_member P_m_member
  m_choices : Mth K C "choices" "Parser.choices" s_m_choices P_m_choices
  m_choice : Mth K C "choice" "Parser.choice" s_m_choice P_m_choice
  m_part : Mth K C "part" "Parser.part" s_m_part P_m_part
  m_body : Mth K C "body" "Parser.body" s_m_body P_m_body
  m_optional_body : Mth K C "optional_body" "Parser.optional_body" s_m_optional_body P_m_optional_body
  m_choose : Mth K C "choose" "Parser.choose" s_m_choose P_m_choose
  m_statement : Mth K C "statement" "Parser.statement" s_m_statement P_m_statement
  too_deep : Dfn K mg "_too_deep" s_too_deep P_too_deep
  parse : Dfn K mg "parse" s_parse P_parse
  format_term : Dfn K mg "format_term" s_format_term P_format_term
  format_atom : Dfn K mg "format_atom" s_format_atom P_format_atom
  format_condition : Dfn K mg "format_condition" s_format_condition P_format_condition
  with_conditions : Dfn K mg "_with_conditions" s_with_conditions P_with_conditions
  format_members : Dfn K mg "format_members" s_format_members P_format_members
  format_part : Dfn K mg "format_part" s_format_part P_format_part
  body : Dfn K mg "_body" s_body P_body
  head : Dfn K mg "_head" s_head P_head
  format_statement : Dfn K mg "format_statement" s_format_statement P_format_statement
  format_text : Dfn K mg "format_text" s_format_text P_format_text
  law_state : Dfn K mg "_law_state" s_law_state P_law_state
  law_draw : Dfn K mg "_law_draw" s_law_draw P_law_draw
  law_name : Dfn K mg "_law_name" s_law_name P_law_name
  law_term : Dfn K mg "_law_term" s_law_term P_law_term
  law_atom : Dfn K mg "_law_atom" s_law_atom P_law_atom
  law_condition : Dfn K mg "_law_condition" s_law_condition P_law_condition
  law_conditions : Dfn K mg "_law_conditions" s_law_conditions P_law_conditions
  law_members : Dfn K mg "_law_members" s_law_members P_law_members
  law_body : Dfn K mg "_law_body" s_law_body P_law_body
  law_statement : Dfn K mg "_law_statement" s_law_statement P_law_statement
  law_size : Dfn K mg "_law_size" s_law_size P_law_size
  law : Dfn K mg "law" s_law P_law
  m_peek : MthD K C "peek" "Parser.peek" s_m_peek P_m_peek (.int 0)
  mkP : Mk K C parser_init.f

section
variable {K : PySem.W.Frag} {h : Heap} {mg : Str → Option Value}
theorem dfn_c (X : K.In h) (G : h.Ns mainGlobals mg) {R : Prop} {x : Str} {st : Stmt} {ps : List Str} {f : Addr} {oc : Value} {od an : Option Addr} {osl : Array (Option Value)} {kV doc pm cdv ct : Value}
    (hb : ∀ (kV doc pm : Value) (an : Option Addr) (cdv ct : Value) (us : List Value), us.length = ps.length → bindArgs (PySem.W.fnOf x x (defArgs st) (defBody st) (defScope st) .none kV doc pm an cdv ct) ⟨us, []⟩ = pure (ps.zip us))
    (a : PySem.W.nsIn K mainGlobals x = some (some (.ref f))) (l : K.lookup f = some ⟨oc, od, .func (PySem.W.fnOf x x (defArgs st) (defBody st) (defScope st) .none kV doc pm an cdv ct), osl⟩)
    (c : PySem.W.codeIn K cdv x = true) (k : PySem.W.keepIn K (.ref f) = true) (r : Dfn K mg x st ps → R) : R :=
  r ⟨f, _, fun_mk l c k, (fun_mk l c k).binds hb, PySem.W.mg_of X G a⟩
theorem mth_c (X : K.In h) {C : Addr} (_ : mg "Parser" = some (.ref C)) {R : Prop} {x qual : Str} {st : Stmt} {ps : List Str} {f : Addr} {oc : Value} {od an : Option Addr} {osl : Array (Option Value)} {kV doc pm cdv ct : Value}
    (hb : ∀ (kV doc pm : Value) (an : Option Addr) (cdv ct : Value) (us : List Value), us.length = ps.length → bindArgs (PySem.W.fnOf x qual (defArgs st) (defBody st) (defScope st) .none kV doc pm an cdv ct) ⟨us, []⟩ = pure (ps.zip us))
    (a : PySem.W.findIn K (.ref C) x = some (some (.ref f))) (i : PySem.W.isFn K (.ref f) = true) (l : K.lookup f = some ⟨oc, od, .func (PySem.W.fnOf x qual (defArgs st) (defBody st) (defScope st) .none kV doc pm an cdv ct), osl⟩)
    (c : PySem.W.codeIn K cdv qual = true) (k : PySem.W.keepIn K (.ref f) = true) (r : ∀ D : Mth K C x qual st ps, D.f = f → R) : R :=
  r ⟨f, _, fun_mk l c k, (fun_mk l c k).binds hb, ⟨a, i, k⟩⟩ rfl
theorem peek_c (X : K.In h) {C : Addr} (_ : mg "Parser" = some (.ref C)) {R : Prop} {f : Addr} {oc : Value} {od an : Option Addr} {osl : Array (Option Value)} {kV doc pm cdv ct : Value} {D0 : Addr} {oc0 : Value} {od0 : Option Addr} {t0 : Tok} {n0 : Nat} {sl0 : Array (Option Value)}
    (a : PySem.W.findIn K (.ref C) "peek" = some (some (.ref f))) (i : PySem.W.isFn K (.ref f) = true) (l : K.lookup f = some ⟨oc, od, .func (PySem.W.fnOf "peek" "Parser.peek" (defArgs s_m_peek) (defBody s_m_peek) (defScope s_m_peek) (.ref D0) kV doc pm an cdv ct), osl⟩)
    (c : PySem.W.codeIn K cdv "Parser.peek" = true) (k : PySem.W.keepIn K (.ref f) = true) (d : K.lookup D0 = some ⟨oc0, od0, .seq #[.int 0 t0] n0, sl0⟩) (r : MthD K C "peek" "Parser.peek" s_m_peek P_m_peek (.int 0) → R) : R := by
  have F : FunD K "peek" "Parser.peek" (defArgs s_m_peek) (defBody s_m_peek) (defScope s_m_peek) [.int 0] [] f _ := ⟨⟨oc, od, .ref D0, kV, doc, pm, an, cdv, ct, osl, rfl, l, c, .inr ⟨by simp, D0, _, [.int 0 t0], n0, rfl, d, rfl, .cons ⟨t0, rfl⟩ .nil⟩, .inl rfl⟩, k⟩
  obtain ⟨e0, v0, b0⟩ := F.binds1 (ps := P_m_peek) 1 0 (by simp) rfl fun T kV doc pm an cdv ct us its h1 h2 => match us, its, h1, h2 with
    | [u], [i], _, _ => ⟨_, rfl, rfl⟩
  obtain ⟨e1, v1, b1⟩ := F.binds1 (ps := P_m_peek) 2 1 (by simp) rfl fun T kV doc pm an cdv ct us its h1 h2 => match us, its, h1, h2 with
    | [u, v], [i], _, _ => ⟨_, rfl, rfl⟩
  exact r ⟨f, _, F, e0, v0, b0, e1, v1, b1, ⟨a, i, k⟩⟩
theorem str_c (X : K.In h) (G : h.Ns mainGlobals mg) {R : Prop} {x : Str} {v : Value} (a : PySem.W.nsIn K mainGlobals x = some (some v)) (r : mg x = some v → R) : R := r (PySem.W.mg_of X G a)
theorem non_c (X : K.In h) (G : h.Ns mainGlobals mg) {R : Prop} {x : Str} (a : PySem.W.nsIn K mainGlobals x = some none) (r : mg x = none → R) : R := r (PySem.W.mg_none_of X G a)
theorem tup_c (X : K.In h) (G : h.Ns mainGlobals mg) {R : Prop} {x : Str} {f : Addr} {od : Option Addr} {its : Array Value} {n : Nat} {sl : Array (Option Value)} {xs : List V} (a : PySem.W.nsIn K mainGlobals x = some (some (.ref f))) (l : K.lookup f = some ⟨.type "tuple", od, .seq its n, sl⟩)
    (z : its.size ≤ sizeLine) (v : Vals xs its.toList) (r : mg x = some (.ref f) → (∀ H, SqT K H f xs) → R) : R := r (PySem.W.mg_of X G a) fun _ => .inr ⟨_, its, n, l, rfl, rfl, z, v⟩
theorem cls_c (X : K.In h) (G : h.Ns mainGlobals mg) {R : Prop} {C : Addr} (a : PySem.W.nsIn K mainGlobals "Parser" = some (some (.ref C))) (pg : PySem.W.plainGet K C Str.empty = true) (hd : PySem.W.hasDictIn K C = true) (po : PySem.W.plainOver K C = true)
    (sa : PySem.W.findIn K (.ref C) "__setattr__" = some (some (.builtin "object.__setattr__"))) (n1 : PySem.W.findIn K (.ref C) "found" = some none) (n2 : PySem.W.findIn K (.ref C) "at" = some none) (n3 : PySem.W.findIn K (.ref C) "most_terms" = some none)
    (r : mg "Parser" = some (.ref C) → Cls K C → NoAttr K C "found" → NoAttr K C "at" → NoAttr K C "most_terms" → R) : R := r (PySem.W.mg_of X G a) ⟨pg, hd, po, sa⟩ n1 n2 n3
theorem mk_c (X : K.In h) {R : Prop} {C fI : Addr} (_ : mg "Parser" = some (.ref C)) (mk : PySem.W.makesIn K C = true) (a : PySem.W.findIn K (.ref C) "__init__" = some (some (.ref fI))) (i : PySem.W.isFn K (.ref fI) = true) (kc : PySem.W.keepIn K (.ref C) = true) (r : Mk K C fI → R) : R := r ⟨mk, a, i, kc⟩
end
end Kt
/-! K3: what is kept of a heap; data in a heap; the parser's object -/
namespace Kt
open PySem L2

/-! ### what is kept -/
abbrev dom (H : Hp) : Addr → Prop := fun a => H a ≠ none
/-- all that stood stands, but what M names -/
structure Kp (M : Addr → Prop) (H H' : Hp) : Prop where
  oth : ∀ b o, H b = some o → ¬ M b → H' b = some o
  dm : ∀ b, H b ≠ none → H' b ≠ none
abbrev M0 : Addr → Prop := fun _ => False
section
variable {M M' : Addr → Prop} {H H' H1 H2 : Hp} {p b : Addr} {o : HO}
theorem Kp.refl : Kp M H H := ⟨fun _ _ e _ => e, fun _ e => e⟩
theorem Kp.trans (a : Kp M H H1) (c : Kp M H1 H2) : Kp M H H2 := ⟨fun b o e n => c.oth b o (a.oth b o e n) n, fun b e => c.dm b (a.dm b e)⟩
theorem Kp.same (k : Kp M0 H H') : Same H H' := fun b o e => k.oth b o e fun z => z
theorem Kp.of_same (s : Same H H') : Kp M H H' := ⟨fun b o e _ => s b o e, fun b e z => by
  cases q : H b with
  | none => exact e q
  | some o => rw [s b o q] at z; cases z⟩
theorem Kp.mono (k : Kp M H H') (h : ∀ b, M b → M' b) : Kp M' H H' := ⟨fun b o e n => k.oth b o e fun z => n (h b z), k.dm⟩
theorem Kp.free (k : Kp M H H') (h : H' p = none) : H p = none := by
  cases q : H p with
  | none => rfl
  | some o => exact absurd h (k.dm p (by rw [q]; simp))
theorem upd_dm (e : H b ≠ none) : (upd H p o) b ≠ none := by
  by_cases h : b = p
  · subst h; rw [upd_same]; simp
  · rw [upd_ne h]; exact e
theorem Kp.loc (k : Kp M H H') (h : H p = none) : Kp M H (upd H' p o) :=
  ⟨fun b u e n => by rw [upd_ne (ne_of_none e h)]; exact k.oth b u e n, fun b e => upd_dm (k.dm b e)⟩
theorem Kp.new (k : Kp M H H') (h : H' p = none) : Kp M H (upd H' p o) := k.loc (k.free h)
theorem Kp.mut (k : Kp M H H') (h : M p) : Kp M H (upd H' p o) :=
  ⟨fun b u e n => by rw [upd_ne (fun z => n (by rw [z]; exact h))]; exact k.oth b u e n, fun b e => upd_dm (k.dm b e)⟩
theorem some_ne {x : Option HO} (h : x = some o) : x ≠ none := by rw [h]; simp
theorem ne_fresh (h : H b ≠ none) (h' : H p = none) : b ≠ p := fun z => h (z ▸ h')
end

/-! ### data in a heap; its objects are none of B's -/
inductive Rp (B : Addr → Prop) (H : Hp) : V → PyData → Prop
  | non : Rp B H .non .none
  | int (i : Int) : Rp B H (.int i) (.int i)
  | str (s : Str) : Rp B H (.str s) (.str s)
  | lst {a : Addr} {xs : List V} {ds : List PyData} : H a = some (.lst xs) → ¬ B a → xs.length = ds.length → (∀ (i : Nat) (x : V) (d : PyData), xs[i]? = some x → ds[i]? = some d → Rp B H x d) → Rp B H (.ref a) (.list ds)
  | tup {a : Addr} {xs : List V} {ds : List PyData} : H a = some (.tup xs) → ¬ B a → xs.length = ds.length → (∀ (i : Nat) (x : V) (d : PyData), xs[i]? = some x → ds[i]? = some d → Rp B H x d) → Rp B H (.ref a) (.tuple ds)
def RpL (B : Addr → Prop) (H : Hp) (xs : List V) (ds : List PyData) : Prop := xs.length = ds.length ∧ ∀ (i : Nat) (x : V) (d : PyData), xs[i]? = some x → ds[i]? = some d → Rp B H x d
section
variable {B B' M : Addr → Prop} {H H' H0 : Hp} {a p : Addr} {v x : V} {d : PyData} {xs : List V} {ds : List PyData}
theorem Rp.keep (h : Rp B H v d) (k : ∀ b o, H b = some o → ¬ B b → H' b = some o) : Rp B H' v d := by
  induction h with
  | non => exact .non
  | int i => exact .int i
  | str s => exact .str s
  | lst e n l _ ih => exact .lst (k _ _ e n) n l ih
  | tup e n l _ ih => exact .tup (k _ _ e n) n l ih
theorem Rp.weak (h : Rp B H v d) (k : ∀ b, B' b → B b) : Rp B' H v d := by
  induction h with
  | non => exact .non
  | int i => exact .int i
  | str s => exact .str s
  | lst e n l _ ih => exact .lst e (fun z => n (k _ z)) l ih
  | tup e n l _ ih => exact .tup e (fun z => n (k _ z)) l ih
theorem Rp.kp (h : Rp B H v d) (k : Kp M H H') (s : ∀ b, M b → B b) : Rp B H' v d := h.keep fun b o e n => k.oth b o e fun z => n (s b z)
theorem Rp.same (h : Rp B H v d) (s : Same H H') : Rp B H' v d := h.keep fun b o e _ => s b o e
theorem Rp.upd {o : HO} (h : Rp B H v d) (n : B p ∨ H p = none) : Rp B (upd H p o) v d := h.keep fun b u e nb => by
  rcases n with n | n
  · rw [upd_ne (fun z => nb (by rw [z]; exact n))]; exact e
  · rw [upd_ne (ne_of_none e n)]; exact e
theorem RpL.keep (h : RpL B H xs ds) (k : ∀ b o, H b = some o → ¬ B b → H' b = some o) : RpL B H' xs ds := ⟨h.1, fun i x d e1 e2 => (h.2 i x d e1 e2).keep k⟩
theorem RpL.weak (h : RpL B H xs ds) (k : ∀ b, B' b → B b) : RpL B' H xs ds := ⟨h.1, fun i x d e1 e2 => (h.2 i x d e1 e2).weak k⟩
theorem RpL.kp (h : RpL B H xs ds) (k : Kp M H H') (s : ∀ b, M b → B b) : RpL B H' xs ds := ⟨h.1, fun i x d e1 e2 => (h.2 i x d e1 e2).kp k s⟩
theorem RpL.same (h : RpL B H xs ds) (s : Same H H') : RpL B H' xs ds := ⟨h.1, fun i x d e1 e2 => (h.2 i x d e1 e2).same s⟩
theorem RpL.upd {o : HO} (h : RpL B H xs ds) (n : B p ∨ H p = none) : RpL B (upd H p o) xs ds := ⟨h.1, fun i x d e1 e2 => (h.2 i x d e1 e2).upd n⟩
theorem RpL.nil : RpL B H [] [] := ⟨rfl, fun i x d e _ => by simp at e⟩
theorem RpL.cons (h : Rp B H x d) (t : RpL B H xs ds) : RpL B H (x :: xs) (d :: ds) := ⟨by simp [t.1], fun i y e e1 e2 => by
  cases i with
  | zero => simp at e1 e2; subst e1; subst e2; exact h
  | succ i => exact t.2 i y e (by simpa using e1) (by simpa using e2)⟩
theorem RpL.snoc (t : RpL B H xs ds) (h : Rp B H x d) : RpL B H (xs ++ [x]) (ds ++ [d]) := ⟨by simp [t.1], fun i y e e1 e2 => by
  by_cases hi : i < xs.length
  · rw [List.getElem?_append_left hi] at e1
    rw [List.getElem?_append_left (by rw [← t.1]; exact hi)] at e2
    exact t.2 i y e e1 e2
  · rw [List.getElem?_append_right (by omega)] at e1
    rw [List.getElem?_append_right (by rw [← t.1]; omega), ← t.1] at e2
    cases hj : i - xs.length with
    | zero => rw [hj] at e1 e2; simp at e1 e2; subst e1; subst e2; exact h
    | succ j => rw [hj] at e1; simp at e1⟩
theorem RpL.uncons (h : RpL B H xs (d :: ds)) : ∃ y ys, xs = y :: ys ∧ Rp B H y d ∧ RpL B H ys ds := by
  obtain ⟨l, q⟩ := h
  cases xs with
  | nil => simp at l
  | cons y ys => exact ⟨y, ys, rfl, q 0 y d rfl rfl, by simpa using l, fun i x e e1 e2 => q (i + 1) x e (by simpa using e1) (by simpa using e2)⟩
theorem RpL.unnil (h : RpL B H xs []) : xs = [] := List.eq_nil_of_length_eq_zero h.1
theorem RpL.at (h : RpL B H xs ds) {i : Nat} (e : ds[i]? = some d) : ∃ y, xs[i]? = some y ∧ Rp B H y d := by
  have hi : i < xs.length := by rw [h.1]; exact (List.getElem?_eq_some_iff.mp e).1
  exact ⟨xs[i], List.getElem?_eq_getElem hi, h.2 i _ d (List.getElem?_eq_getElem hi) e⟩
theorem Rp.of_tup (h : Rp B H v (.tuple ds)) : ∃ a xs, v = .ref a ∧ H a = some (.tup xs) ∧ ¬ B a ∧ RpL B H xs ds := by
  cases h with
  | tup e n l q => exact ⟨_, _, rfl, e, n, l, q⟩
theorem Rp.of_lst (h : Rp B H v (.list ds)) : ∃ a xs, v = .ref a ∧ H a = some (.lst xs) ∧ ¬ B a ∧ RpL B H xs ds := by
  cases h with
  | lst e n l q => exact ⟨_, _, rfl, e, n, l, q⟩
theorem Rp.of_str {s : Str} (h : Rp B H v (.str s)) : v = .str s := by cases h; rfl
theorem Rp.of_int {i : Int} (h : Rp B H v (.int i)) : v = .int i := by cases h; rfl
theorem Rp.of_non (h : Rp B H v .none) : v = .non := by cases h; rfl
theorem Rp.tup2 {d0 d1 : PyData} (h : Rp B H v (.tuple [d0, d1])) : ∃ a x0 x1, v = .ref a ∧ H a = some (.tup [x0, x1]) ∧ Rp B H x0 d0 ∧ Rp B H x1 d1 := by
  obtain ⟨a, xs, e, ha, _, q⟩ := h.of_tup
  obtain ⟨x0, r0, rfl, q0, q⟩ := q.uncons
  obtain ⟨x1, r1, rfl, q1, q⟩ := q.uncons
  obtain rfl := q.unnil
  exact ⟨a, x0, x1, e, ha, q0, q1⟩
theorem Rp.tup3 {d0 d1 d2 : PyData} (h : Rp B H v (.tuple [d0, d1, d2])) : ∃ a x0 x1 x2, v = .ref a ∧ H a = some (.tup [x0, x1, x2]) ∧ Rp B H x0 d0 ∧ Rp B H x1 d1 ∧ Rp B H x2 d2 := by
  obtain ⟨a, xs, e, ha, _, q⟩ := h.of_tup
  obtain ⟨x0, r0, rfl, q0, q⟩ := q.uncons
  obtain ⟨x1, r1, rfl, q1, q⟩ := q.uncons
  obtain ⟨x2, r2, rfl, q2, q⟩ := q.uncons
  obtain rfl := q.unnil
  exact ⟨a, x0, x1, x2, e, ha, q0, q1, q2⟩
theorem Rp.tup4 {d0 d1 d2 d3 : PyData} (h : Rp B H v (.tuple [d0, d1, d2, d3])) : ∃ a x0 x1 x2 x3, v = .ref a ∧ H a = some (.tup [x0, x1, x2, x3]) ∧ Rp B H x0 d0 ∧ Rp B H x1 d1 ∧ Rp B H x2 d2 ∧ Rp B H x3 d3 := by
  obtain ⟨a, xs, e, ha, _, q⟩ := h.of_tup
  obtain ⟨x0, r0, rfl, q0, q⟩ := q.uncons
  obtain ⟨x1, r1, rfl, q1, q⟩ := q.uncons
  obtain ⟨x2, r2, rfl, q2, q⟩ := q.uncons
  obtain ⟨x3, r3, rfl, q3, q⟩ := q.uncons
  obtain rfl := q.unnil
  exact ⟨a, x0, x1, x2, x3, e, ha, q0, q1, q2, q3⟩
theorem Rp.tup5 {d0 d1 d2 d3 d4 : PyData} (h : Rp B H v (.tuple [d0, d1, d2, d3, d4])) : ∃ a x0 x1 x2 x3 x4, v = .ref a ∧ H a = some (.tup [x0, x1, x2, x3, x4]) ∧ Rp B H x0 d0 ∧ Rp B H x1 d1 ∧ Rp B H x2 d2 ∧ Rp B H x3 d3 ∧ Rp B H x4 d4 := by
  obtain ⟨a, xs, e, ha, _, q⟩ := h.of_tup
  obtain ⟨x0, r0, rfl, q0, q⟩ := q.uncons
  obtain ⟨x1, r1, rfl, q1, q⟩ := q.uncons
  obtain ⟨x2, r2, rfl, q2, q⟩ := q.uncons
  obtain ⟨x3, r3, rfl, q3, q⟩ := q.uncons
  obtain ⟨x4, r4, rfl, q4, q⟩ := q.uncons
  obtain rfl := q.unnil
  exact ⟨a, x0, x1, x2, x3, x4, e, ha, q0, q1, q2, q3, q4⟩
/-- a new tuple, a new list -/
theorem RpL.tup (h : RpL B H xs ds) (hp : H p = none) (nb : ¬ B p) : Rp B (L2.upd H p (.tup xs)) (.ref p) (.tuple ds) :=
  have h' := h.upd (p := p) (o := .tup xs) (.inr hp)
  .tup upd_same nb h'.1 h'.2
theorem RpL.lst (h : RpL B H xs ds) (hp : B p ∨ H p = none) (nb : ¬ B p) : Rp B (L2.upd H p (.lst xs)) (.ref p) (.list ds) :=
  have h' := h.upd (p := p) (o := .lst xs) hp
  .lst upd_same nb h'.1 h'.2
theorem RpL.lst' (h : RpL B H xs ds) (hp : H p = some (.lst xs)) (nb : ¬ B p) : Rp B H (.ref p) (.list ds) := .lst hp nb h.1 h.2
end
/-- the layer's own data -/
theorem Rp.dpAll {B : Addr → Prop} {K : PySem.W.Frag} {H : Hp} : ∀ {xs : List V} {ds : List PyData}, xs.length = ds.length → (∀ (i : Nat) (x : V) (d : PyData), xs[i]? = some x → ds[i]? = some d → Dp K H x d) → DpAll K H xs ds
  | [], [], _, _ => .nil
  | x :: xs, d :: ds, l, q => .cons (q 0 x d rfl rfl) (Rp.dpAll (B := B) (by simpa using l) fun i y e e1 e2 => q (i + 1) y e (by simpa using e1) (by simpa using e2))
  | [], _ :: _, l, _ => by simp at l
  | _ :: _, [], l, _ => by simp at l
theorem Rp.dp {B : Addr → Prop} {K : PySem.W.Frag} {H : Hp} {v : V} {d : PyData} (h : Rp B H v d) : Dp K H v d := by
  induction h with
  | non => exact .non
  | int i => exact .int i
  | str s => exact .str s
  | lst e n l _ ih => exact .lst (SqL.of e) (Rp.dpAll (B := B) l ih)
  | tup e n l _ ih => exact .tup (SqT.of e) (Rp.dpAll (B := B) l ih)

/-! ### the parser's object -/
abbrev Ts := List Tk
def TkAt (H : Hp) (x : V) (t : Tk) : Prop := ∃ a n, x = .ref a ∧ H a = some (.tup [.str t.1, .str t.2, .int n])
structure FdAt (H : Hp) (L : Addr) (all : Ts) : Prop where
  l : ∃ xs, H L = some (.lst xs) ∧ xs.length = all.length ∧ ∀ (i : Nat) (x : V) (t : Tk), xs[i]? = some x → all[i]? = some t → TkAt H x t
  z : all.length ≤ 4001
theorem fl_ne1 : ¬ (("found" : Str) = "at") := by decide +kernel
theorem fl_ne2 : ¬ (("found" : Str) = "most_terms") := by decide +kernel
theorem fl_ne3 : ¬ (("at" : Str) = "most_terms") := by decide +kernel
theorem fl_ne1' : ¬ (("at" : Str) = "found") := by decide +kernel
theorem fl_ne2' : ¬ (("most_terms" : Str) = "found") := by decide +kernel
theorem fl_ne3' : ¬ (("most_terms" : Str) = "at") := by decide +kernel
def flds (L : Addr) (k m : Int) : List (Str × V) := putF "most_terms" (.int m) (putF "at" (.int k) (putF "found" (.ref L) []))
theorem flds_eq (L : Addr) (k m : Int) : flds L k m = ([("found", V.ref L), ("at", V.int k), ("most_terms", V.int m)] : List (Str × V)) := by
  have e1 : putF ("at" : Str) (V.int k) [(("found" : Str), V.ref L)] = ([("found", V.ref L), ("at", V.int k)] : List (Str × V)) := by
    show (if ("found" : Str) = "at" then [(("found" : Str), V.int k)] else (("found" : Str), V.ref L) :: putF "at" (V.int k) []) = _
    rw [if_neg fl_ne1]
    all_goals rfl
  show putF "most_terms" (.int m) (putF ("at" : Str) (V.int k) [(("found" : Str), V.ref L)]) = _
  rw [e1]
  show (if ("found" : Str) = "most_terms" then [(("found" : Str), V.int m), (("at" : Str), V.int k)] else (("found" : Str), V.ref L) :: (if ("at" : Str) = "most_terms" then [(("at" : Str), V.int m)] else (("at" : Str), V.int k) :: putF "most_terms" (V.int m) [])) = _
  rw [if_neg fl_ne2, if_neg fl_ne3]
  all_goals rfl
theorem flds_found (L : Addr) (k m : Int) : (flds L k m).lookup ("found" : Str) = some (.ref L) := by
  unfold flds; rw [lookup_putF, if_neg fl_ne2, lookup_putF, if_neg fl_ne1, lookup_putF, if_pos rfl]
theorem flds_at (L : Addr) (k m : Int) : (flds L k m).lookup ("at" : Str) = some (.int k) := by
  unfold flds; rw [lookup_putF, if_neg fl_ne3, lookup_putF, if_pos rfl]
theorem flds_most (L : Addr) (k m : Int) : (flds L k m).lookup ("most_terms" : Str) = some (.int m) := by
  unfold flds; rw [lookup_putF, if_pos rfl]
theorem flds_no (L : Addr) (k m : Int) {x : Str} (h1 : ¬ x = "found") (h2 : ¬ x = "at") (h3 : ¬ x = "most_terms") : (flds L k m).lookup x = none := by
  unfold flds; rw [lookup_putF, if_neg h3, lookup_putF, if_neg h2, lookup_putF, if_neg h1]; rfl
theorem flds_putAt (L : Addr) (k m j : Int) : putF "at" (.int j) (flds L k m) = flds L j m := by
  rw [flds_eq, flds_eq]
  show (if ("found" : Str) = "at" then _ else (("found" : Str), V.ref L) :: (if ("at" : Str) = "at" then _ else _)) = _
  rw [if_neg fl_ne1, if_pos rfl]
theorem flds_putMost (L : Addr) (k m j : Int) : putF "most_terms" (.int j) (flds L k m) = flds L k j := by
  rw [flds_eq, flds_eq]
  show (if ("found" : Str) = "most_terms" then _ else (("found" : Str), V.ref L) :: (if ("at" : Str) = "most_terms" then _ else (("at" : Str), V.int k) :: (if ("most_terms" : Str) = "most_terms" then _ else _))) = _
  rw [if_neg fl_ne2, if_neg fl_ne3, if_pos rfl]
/-- the parser at p stands at the k-th of the tokens all -/
structure PaAt (C : Addr) (H : Hp) (p L : Addr) (all : Ts) (k : Nat) : Prop where
  fd : FdAt H L all
  le : k ≤ all.length
  ob : ∃ dx m, H p = some (.ins C dx (flds L k m)) ∧ 0 ≤ m ∧ m ≤ 4
abbrev Mp (p : Addr) : Addr → Prop := fun b => b = p
section
variable {C p L : Addr} {H H' : Hp} {all : Ts} {k k' : Nat}
theorem FdAt.kp {M : Addr → Prop} (h : FdAt H L all) (kp : Kp M H H') (hM : ∀ b, M b → (∀ xs, H b ≠ some (.lst xs)) ∧ ∀ xs, H b ≠ some (.tup xs)) : FdAt H' L all := by
  obtain ⟨⟨xs, e, l, q⟩, z⟩ := h
  refine ⟨⟨xs, kp.oth _ _ e fun m => (hM _ m).1 _ e, l, fun i x t e1 e2 => ?_⟩, z⟩
  obtain ⟨a, n, rfl, ha⟩ := q i x t e1 e2
  exact ⟨a, n, rfl, kp.oth _ _ ha fun m => (hM _ m).2 _ ha⟩
theorem PaAt.nop (h : PaAt C H p L all k) : ∀ b, Mp p b → (∀ xs, H b ≠ some (.lst xs)) ∧ ∀ xs, H b ≠ some (.tup xs) := by
  obtain ⟨_, _, dx, m, e, _⟩ := h
  intro b hb
  have hb' : b = p := hb
  subst hb'
  exact ⟨fun xs z => (by rw [e] at z; cases z), fun xs z => (by rw [e] at z; cases z)⟩
theorem PaAt.mv (h : PaAt C H p L all k) (kp : Kp (Mp p) H H') {dx : Addr} {m : Int} (e : H' p = some (.ins C dx (flds L k' m))) (le : k' ≤ all.length) (h0 : 0 ≤ m) (h4 : m ≤ 4) : PaAt C H' p L all k' :=
  ⟨h.fd.kp kp h.nop, le, dx, m, e, h0, h4⟩
theorem PaAt.eq (h : PaAt C H p L all k) (kp : Kp (Mp p) H H') (e : H' p = H p) : PaAt C H' p L all k := by
  obtain ⟨dx, m, e1, h0, h4⟩ := id h.ob
  exact h.mv kp (e.trans e1) h.le h0 h4
/-- from one heap to a later one of the same call -/
theorem PaAt.nw (h : PaAt C H p L all k) {q : Addr} {o : HO} (hq : H q = none) : PaAt C (upd H q o) p L all k := by
  obtain ⟨dx, m, e1, h0, h4⟩ := id h.ob
  exact h.eq (Kp.refl.new hq) (upd_ne (ne_of_none e1 hq))
theorem PaAt.ne (h : PaAt C H p L all k) : H p ≠ none := by
  obtain ⟨_, _, dx, m, e, _⟩ := h
  rw [e]; simp
theorem PaAt.neL (h : PaAt C H p L all k) : H L ≠ none := by
  obtain ⟨⟨⟨xs, e, _⟩, _⟩, _⟩ := h
  rw [e]; simp
end
theorem drop_at {α : Type} {l : List α} {k : Nat} {t : α} {r : List α} (h : l.drop k = t :: r) : k < l.length ∧ l[k]? = some t ∧ l.drop (k + 1) = r := by
  have hk : k < l.length := by
    refine Nat.lt_of_not_le fun z => ?_
    rw [List.drop_eq_nil_of_le z] at h
    cases h
  rw [List.drop_eq_getElem_cons hk] at h
  injection h with h1 h2
  exact ⟨hk, by rw [List.getElem?_eq_getElem hk, h1], h2⟩
end Kt
/-! K4: the grammar over tokens, as relations -/
namespace Kt
open PySem

def kws : List Str := ["not", "sum", "minimize", "range"]
def nons : List Str := ["=", "!=", "<", "<=", ">", ">=", "+", "-", "*"]
/-- the next token is there and is not the sign s -/
def nSg (s : Str) (r : Ts) : Prop := ∃ (t : Tk) (r' : Ts), r = t :: r' ∧ t ≠ (("sign" : Str), s)
abbrev tk (k w : Str) : Tk := (k, w)
abbrev tS (s : Str) : Tk := tk "sign" s
def PFac (PT : Ts → Tm → Ts → Prop) (ts : Ts) (x : Tm) (r : Ts) : Prop :=
  (∃ w n, ts = tk "int" w :: r ∧ x = .int n ∧ PySem.intText? w = some n ∧ w.length ≤ 640) ∨ (∃ w, ts = tk "var" w :: r ∧ x = .var w) ∨
    (∃ m, ts = tS "(" :: m ∧ PT m x (tS ")" :: r)) ∨ (∃ w, ts = tk "name" w :: r ∧ w ∉ kws ∧ x = .sym w)
inductive LPro (PF : Ts → Tm → Ts → Prop) : Nat → Tm → Ts → Tm → Ts → Prop where
  | done {x : Tm} {r : Ts} : nSg "*" r → LPro PF 0 x r x r
  | step {n : Nat} {x f y : Tm} {ts r' r : Ts} : PF ts f r' → LPro PF n (.op "*" x f) r' y r → LPro PF (n + 1) x (tS "*" :: ts) y r
def PPro (PT : Ts → Tm → Ts → Prop) (ts : Ts) (x : Tm) (r : Ts) : Prop := ∃ n f r', PFac PT ts f r' ∧ LPro (PFac PT) n f r' x r
inductive LTrm (PP : Ts → Tm → Ts → Prop) : Nat → Tm → Ts → Tm → Ts → Prop where
  | done {x : Tm} {r : Ts} : nSg "+" r → nSg "-" r → LTrm PP 0 x r x r
  | step {n : Nat} {g : Str} {x f y : Tm} {ts r' r : Ts} : (g = "+" ∨ g = "-") → PP ts f r' → LTrm PP n (.op g x f) r' y r → LTrm PP (n + 1) x (tS g :: ts) y r
/-- a term over a nested one -/
def PTrF (PT : Ts → Tm → Ts → Prop) (ts : Ts) (x : Tm) (r : Ts) : Prop := ∃ n f r', PPro PT ts f r' ∧ LTrm (PPro PT) n f r' x r
/-- a term, its brackets nested below n -/
def PTrm : Nat → Ts → Tm → Ts → Prop
  | 0 => fun _ _ _ => False
  | n + 1 => PTrF (PTrm n)
abbrev PT4 := PTrm 4
/-- further items behind a separator -/
inductive Lp {α : Type} (sep : Str) (P : Ts → α → Ts → Prop) : Nat → List α → Ts → List α → Ts → Prop where
  | done {xs : List α} {r : Ts} : nSg sep r → Lp sep P 0 xs r xs r
  | step {n : Nat} {x : α} {xs ys : List α} {ts r' r : Ts} : P ts x r' → Lp sep P n (xs ++ [x]) r' ys r → Lp sep P (n + 1) xs (tS sep :: ts) ys r
def PAtm (ts : Ts) (a : Am) (r : Ts) : Prop := ∃ r0, ts = tk "name" a.nm :: r0 ∧ a.nm ∉ kws ∧ a.ts.length ≤ 4 ∧
  ((a.ts = [] ∧ r = r0 ∧ nSg "(" r0) ∨ ∃ n0 m t r1, r0 = tS "(" :: m ∧ PT4 m t r1 ∧ Lp "," PT4 n0 [t] r1 a.ts (tS ")" :: r))
def PCnd (ts : Ts) (c : Cd) (r : Ts) : Prop :=
  (∃ r0 a, ts = tk "name" "not" :: r0 ∧ PAtm r0 a r ∧ c = .no a) ∨
    (∃ n t1 r0 a, ts = tk "name" n :: t1 :: r0 ∧ n ≠ "not" ∧ t1.2 ∉ nons ∧ PAtm ts a r ∧ c = .yes a) ∨
    ∃ t0 t1 r0 g x y r2, ts = t0 :: t1 :: r0 ∧ (t0.1 = "name" → t0.2 ≠ "not" ∧ t1.2 ∈ nons) ∧ PT4 ts x (tS g :: r2) ∧ g ∈ cms ∧ PT4 r2 y r ∧ c = .cmp g x y
def PCds (ts : Ts) (cs : List Cd) (r : Ts) : Prop := (cs = [] ∧ r = ts ∧ nSg ":" ts) ∨ ∃ n0 m c r1, ts = tS ":" :: m ∧ PCnd m c r1 ∧ Lp "," PCnd n0 [c] r1 cs r ∧ cs.length ≤ 1000
def PMem (ts : Ts) (m : Mb) (r : Ts) : Prop := ∃ r1, PT4 ts m.t r1 ∧ PCds r1 m.cs r
def PMms (ts : Ts) (ms : List Mb) (r : Ts) : Prop := ∃ n0 r0 m r1, ts = tS "{" :: r0 ∧ PMem r0 m r1 ∧ Lp ";" PMem n0 [m] r1 ms (tS "}" :: r) ∧ ms.length ≤ 1000
def PCho (ts : Ts) (c : Ch) (r : Ts) : Prop := ∃ r1, PAtm ts c.a r1 ∧ PCds r1 c.cs r
def PChs (ts : Ts) (cs : List Ch) (r : Ts) : Prop := ∃ n0 r0 c r1, ts = tS "{" :: r0 ∧ PCho r0 c r1 ∧ Lp ";" PCho n0 [c] r1 cs (tS "}" :: r) ∧ cs.length ≤ 1000
def PPrt (ts : Ts) (x : Pt) (r : Ts) : Prop :=
  (∃ r0 ms g r1 t, ts = tk "name" "sum" :: r0 ∧ PMms r0 ms (tS g :: r1) ∧ (g = ">=" ∨ g = "<=") ∧ PT4 r1 t r ∧ x = .sum g ms t) ∨
    ∃ t r0 c, ts = t :: r0 ∧ ¬ (t.1 = "name" ∧ t.2 = "sum") ∧ PCnd ts c r ∧ x = .cd c
def PBod (ts : Ts) (b : List Pt) (r : Ts) : Prop := ∃ n0 x r1, PPrt ts x r1 ∧ Lp "," PPrt n0 [x] r1 b r ∧ b.length ≤ 1000
def POpb (ts : Ts) (b : List Pt) (r : Ts) : Prop := (b = [] ∧ r = ts ∧ nSg ":-" ts) ∨ ∃ r0, ts = tS ":-" :: r0 ∧ PBod r0 b r
def PInt (ts : Ts) (n : Int) (r : Ts) : Prop := ∃ w, ts = tk "int" w :: r ∧ PySem.intText? w = some n ∧ w.length ≤ 640
def POpi (ts : Ts) (o : Option Int) (r : Ts) : Prop := (o = none ∧ r = ts ∧ ∃ t r0, ts = t :: r0 ∧ t.1 ≠ "int") ∨ ∃ n, o = some n ∧ PInt ts n r
structure Cz where
  lo : Option Int
  cs : List Ch
  hi : Option Int
  b : List Pt
def Cz.sm (c : Cz) : Sm := .choose c.lo c.cs c.hi c.b
def PChz (ts : Ts) (c : Cz) (r : Ts) : Prop := ∃ r1 r2 r3, POpi ts c.lo r1 ∧ PChs r1 c.cs r2 ∧ POpi r2 c.hi r3 ∧ POpb r3 c.b r
def PStm (ts : Ts) (s : Sm) (r : Ts) : Prop :=
  (∃ r0 b, ts = tS ":-" :: r0 ∧ PBod r0 b (tS "." :: r) ∧ s = .deny b) ∨
    (∃ r0 r1 lo hi, ts = tk "name" "range" :: r0 ∧ PInt r0 lo r1 ∧ PInt r1 hi (tS "." :: r) ∧ s = .range lo hi) ∨
    (∃ r0 ms, ts = tk "name" "minimize" :: r0 ∧ PMms r0 ms (tS "." :: r) ∧ s = .mini ms) ∨
    (∃ t r0 c, ts = t :: r0 ∧ (t.1 = "int" ∨ t = tS "{") ∧ PChz ts c (tS "." :: r) ∧ s = c.sm) ∨
    ∃ n r0 a r1 b, ts = tk "name" n :: r0 ∧ n ∉ kws ∧ PAtm ts a r1 ∧ POpb r1 b (tS "." :: r) ∧ s = .rule a b
/-- a whole text's tokens; words: how many tokens of a statement are no signs -/
def nWd (ts : Ts) : Nat := (ts.filter fun t : Tk => !decide (t.1 = ("sign" : Str))).length
inductive PPrg : Ts → List Sm → Prop where
  | nil {t : Tk} : t.1 = "end" → PPrg [t] []
  | cons {c r : Ts} {s : Sm} {ss : List Sm} : PStm (c ++ r) s r → nWd c ≤ 60 → PPrg r ss → PPrg (c ++ r) (s :: ss)
end Kt
/-! K5: the parser's small methods -/
namespace Kt
open PySem L2
theorem FdAt.at {H : Hp} {L : Addr} {all : Ts} {k : Nat} {t : Tk} (h : FdAt H L all) (e : all[k]? = some t) : ∃ xs a n, H L = some (.lst xs) ∧ xs[k]? = some (.ref a) ∧ H a = some (.tup [.str t.1, .str t.2, .int n]) := by
  obtain ⟨⟨xs, hL, l, q⟩, _⟩ := h
  have hk : k < xs.length := by rw [l]; exact (List.getElem?_eq_some_iff.mp e).1
  obtain ⟨a, n, ea, ha⟩ := q k xs[k] t (List.getElem?_eq_getElem hk) e
  exact ⟨xs, a, n, hL, by rw [List.getElem?_eq_getElem hk, ea], ha⟩
theorem nKind : ¬ (("kind" : Str) = "found") ∧ ¬ (("kind" : Str) = "at") ∧ ¬ (("kind" : Str) = "most_terms") := by decide +kernel
/-- no name of a method is an attribute's -/
theorem fl_meth (L : Addr) (k m : Int) (x : Str) (h : ("found" : Str) ≠ x ∧ ("at" : Str) ≠ x ∧ ("most_terms" : Str) ≠ x) : (flds L k m).lookup x = none := flds_no L k m (Ne.symm h.1) (Ne.symm h.2.1) (Ne.symm h.2.2)

def spKind (C : Addr) : Sp := fun vs H Q _ => ∃ (p L : Addr) (all : Ts) (k : Nat) (t : Tk) (r : Ts), vs = [.ref p] ∧ PaAt C H p L all k ∧ all.drop k = t :: r ∧ Q (.str t.1) H
def spPeek (C : Addr) : Sp := fun vs H Q _ => ∃ (p L : Addr) (all : Ts) (k j : Nat) (t : Tk), vs = [.ref p, .int (j : Int)] ∧ PaAt C H p L all k ∧ all[k + j]? = some t ∧ Q (.str t.2) H
def spIs (C : Addr) : Sp := fun vs H Q _ => ∃ (p L : Addr) (all : Ts) (k : Nat) (t : Tk) (r : Ts) (s : Str), vs = [.ref p, .str s] ∧ PaAt C H p L all k ∧ all.drop k = t :: r ∧ Q (.bl (decide (t = tS s))) H
def spSkip (C : Addr) : Sp := fun vs H Q _ => ∃ (p L : Addr) (all : Ts) (k : Nat) (t : Tk) (r : Ts) (s : Str), vs = [.ref p, .str s] ∧ PaAt C H p L all k ∧ all.drop k = t :: r ∧
  (t = tS s → ∀ H', Kp (Mp p) H H' → PaAt C H' p L all (k + 1) → Q (.bl true) H') ∧ (t ≠ tS s → Q (.bl false) H)
def spTake (C : Addr) : Sp := fun vs H Q _ => ∃ (p L : Addr) (all : Ts) (k : Nat) (r : Ts) (s : Str), vs = [.ref p, .str s] ∧ PaAt C H p L all k ∧ all.drop k = tS s :: r ∧
  ∀ H', Kp (Mp p) H H' → PaAt C H' p L all (k + 1) → Q .non H'
def spWord (C : Addr) : Sp := fun vs H Q _ => ∃ (p L : Addr) (all : Ts) (k : Nat) (r : Ts) (kd w : Str), vs = [.ref p, .str kd] ∧ PaAt C H p L all k ∧ all.drop k = (kd, w) :: r ∧ (kd = "name" → w ∉ kws) ∧
  ∀ H', Kp (Mp p) H H' → PaAt C H' p L all (k + 1) → Q (.str w) H'
def spInt (C : Addr) : Sp := fun vs H Q _ => ∃ (p L : Addr) (all : Ts) (k : Nat) (r : Ts) (w : Str) (n : Int), vs = [.ref p] ∧ PaAt C H p L all k ∧ all.drop k = tk "int" w :: r ∧ PySem.intText? w = some n ∧ w.length ≤ 640 ∧
  ∀ H', Kp (Mp p) H H' → PaAt C H' p L all (k + 1) → Q (.int n) H'
theorem PaAt.adv {C p L dx : Addr} {H : Hp} {all : Ts} {k : Nat} {m : Int} (S : PaAt C H p L all k) (hp : H p = some (.ins C dx (flds L k m))) (h0 : 0 ≤ m) (h4 : m ≤ 4) (hk : k < all.length) {j : Int} (e : j = (k : Int) + 1) :
    Kp (Mp p) H (upd H p (.ins C dx (putF "at" (.int j) (flds L k m)))) ∧ PaAt C (upd H p (.ins C dx (putF "at" (.int j) (flds L k m)))) p L all (k + 1) := by
  have kp : Kp (Mp p) H (upd H p (.ins C dx (putF "at" (.int j) (flds L k m)))) := Kp.refl.mut rfl
  refine ⟨kp, S.mv kp (dx := dx) (m := m) ?_ hk h0 h4⟩
  rw [upd_same, flds_putAt, e]
  rfl
theorem fl_len (L : Addr) (k m : Int) : (flds L k m).length < 1000 := by rw [flds_eq]; show 3 < 1000; decide
theorem dec_v {a b : Str} : decide (V.str a = V.str b) = decide (a = b) := by
  by_cases h : a = b
  · subst h; rw [decide_eq_true rfl, decide_eq_true rfl]
  · rw [decide_eq_false h, decide_eq_false fun z => h (V.str.inj z)]
theorem inV_str (z : Str) : ∀ l : List Str, inV (.str z) (l.map V.str) = decide (z ∈ l)
  | [] => by simp [inV]
  | x :: r => by
    have h := inV_str z r
    unfold inV at h ⊢
    rw [List.map_cons, List.any_cons, h]
    show ((x == z) || decide (z ∈ r)) = decide (z ∈ x :: r)
    by_cases e : z = x
    · subst e; simp
    · have e' : (x == z) = false := beq_eq_false_iff_ne.mpr (Ne.symm e)
      rw [e', Bool.false_or]
      simp [e]
/-- a method that reads an x -/
def spRd {α : Type} (C : Addr) (enc : α → PyData) (R : Ts → α → Ts → Prop) : Sp := fun vs H Q _ => ∃ (p L : Addr) (all : Ts) (k : Nat) (x : α) (r : Ts), vs = [.ref p] ∧ PaAt C H p L all k ∧ R (all.drop k) x r ∧
  ∀ v H' k', Kp (Mp p) H H' → PaAt C H' p L all k' → all.drop k' = r → Rp (dom H) H' v (enc x) → Q v H'
section
variable {P : Program} {w : World} {K : PySem.W.Frag} {mg : Str → Option Value} {base : Heap} (T : Txt K mg)
include T
theorem ok_kind : FnOk P w K mg base CX0 1 T.m_kind.f T.m_kind.fd P_m_kind (spKind T.C) := by
  refine T.m_kind.F.ok sc_m_kind (fun vs H Q E h => ?_) (fun cdv A outer s H vs Q E hr h => ?_)
  · obtain ⟨p, L, all, k, t, r, rfl, _⟩ := h
    rfl
  obtain ⟨p, L, all, k, t, r, rfl, S, hd, q⟩ := h
  obtain ⟨_, hk, _⟩ := drop_at hd
  obtain ⟨dx, m, hp, _⟩ := S.ob
  obtain ⟨xs, a, n, hL, hx, ha⟩ := S.fd.at hk
  refine ⟨_, (pss_one (ps_ret (pe_ix ix_tup (pe_ix ix_list (pe_fld (pv 0) rfl) (pe_fld (pv 0) rfl) (fun _ _ => rfl)) pe_int (fun _ _ => rfl)))), ?_⟩
  exact ⟨_, rfl, _, _, _, _, _, rfl, hp, T.cl, T.nFound, flds_found _ _ _, _, rfl, _, _, _, _, _, rfl, hp, T.cl, T.nAt, flds_at _ _ _, _, _, _, _, rfl, rfl, SqL.of hL, atI_nat hx, _, _, _, _, rfl, rfl, SqT.of ha, atI_nat (j := 0) rfl, q⟩
theorem ok_peek : FnOk P w K mg base CX0 1 T.m_peek.f T.m_peek.fd P_m_peek (spPeek T.C) := by
  refine T.m_peek.F.ok sc_m_peek (fun vs H Q E h => ?_) (fun cdv A outer s H vs Q E hr h => ?_)
  · obtain ⟨p, L, all, k, j, t, rfl, _⟩ := h
    rfl
  obtain ⟨p, L, all, k, j, t, rfl, S, hk, q⟩ := h
  obtain ⟨dx, m, hp, _⟩ := S.ob
  obtain ⟨xs, a, n, hL, hx, ha⟩ := S.fd.at hk
  refine ⟨_, PSs.nox (pss_cons (ps_set (i := 2) sc_m_peek.nd rfl (Or.inl rfl) (pe_callB (call_min2 rfl) (by rfl) T.zmin (by decide +kernel) (pa_cons (pe_op op_add (pe_fld (pv 0) rfl) (pv 1)) (pa_cons (pe_op op_sub (pe_callB call_len_seq (by rfl) T.zlen PySem.boot_len (pa_cons (pe_fld (pv 0) rfl) pa_nil)) pe_int) pa_nil))))
      (pss_one (ps_ret (pe_ix ix_tup (pe_ix ix_list (pe_fld (pv 0) rfl) (pv 2) (fun _ _ => rfl)) pe_int (fun _ _ => rfl))))), ?_⟩
  refine ⟨_, rfl, _, _, _, _, _, rfl, hp, T.cl, T.nAt, flds_at _ _ _, _, rfl, _, _, rfl, rfl, ?_⟩
  refine ⟨_, rfl, _, _, _, _, _, rfl, hp, T.cl, T.nFound, flds_found _ _ _, _, _, rfl, .inl (SqL.of hL), _, _, rfl, rfl, _, _, rfl, ?_⟩
  have hl : k + j < xs.length := (List.getElem?_eq_some_iff.mp hx).1
  have e : (if ((xs.length : Nat) : Int) - 1 < (k : Int) + (j : Int) then ((xs.length : Nat) : Int) - 1 else (k : Int) + (j : Int)) = ((k + j : Nat) : Int) := by
    rw [if_neg (by omega)]
    omega
  rw [e]
  exact ⟨_, rfl, _, _, _, _, _, rfl, hp, T.cl, T.nFound, flds_found _ _ _, _, rfl, _, _, _, _, rfl, rfl, SqL.of hL, atI_nat hx, _, _, _, _, rfl, rfl, SqT.of ha, atI_nat (j := 1) rfl, q⟩
variable {k0 : Nat} (G_m_kind : FnOk P w K mg base CX0 1 T.m_kind.f T.m_kind.fd P_m_kind (spKind T.C)) (G_m_peek : FnOk P w K mg base CX0 1 T.m_peek.f T.m_peek.fd P_m_peek (spPeek T.C))
include G_m_kind G_m_peek
theorem ok_is : FnOk P w K mg base CX0 2 T.m_is_sign.f T.m_is_sign.fd P_m_is_sign (spIs T.C) := by
  refine T.m_is_sign.F.ok sc_m_is_sign (fun vs H Q E h => ?_) (fun cdv A outer s H vs Q E hr h => ?_)
  · obtain ⟨p, L, all, k, t, r, z, rfl, _⟩ := h
    rfl
  obtain ⟨p, L, all, k, t, r, z, rfl, S, hd, q⟩ := h
  obtain ⟨_, hk, _⟩ := drop_at hd
  obtain ⟨dx, m, hp, _⟩ := S.ob
  refine ⟨_, (pss_one (ps_ret (pe_and (pe_cmpR op_eq (pe_meth0 (pv 0) T.cl T.m_kind.m G_m_kind (hr.mono (by omega)) T.m_kind.b .nil pass0) pe_str (nomark _)) (pe_one (pe_cmpR op_eq (pe_meth0 (pv 0) T.cl T.m_peek.m G_m_peek (hr.mono (by omega)) T.m_peek.b0 T.m_peek.v0 pass0) (pv 1) (nomark _)))))), ?_⟩
  refine ⟨_, rfl, _, _, _, rfl, hp, fl_meth _ _ _ _ (by decide +kernel), p, L, all, k, t, r, rfl, S, hd, rfl, _, rfl, ?_⟩
  refine ite2 (fun c => ?_) (fun c => ?_)
  · rw [dec_v] at c
    have c' : t.1 = "sign" := of_decide_eq_true c
    refine ⟨_, rfl, _, _, _, rfl, hp, fl_meth _ _ _ _ (by decide +kernel), p, L, all, k, 0, t, rfl, S, hk, _, rfl, rfl, ?_⟩
    rw [dec_v]
    have e : decide (t.2 = z) = decide (t = tS z) := by
      obtain ⟨t1, t2⟩ := t
      simp at c'
      subst c'
      by_cases h : t2 = z
      · subst h; rw [decide_eq_true rfl, decide_eq_true rfl]
      · rw [decide_eq_false h, decide_eq_false fun y => h (congrArg Prod.snd y)]
    rw [e]
    exact q
  · rw [dec_v] at c
    have c' : ¬ t.1 = "sign" := fun y => c (decide_eq_true y)
    rw [decide_eq_false fun y => c' (by rw [y])] at q
    exact q
variable (G_m_is_sign : FnOk P w K mg base CX0 2 T.m_is_sign.f T.m_is_sign.fd P_m_is_sign (spIs T.C))
include G_m_is_sign
theorem ok_skip : FnOk P w K mg base CX0 3 T.m_skip.f T.m_skip.fd P_m_skip (spSkip T.C) := by
  refine T.m_skip.F.ok sc_m_skip (fun vs H Q E h => ?_) (fun cdv A outer s H vs Q E hr h => ?_)
  · obtain ⟨p, L, all, k, t, r, z, rfl, _⟩ := h
    rfl
  obtain ⟨p, L, all, k, t, r, z, rfl, S, hd, q1, q2⟩ := h
  obtain ⟨lt, hk, _⟩ := drop_at hd
  obtain ⟨dx, m, hp, h0, h4⟩ := S.ob
  refine ⟨_, (pss_cons (ps_if (pt_val (pe_meth (pv 0) T.cl T.m_is_sign.m G_m_is_sign (hr.mono (by omega)) T.m_is_sign.b .nil pass0 (pa_cons (pv 1) pa_nil))) (pss_cons (ps_fldaug (pv 0) pe_int in_add)
      (pss_one (ps_ret pe_bl))) pss_nil)
      (pss_one (ps_ret pe_bl))), ?_⟩
  refine ⟨_, rfl, _, _, _, rfl, hp, fl_meth _ _ _ _ (by decide +kernel), _, rfl, p, L, all, k, t, r, z, rfl, S, hd, _, rfl, ?_⟩
  refine ite2 (fun c => ?_) (fun c => ?_)
  · have A := S.adv hp h0 h4 lt rfl
    refine ⟨_, rfl, _, _, _, _, _, rfl, hp, T.cl, T.nAt, flds_at _ _ _, _, _, rfl, rfl, _, _, hp, fl_len _ _ _, ?_⟩
    exact q1 (of_decide_eq_true c) _ A.1 A.2
  · exact q2 fun y => c (decide_eq_true y)
theorem ok_take : FnOk P w K mg base CX0 3 T.m_take.f T.m_take.fd P_m_take (spTake T.C) := by
  refine T.m_take.F.ok sc_m_take (fun vs H Q E h => ?_) (fun cdv A outer s H vs Q E hr h => ?_)
  · obtain ⟨p, L, all, k, r, z, rfl, _⟩ := h
    rfl
  obtain ⟨p, L, all, k, r, z, rfl, S, hd, q⟩ := h
  obtain ⟨lt, hk, _⟩ := drop_at hd
  obtain ⟨dx, m, hp, h0, h4⟩ := S.ob
  refine ⟨_, (pss_cons (ps_if (pt_not (pt_val (pe_meth (pv 0) T.cl T.m_is_sign.m G_m_is_sign (hr.mono (by omega)) T.m_is_sign.b .nil pass0 (pa_cons (pv 1) pa_nil)))) (pss_one ps_never) pss_nil)
      (pss_one (ps_fldaug (pv 0) pe_int in_add))), ?_⟩
  refine ⟨_, rfl, _, _, _, rfl, hp, fl_meth _ _ _ _ (by decide +kernel), _, rfl, p, L, all, k, _, r, z, rfl, S, hd, _, rfl, ?_⟩
  rw [decide_eq_true rfl]
  refine iteF ?_
  have A := S.adv hp h0 h4 lt rfl
  refine ⟨_, rfl, _, _, _, _, _, rfl, hp, T.cl, T.nAt, flds_at _ _ _, _, _, rfl, rfl, _, _, hp, fl_len _ _ _, ?_⟩
  exact q _ A.1 A.2
theorem ok_word : FnOk P w K mg base CX0 2 T.m_word.f T.m_word.fd P_m_word (spWord T.C) := by
  refine T.m_word.F.ok sc_m_word (fun vs H Q E h => ?_) (fun cdv A outer s H vs Q E hr h => ?_)
  · obtain ⟨p, L, all, k, r, kd, z, rfl, _⟩ := h
    rfl
  obtain ⟨p, L, all, k, r, kd, z, rfl, S, hd, hn, q⟩ := h
  obtain ⟨lt, hk, _⟩ := drop_at hd
  obtain ⟨dx, m, hp, h0, h4⟩ := S.ob
  have A := S.adv hp h0 h4 lt (j := (k : Int) + 1) rfl
  obtain ⟨dx2, m2, hp2, _⟩ := A.2.ob
  obtain ⟨xs, a, n, hL, hx, ha⟩ := A.2.fd.at hk
  refine ⟨_, (pss_cons (ps_if (PW.pt (pw_or (pt_cmpR op_ne (pe_meth0 (pv 0) T.cl T.m_kind.m G_m_kind (hr.mono (by omega)) T.m_kind.b .nil pass0) (pv 1) (nomark _)) (pw_or1 (PW.pt (pw_and (pt_cmpR op_eq (pv 1) pe_str (nomark _)) (pw_and1 (pt_cmpR op_in_seq (pe_meth0 (pv 0) T.cl T.m_peek.m G_m_peek (hr.mono (by omega)) T.m_peek.b0 T.m_peek.v0 pass0) (pe_glob (v := .ref T.aKEYWORDS) (by rfl) T.gKEYWORDS rfl) (by rfl)))))))) (pss_one ps_never) pss_nil)
      (pss_cons (ps_fldaug (pv 0) pe_int in_add)
      (pss_one (ps_ret (pe_ix ix_tup (pe_ix ix_list (pe_fld (pv 0) rfl) (pe_op op_sub (pe_fld (pv 0) rfl) pe_int) (fun _ _ => rfl)) pe_int (fun _ _ => rfl)))))), ?_⟩
  refine ⟨_, rfl, _, _, _, rfl, hp, fl_meth _ _ _ _ (by decide +kernel), p, L, all, k, _, r, rfl, S, hd, _, rfl, rfl, _, rfl, ?_⟩
  rw [decide_eq_true rfl]
  refine iteF ?_
  refine ⟨_, rfl, rfl, _, rfl, ?_⟩
  have rest : ∀ D : Ends, D.rt = Q → tSeq (sFldAug K (tVar 0) (tC (.int 1)) rAdd "at") (tRet (tOp (rIxT K) (tOp (rIxL K) (tFld K (tVar 0) "found") (tOp rSub (tFld K (tVar 0) "at") (tC (.int 1)))) (tC (.int 1)))) D [some (.ref p), some (.str kd)] H := fun D e => by
    subst e
    refine ⟨_, rfl, _, _, _, _, _, rfl, hp, T.cl, T.nAt, flds_at _ _ _, _, _, rfl, rfl, _, _, hp, fl_len _ _ _, ?_⟩
    have ek : (((k + 1 : Nat) : Int) - 1) = (k : Int) := by omega
    refine ⟨_, rfl, _, _, _, _, _, rfl, hp2, T.cl, T.nFound, flds_found _ _ _, _, rfl, _, _, _, _, _, rfl, hp2, T.cl, T.nAt, flds_at _ _ _, _, _, rfl, rfl, _, _, _, _, rfl, rfl, SqL.of hL, (by rw [ek]; exact atI_nat hx), _, _, _, _, rfl, rfl, SqT.of ha, atI_nat (j := 1) rfl, q _ A.1 A.2⟩
  refine ite2 (fun c => ?_) (fun c => ?_)
  · rw [dec_v] at c
    have c' : kd = "name" := of_decide_eq_true c
    refine ⟨_, rfl, _, _, _, rfl, hp, fl_meth _ _ _ _ (by decide +kernel), p, L, all, k, 0, _, rfl, S, hk, T.aKEYWORDS, _, rfl, .inr (T.qKEYWORDS H), rfl, rfl, _, rfl, ?_⟩
    have e : inV (.str z) (kws.map V.str) = false := by rw [inV_str, decide_eq_false (hn c')]
    refine (show (if inV (.str z) (kws.map V.str) = true then _ else _) from ?_)
    rw [e]
    exact iteF (rest _ rfl)
  · exact iteF (rest _ rfl)
theorem ok_integer (G_m_word : FnOk P w K mg base CX0 2 T.m_word.f T.m_word.fd P_m_word (spWord T.C)) : FnOk P w K mg base CX0 3 T.m_integer.f T.m_integer.fd P_m_integer (spInt T.C) := by
  refine T.m_integer.F.ok sc_m_integer (fun vs H Q E h => ?_) (fun cdv A outer s H vs Q E hr h => ?_)
  · obtain ⟨p, L, all, k, r, z, n, rfl, _⟩ := h
    rfl
  obtain ⟨p, L, all, k, r, z, n, rfl, S, hd, hn, hz, q⟩ := h
  obtain ⟨dx, m, hp, h0, h4⟩ := S.ob
  refine ⟨_, (pss_one (ps_ret (pe_callTy call_int_str (by rfl) T.zint (by decide +kernel) (pa_cons (pe_meth (pv 0) T.cl T.m_word.m G_m_word (hr.mono (by omega)) T.m_word.b .nil pass0 (pa_cons pe_str pa_nil)) pa_nil)))), ?_⟩
  exact ⟨_, rfl, _, _, _, rfl, hp, fl_meth _ _ _ _ (by decide +kernel), p, L, all, k, r, _, z, rfl, S, hd, (fun e => absurd e (by decide +kernel)), fun H' k1 S1 => ⟨z, n, rfl, hn, hz, q H' k1 S1⟩⟩
end
end Kt
/-! K6: factor, product, term -/
namespace Kt
open PySem L2
theorem Rp.up {H0 H1 H2 : Hp} {M : Addr → Prop} {v : V} {d : PyData} (h : Rp (dom H0) H1 v d) (kp : Kp M H1 H2) (hM : ∀ b, M b → H0 b ≠ none) : Rp (dom H0) H2 v d := h.kp kp hM
theorem Rp.dn {H0 H1 H2 : Hp} {M : Addr → Prop} {v : V} {d : PyData} (h : Rp (dom H1) H2 v d) (kp : Kp M H0 H1) : Rp (dom H0) H2 v d := h.weak fun b e => kp.dm b e
theorem RpL.dn {H0 H1 H2 : Hp} {M : Addr → Prop} {v : List V} {d : List PyData} (h : RpL (dom H1) H2 v d) (kp : Kp M H0 H1) : RpL (dom H0) H2 v d := h.weak fun b e => kp.dm b e
theorem mp_dom {H : Hp} {p : Addr} (h : H p ≠ none) : ∀ b, Mp p b → H b ≠ none := fun b e => by
  have e' : b = p := e
  rw [e']; exact h
theorem iF {A B : Prop} {c : Bool} (h : c = false) (x : B) : if c = true then A else B := by rw [h]; exact iteF x
theorem iT {A B : Prop} {c : Bool} (h : c = true) (x : A) : if c = true then A else B := by rw [h]; exact iteT x
theorem sz0 : 0 ≤ sizeLine := by decide
theorem sz1 : 1 ≤ sizeLine := by decide
theorem sz2 : 2 ≤ sizeLine := by decide
theorem sz3 : 3 ≤ sizeLine := by decide
theorem sz4 : 4 ≤ sizeLine := by decide
theorem sz5 : 5 ≤ sizeLine := by decide
theorem fVI : decide (V.str ("var" : Str) = V.str "int") = false := by decide +kernel
theorem fSI : decide (V.str ("sign" : Str) = V.str "int") = false := by decide +kernel
theorem fSV : decide (V.str ("sign" : Str) = V.str "var") = false := by decide +kernel
theorem fNI : decide (V.str ("name" : Str) = V.str "int") = false := by decide +kernel
theorem fNV : decide (V.str ("name" : Str) = V.str "var") = false := by decide +kernel
theorem fNS : ¬ ("name" : Str) = "sign" := by decide +kernel
/-- a new tuple of data -/
theorem RpL.mk {H0 H : Hp} {M : Addr → Prop} {t : Addr} {xs : List V} {ds : List PyData} (h : RpL (dom H0) H xs ds) (k : Kp M H0 H) (ht : H t = none) : Rp (dom H0) (L2.upd H t (.tup xs)) (.ref t) (.tuple ds) :=
  h.tup ht fun z => z (k.free ht)
section
variable {P : Program} {w : World} {K : PySem.W.Frag} {mg : Str → Option Value} {base : Heap} (T : Txt K mg)
variable (G_m_kind : FnOk P w K mg base CX0 1 T.m_kind.f T.m_kind.fd P_m_kind (spKind T.C)) (G_m_peek : FnOk P w K mg base CX0 1 T.m_peek.f T.m_peek.fd P_m_peek (spPeek T.C)) (G_m_is_sign : FnOk P w K mg base CX0 2 T.m_is_sign.f T.m_is_sign.fd P_m_is_sign (spIs T.C))
  (G_m_skip : FnOk P w K mg base CX0 3 T.m_skip.f T.m_skip.fd P_m_skip (spSkip T.C)) (G_m_take : FnOk P w K mg base CX0 3 T.m_take.f T.m_take.fd P_m_take (spTake T.C)) (G_m_word : FnOk P w K mg base CX0 2 T.m_word.f T.m_word.fd P_m_word (spWord T.C)) (G_m_integer : FnOk P w K mg base CX0 3 T.m_integer.f T.m_integer.fd P_m_integer (spInt T.C))
include T G_m_kind G_m_peek G_m_is_sign G_m_skip G_m_take G_m_word G_m_integer
theorem ok_factor {j : Nat} (hj : 3 ≤ j) {PT : Ts → Tm → Ts → Prop} (G_m_term : FnOk P w K mg base CX0 j T.m_term.f T.m_term.fd P_m_term (spRd T.C Tm.enc PT)) : FnOk P w K mg base CX0 (j + 1) T.m_factor.f T.m_factor.fd P_m_factor (spRd T.C Tm.enc (PFac PT)) := by
  refine T.m_factor.F.ok sc_m_factor (fun vs H Q E h => ?_) (fun cdv A outer s H vs Q E hr h => ?_)
  · obtain ⟨p, L, all, k, x, r, rfl, _⟩ := h
    rfl
  obtain ⟨p, L, all, k, x, r, rfl, S, hR, q⟩ := h
  obtain ⟨dx, m, hp, h0, h4⟩ := S.ob
  refine ⟨_, (pss_cons (ps_if (pt_cmpR op_eq (pe_meth0 (pv 0) T.cl T.m_kind.m G_m_kind (hr.mono (by omega)) T.m_kind.b .nil pass0) pe_str (nomark _)) (pss_one (ps_ret (pe_tup (pa_cons pe_str (pa_cons (pe_meth0 (pv 0) T.cl T.m_integer.m G_m_integer (hr.mono (by omega)) T.m_integer.b .nil pass0) pa_nil))))) pss_nil)
      (pss_cons (ps_if (pt_cmpR op_eq (pe_meth0 (pv 0) T.cl T.m_kind.m G_m_kind (hr.mono (by omega)) T.m_kind.b .nil pass0) pe_str (nomark _)) (pss_one (ps_ret (pe_tup (pa_cons pe_str (pa_cons (pe_meth (pv 0) T.cl T.m_word.m G_m_word (hr.mono (by omega)) T.m_word.b .nil pass0 (pa_cons pe_str pa_nil)) pa_nil))))) pss_nil)
      (pss_cons (ps_if (pt_val (pe_meth (pv 0) T.cl T.m_skip.m G_m_skip (hr.mono (by omega)) T.m_skip.b .nil pass0 (pa_cons pe_str pa_nil))) (pss_cons (ps_set (i := 1) sc_m_factor.nd rfl (Or.inl rfl) (pe_meth0 (pv 0) T.cl T.m_term.m G_m_term (hr.mono (by omega)) T.m_term.b .nil pass0))
      (pss_cons (ps_expr (pe_meth (pv 0) T.cl T.m_take.m G_m_take (hr.mono (by omega)) T.m_take.b .nil pass0 (pa_cons pe_str pa_nil)))
      (pss_one (ps_ret (pv 1))))) pss_nil)
      (pss_one (ps_ret (pe_tup (pa_cons pe_str (pa_cons (pe_meth (pv 0) T.cl T.m_word.m G_m_word (hr.mono (by omega)) T.m_word.b .nil pass0 (pa_cons pe_str pa_nil)) pa_nil)))))))), ?_⟩
  rcases hR with ⟨z, n, hd, rfl, hn, hz⟩ | ⟨z, hd, rfl⟩ | ⟨ms, hd, hT⟩ | ⟨z, hd, hk, rfl⟩
  · refine ⟨_, rfl, _, _, _, rfl, hp, fl_meth _ _ _ _ (by decide +kernel), p, L, all, k, _, r, rfl, S, hd, rfl, _, rfl, ?_⟩
    rw [decide_eq_true rfl]
    refine iteT ?_
    refine ⟨_, rfl, _, _, _, rfl, hp, fl_meth _ _ _ _ (by decide +kernel), p, L, all, k, r, z, n, rfl, S, hd, hn, hz, fun H1 k1 S1 => ⟨sz2, fun t ht => ?_⟩⟩
    exact q _ _ (k + 1) (k1.new ht) (S1.nw ht) (drop_at hd).2.2 ((RpL.cons (.str _) (.cons (.int _) .nil)).mk k1 ht)
  · refine ⟨_, rfl, _, _, _, rfl, hp, fl_meth _ _ _ _ (by decide +kernel), p, L, all, k, _, r, rfl, S, hd, rfl, _, rfl, ?_⟩
    refine iF fVI ?_
    refine ⟨_, rfl, _, _, _, rfl, hp, fl_meth _ _ _ _ (by decide +kernel), p, L, all, k, _, r, rfl, S, hd, rfl, _, rfl, ?_⟩
    rw [decide_eq_true rfl]
    refine iteT ?_
    refine ⟨_, rfl, _, _, _, rfl, hp, fl_meth _ _ _ _ (by decide +kernel), p, L, all, k, r, _, z, rfl, S, hd, (fun e => absurd e (by decide +kernel)), fun H1 k1 S1 => ⟨sz2, fun t ht => ?_⟩⟩
    exact q _ _ (k + 1) (k1.new ht) (S1.nw ht) (drop_at hd).2.2 ((RpL.cons (.str _) (.cons (.str _) .nil)).mk k1 ht)
  · refine ⟨_, rfl, _, _, _, rfl, hp, fl_meth _ _ _ _ (by decide +kernel), p, L, all, k, _, _, rfl, S, hd, rfl, _, rfl, ?_⟩
    refine iF fSI ?_
    refine ⟨_, rfl, _, _, _, rfl, hp, fl_meth _ _ _ _ (by decide +kernel), p, L, all, k, _, _, rfl, S, hd, rfl, _, rfl, ?_⟩
    refine iF fSV ?_
    refine ⟨_, rfl, _, _, _, rfl, hp, fl_meth _ _ _ _ (by decide +kernel), p, L, all, k, _, _, _, rfl, S, hd, (fun _ H1 k1 S1 => ?_), fun z => absurd rfl z⟩
    obtain ⟨dx1, m1, hp1, _⟩ := S1.ob
    refine ⟨_, rfl, iteT ?_⟩
    refine ⟨_, rfl, _, _, _, rfl, hp1, fl_meth _ _ _ _ (by decide +kernel), p, L, all, k + 1, x, _, rfl, S1, (by rw [(drop_at hd).2.2]; exact hT), fun v H2 k2 kp2 S2 e2 D2 => ?_⟩
    obtain ⟨dx2, m2, hp2, _⟩ := S2.ob
    refine ⟨_, rfl, _, _, _, rfl, hp2, fl_meth _ _ _ _ (by decide +kernel), p, L, all, k2, r, _, rfl, S2, e2, fun H3 kp3 S3 => ?_⟩
    exact ⟨_, rfl, q _ _ (k2 + 1) ((k1.trans kp2).trans kp3) S3 (drop_at e2).2.2 ((D2.dn k1).up kp3 (mp_dom S.ne))⟩
  · refine ⟨_, rfl, _, _, _, rfl, hp, fl_meth _ _ _ _ (by decide +kernel), p, L, all, k, _, r, rfl, S, hd, rfl, _, rfl, ?_⟩
    refine iF fNI ?_
    refine ⟨_, rfl, _, _, _, rfl, hp, fl_meth _ _ _ _ (by decide +kernel), p, L, all, k, _, r, rfl, S, hd, rfl, _, rfl, ?_⟩
    refine iF fNV ?_
    refine ⟨_, rfl, _, _, _, rfl, hp, fl_meth _ _ _ _ (by decide +kernel), p, L, all, k, _, _, _, rfl, S, hd, (fun e => absurd (congrArg Prod.fst e) fNS), fun _ => ?_⟩
    refine ⟨_, rfl, iteF ?_⟩
    refine ⟨_, rfl, _, _, _, rfl, hp, fl_meth _ _ _ _ (by decide +kernel), p, L, all, k, r, _, z, rfl, S, hd, (fun _ => hk), fun H1 k1 S1 => ⟨sz2, fun t ht => ?_⟩⟩
    exact q _ _ (k + 1) (k1.new ht) (S1.nw ht) (drop_at hd).2.2 ((RpL.cons (.str _) (.cons (.str _) .nil)).mk k1 ht)
theorem ok_product {j : Nat} (hj : 3 ≤ j) {PT : Ts → Tm → Ts → Prop} (G_m_factor : FnOk P w K mg base CX0 j T.m_factor.f T.m_factor.fd P_m_factor (spRd T.C Tm.enc (PFac PT))) : FnOk P w K mg base CX0 (j + 1) T.m_product.f T.m_product.fd P_m_product (spRd T.C Tm.enc (PPro PT)) := by
  refine T.m_product.F.ok sc_m_product (fun vs H Q E h => ?_) (fun cdv A outer s H vs Q E hr h => ?_)
  · obtain ⟨p, L, all, k, x, r, rfl, _⟩ := h
    rfl
  obtain ⟨p, L, all, k, x, r, rfl, S, ⟨n0, f, r', hF, hL⟩, q⟩ := h
  obtain ⟨dx, m, hp, h0, h4⟩ := S.ob
  refine ⟨_, (pss_cons (ps_set (i := 1) sc_m_product.nd rfl (Or.inl rfl) (pe_meth0 (pv 0) T.cl T.m_factor.m G_m_factor (hr.mono (by omega)) T.m_factor.b .nil pass0))
      (pss_cons (ps_while PassesOwn.never (pt_val (pe_meth (pv 0) T.cl T.m_skip.m G_m_skip (hr.mono (by omega)) T.m_skip.b .nil pass0 (pa_cons pe_str pa_nil))) (pss_one (ps_set (i := 1) sc_m_product.nd rfl (Or.inl rfl) (pe_tup (pa_cons pe_str (pa_cons pe_str (pa_cons (pv 1) (pa_cons (pe_meth0 (pv 0) T.cl T.m_factor.m G_m_factor (hr.mono (by omega)) T.m_factor.b .nil pass0) pa_nil))))))))
      (pss_one (ps_ret (pv 1))))), ?_⟩
  refine ⟨_, rfl, _, _, _, rfl, hp, fl_meth _ _ _ _ (by decide +kernel), p, L, all, k, f, r', rfl, S, hF, fun v1 H1 k1 kp1 S1 e1 D1 => ?_⟩
  subst e1
  refine ⟨fun m σ H2 => ∃ v y k2, σ = [some (.ref p), some v] ∧ Kp (Mp p) H H2 ∧ PaAt T.C H2 p L all k2 ∧ LPro (PFac PT) m y (all.drop k2) x r ∧ Rp (dom H) H2 v y.enc, ⟨n0, v1, f, k1, rfl, kp1, S1, hL, D1⟩, ?_⟩
  rintro m σ H2 ⟨v, y, k2, rfl, kp2, S2, hL2, D2⟩
  obtain ⟨dx2, m2, hp2, _⟩ := S2.ob
  generalize e2 : all.drop k2 = ts at hL2
  cases hL2 with
  | done hn =>
    obtain ⟨t, r2, rfl, ht⟩ := hn
    refine ⟨_, rfl, _, _, _, rfl, hp2, fl_meth _ _ _ _ (by decide +kernel), p, L, all, k2, _, _, _, rfl, S2, e2, (fun z => absurd z ht), fun _ => ?_⟩
    exact ⟨_, rfl, iteF ⟨_, rfl, q _ _ k2 kp2 S2 e2 D2⟩⟩
  | step hF2 hL3 =>
    rename_i n2 f2 ts2 r3
    refine ⟨_, rfl, _, _, _, rfl, hp2, fl_meth _ _ _ _ (by decide +kernel), p, L, all, k2, _, _, _, rfl, S2, e2, (fun _ H3 kp3 S3 => ?_), fun z => absurd rfl z⟩
    obtain ⟨dx3, m3, hp3, _⟩ := S3.ob
    refine ⟨_, rfl, iteT ⟨_, fun _ _ z => z, ?_⟩⟩
    refine ⟨_, rfl, _, rfl, _, _, _, rfl, hp3, fl_meth _ _ _ _ (by decide +kernel), p, L, all, k2 + 1, f2, r3, rfl, S3, (by rw [(drop_at e2).2.2]; exact hF2), fun v4 H4 k4 kp4 S4 e4 D4 => ⟨sz4, fun t ht => ?_⟩⟩
    have kpA := (kp2.trans kp3).trans kp4
    refine ⟨_, Nat.lt_succ_self _, .ref t, .op "*" y f2, k4, rfl, kpA.new ht, S4.nw ht, (by rw [e4]; exact hL3), ?_⟩
    exact (RpL.cons (.str _) (.cons (.str _) (.cons ((D2.up kp3 (mp_dom S.ne)).up kp4 (mp_dom S.ne)) (.cons (D4.dn (kp2.trans kp3)) .nil)))).mk kpA ht
theorem ok_term {j : Nat} (hj : 3 ≤ j) {PT : Ts → Tm → Ts → Prop} (G_m_product : FnOk P w K mg base CX0 j T.m_product.f T.m_product.fd P_m_product (spRd T.C Tm.enc (PPro PT))) : FnOk P w K mg base CX0 (j + 1) T.m_term.f T.m_term.fd P_m_term (spRd T.C Tm.enc (PTrF PT)) := by
  refine T.m_term.F.ok sc_m_term (fun vs H Q E h => ?_) (fun cdv A outer s H vs Q E hr h => ?_)
  · obtain ⟨p, L, all, k, x, r, rfl, _⟩ := h
    rfl
  obtain ⟨p, L, all, k, x, r, rfl, S, ⟨n0, f, r', hF, hL⟩, q⟩ := h
  obtain ⟨dx, m, hp, h0, h4⟩ := S.ob
  refine ⟨_, (pss_cons (ps_set (i := 1) sc_m_term.nd rfl (Or.inl rfl) (pe_meth0 (pv 0) T.cl T.m_product.m G_m_product (hr.mono (by omega)) T.m_product.b .nil pass0))
      (pss_cons (ps_while PassesOwn.never (PW.pt (pw_or (pt_val (pe_meth (pv 0) T.cl T.m_is_sign.m G_m_is_sign (hr.mono (by omega)) T.m_is_sign.b .nil pass0 (pa_cons pe_str pa_nil))) (pw_or1 (pt_val (pe_meth (pv 0) T.cl T.m_is_sign.m G_m_is_sign (hr.mono (by omega)) T.m_is_sign.b .nil pass0 (pa_cons pe_str pa_nil)))))) (pss_cons (ps_set (i := 2) sc_m_term.nd rfl (Or.inl rfl) (pe_meth0 (pv 0) T.cl T.m_peek.m G_m_peek (hr.mono (by omega)) T.m_peek.b0 T.m_peek.v0 pass0))
      (pss_cons (ps_fldaug (pv 0) pe_int in_add)
      (pss_one (ps_set (i := 1) sc_m_term.nd rfl (Or.inl rfl) (pe_tup (pa_cons pe_str (pa_cons (pv 2) (pa_cons (pv 1) (pa_cons (pe_meth0 (pv 0) T.cl T.m_product.m G_m_product (hr.mono (by omega)) T.m_product.b .nil pass0) pa_nil))))))))))
      (pss_one (ps_ret (pv 1))))), ?_⟩
  refine ⟨_, rfl, _, _, _, rfl, hp, fl_meth _ _ _ _ (by decide +kernel), p, L, all, k, f, r', rfl, S, hF, fun v1 H1 k1 kp1 S1 e1 D1 => ?_⟩
  subst e1
  refine ⟨fun m σ H2 => ∃ v y k2 u, σ = [some (.ref p), some v, u] ∧ Kp (Mp p) H H2 ∧ PaAt T.C H2 p L all k2 ∧ LTrm (PPro PT) m y (all.drop k2) x r ∧ Rp (dom H) H2 v y.enc, ⟨n0, v1, f, k1, _, rfl, kp1, S1, hL, D1⟩, ?_⟩
  rintro m σ H2 ⟨v, y, k2, u, rfl, kp2, S2, hL2, D2⟩
  obtain ⟨dx2, m2, hp2, h20, h24⟩ := S2.ob
  generalize e2 : all.drop k2 = ts at hL2
  cases hL2 with
  | done hn hn' =>
    obtain ⟨t, r2, rfl, ht⟩ := hn
    obtain ⟨t', r2', e, ht'⟩ := hn'
    injection e with ea eb
    subst ea
    refine ⟨_, rfl, _, _, _, rfl, hp2, fl_meth _ _ _ _ (by decide +kernel), p, L, all, k2, _, _, _, rfl, S2, e2, _, rfl, ?_⟩
    refine iF (decide_eq_false ht) ?_
    refine ⟨_, rfl, _, _, _, rfl, hp2, fl_meth _ _ _ _ (by decide +kernel), p, L, all, k2, _, _, _, rfl, S2, e2, _, rfl, ?_⟩
    refine iF (decide_eq_false ht') ?_
    exact ⟨_, rfl, q _ _ k2 kp2 S2 e2 D2⟩
  | step hg hF2 hL3 =>
    rename_i n2 g f2 ts2 r3
    rcases hg with rfl | rfl
    · refine ⟨_, rfl, _, _, _, rfl, hp2, fl_meth _ _ _ _ (by decide +kernel), p, L, all, k2, _, _, _, rfl, S2, e2, _, rfl, iT (decide_eq_true rfl) (iteT ?_)⟩
      refine ⟨_, fun _ _ z => z, ?_⟩
      refine ⟨_, rfl, _, _, _, rfl, hp2, fl_meth _ _ _ _ (by decide +kernel), p, L, all, k2, 0, _, rfl, S2, (drop_at e2).2.1, ?_⟩
      have A := S2.adv hp2 h20 h24 (drop_at e2).1 rfl
      refine ⟨_, rfl, _, _, _, _, _, rfl, hp2, T.cl, T.nAt, flds_at _ _ _, _, _, rfl, rfl, _, _, hp2, fl_len _ _ _, ?_⟩
      obtain ⟨kp3, S3⟩ := A
      obtain ⟨dx3, m3, hp3, _⟩ := S3.ob
      refine ⟨_, rfl, _, rfl, _, rfl, _, _, _, rfl, hp3, fl_meth _ _ _ _ (by decide +kernel), p, L, all, k2 + 1, f2, r3, rfl, S3, (by rw [(drop_at e2).2.2]; exact hF2), fun v4 H4 k4 kp4 S4 e4 D4 => ⟨sz4, fun t ht => ?_⟩⟩
      have kpA := (kp2.trans kp3).trans kp4
      refine ⟨_, Nat.lt_succ_self _, .ref t, .op "+" y f2, k4, _, rfl, kpA.new ht, S4.nw ht, (by rw [e4]; exact hL3), ?_⟩
      exact (RpL.cons (.str _) (.cons (.str _) (.cons ((D2.up kp3 (mp_dom S.ne)).up kp4 (mp_dom S.ne)) (.cons (D4.dn (kp2.trans kp3)) .nil)))).mk kpA ht
    · refine ⟨_, rfl, _, _, _, rfl, hp2, fl_meth _ _ _ _ (by decide +kernel), p, L, all, k2, _, _, _, rfl, S2, e2, _, rfl, iF (decide_eq_false (by decide +kernel)) ?_⟩
      refine ⟨_, rfl, _, _, _, rfl, hp2, fl_meth _ _ _ _ (by decide +kernel), p, L, all, k2, _, _, _, rfl, S2, e2, _, rfl, iT (decide_eq_true rfl) ?_⟩
      refine ⟨_, fun _ _ z => z, ?_⟩
      refine ⟨_, rfl, _, _, _, rfl, hp2, fl_meth _ _ _ _ (by decide +kernel), p, L, all, k2, 0, _, rfl, S2, (drop_at e2).2.1, ?_⟩
      have A := S2.adv hp2 h20 h24 (drop_at e2).1 rfl
      refine ⟨_, rfl, _, _, _, _, _, rfl, hp2, T.cl, T.nAt, flds_at _ _ _, _, _, rfl, rfl, _, _, hp2, fl_len _ _ _, ?_⟩
      obtain ⟨kp3, S3⟩ := A
      obtain ⟨dx3, m3, hp3, _⟩ := S3.ob
      refine ⟨_, rfl, _, rfl, _, rfl, _, _, _, rfl, hp3, fl_meth _ _ _ _ (by decide +kernel), p, L, all, k2 + 1, f2, r3, rfl, S3, (by rw [(drop_at e2).2.2]; exact hF2), fun v4 H4 k4 kp4 S4 e4 D4 => ⟨sz4, fun t ht => ?_⟩⟩
      have kpA := (kp2.trans kp3).trans kp4
      refine ⟨_, Nat.lt_succ_self _, .ref t, .op "-" y f2, k4, _, rfl, kpA.new ht, S4.nw ht, (by rw [e4]; exact hL3), ?_⟩
      exact (RpL.cons (.str _) (.cons (.str _) (.cons ((D2.up kp3 (mp_dom S.ne)).up kp4 (mp_dom S.ne)) (.cons (D4.dn (kp2.trans kp3)) .nil)))).mk kpA ht
theorem none_term : FnOk P w K mg base CX0 3 T.m_term.f T.m_term.fd P_m_term (spRd T.C Tm.enc (PTrm 0)) := by
  have no : ∀ vs H Q E, ¬ spRd T.C Tm.enc (PTrm 0) vs H Q E := fun vs H Q E h => by
    obtain ⟨p, L, all, k, x, r, _, _, z, _⟩ := h
    exact z
  exact ⟨fun vs H Q E h => absurd h (no vs H Q E), fun A outer s H args us vs Q E _ _ _ _ h => absurd h (no vs H Q E)⟩
theorem all_term : ∀ n : Nat, FnOk P w K mg base CX0 (3 * n + 3) T.m_term.f T.m_term.fd P_m_term (spRd T.C Tm.enc (PTrm n))
  | 0 => none_term T G_m_kind G_m_peek G_m_is_sign G_m_skip G_m_take G_m_word G_m_integer
  | n + 1 => by
    have ih := all_term n
    have F := ok_factor T G_m_kind G_m_peek G_m_is_sign G_m_skip G_m_take G_m_word G_m_integer (j := 3 * n + 3) (by omega) ih
    have Pr := ok_product T G_m_kind G_m_peek G_m_is_sign G_m_skip G_m_take G_m_word G_m_integer (by omega) F
    exact ok_term T G_m_kind G_m_peek G_m_is_sign G_m_skip G_m_take G_m_word G_m_integer (by omega) Pr
end
end Kt
/-! K7: atoms, conditions, members, choices, parts, statements -/
namespace Kt
open PySem L2
theorem Lp.len {α : Type} {sep : Str} {P : Ts → α → Ts → Prop} {n : Nat} {xs ys : List α} {ts r : Ts} (h : Lp sep P n xs ts ys r) : ys.length = xs.length + n := by
  induction h with
  | done _ => rfl
  | step _ _ ih => rw [ih, List.length_append, List.length_singleton]; omega
theorem PaAt.on {C p L : Addr} {H H4 H5 : Hp} {all : Ts} {k k4 : Nat} (S : PaAt C H p L all k) (S4 : PaAt C H4 p L all k4) (kp : Kp (Mp p) H H5) (e : H5 p = H4 p) : PaAt C H5 p L all k4 := by
  obtain ⟨dx, m, e1, h0, h4⟩ := S4.ob
  exact S.mv kp (e.trans e1) S4.le h0 h4
abbrev domD (H : Hp) (D : Addr) : Addr → Prop := fun a => H a ≠ none ∨ a = D
section
variable {K : PySem.W.Frag} {C p L D : Addr} {all : Ts} {α : Type} {enc : α → PyData} {R : Ts → α → Ts → Prop} {sep nm : Str} {σ : L2.St} {H : Hp} {k : Nat}
/-- while self.skip(sep): rows.append(self.nm()) -/
theorem loop_rd {i : Nat} (h0 : σ[0]? = some (some (.ref p))) (hi : σ[i]? = some (some (.ref D))) (hnm : ("found" : Str) ≠ nm ∧ ("at" : Str) ≠ nm ∧ ("most_terms" : Str) ≠ nm) (S : PaAt C H p L all k) (hD : H D = none)
    {n : Nat} {xs ys : List α} {r : Ts} {vs : List V} {k1 : Nat} {H1 : Hp} (kp : Kp (Mp p) H H1) (S1 : PaAt C H1 p L all k1) (hL : Lp sep R n xs (all.drop k1) ys r) (hz : ys.length ≤ 1000) (h1 : H1 D = some (.lst vs)) (hR : RpL (domD H D) H1 vs (xs.map enc))
    {E : Ends} (q : ∀ H2 k2 vs2, Kp (Mp p) H H2 → PaAt C H2 p L all k2 → all.drop k2 = r → H2 D = some (.lst vs2) → RpL (domD H D) H2 vs2 (ys.map enc) → E.nx σ H2) :
    tWhile (tB (tMeth C "skip" (spSkip C) [] E0 (tVar 0) (tCons (tC (.str sep)) tNil))) (tDrop (tBM K "list" rAppend (tVar i) (tCons (tMeth C nm (spRd C enc R) [] E0 (tVar 0) tNil) tNil))) E σ H1 := by
  refine ⟨fun m σ' H2 => ∃ ws zs k2, σ' = σ ∧ Kp (Mp p) H H2 ∧ PaAt C H2 p L all k2 ∧ Lp sep R m zs (all.drop k2) ys r ∧ H2 D = some (.lst ws) ∧ RpL (domD H D) H2 ws (zs.map enc), ⟨n, vs, xs, k1, rfl, kp, S1, hL, h1, hR⟩, ?_⟩
  rintro m σ' H2 ⟨ws, zs, k2, rfl, kp2, S2, hL2, hD2, hR2⟩
  obtain ⟨dx2, m2, hp2, _⟩ := S2.ob
  have mpD : ∀ b, Mp p b → domD H D b := fun b e => .inl (mp_dom S.ne b e)
  have hpD : D ≠ p := fun z => S.ne (by rw [← z]; exact hD)
  have ln := hL2.len
  generalize e2 : all.drop k2 = ts at hL2
  cases hL2 with
  | done hn =>
    obtain ⟨t, r2, rfl, ht⟩ := hn
    refine ⟨_, h0, _, _, _, rfl, hp2, fl_meth _ _ _ _ (by decide +kernel), p, L, all, k2, _, _, _, rfl, S2, e2, (fun z => absurd z ht), fun _ => ?_⟩
    exact ⟨_, rfl, iteF (q _ _ _ kp2 S2 e2 hD2 hR2)⟩
  | step hF hL3 =>
    rename_i n2 f2 ts2 r3
    refine ⟨_, h0, _, _, _, rfl, hp2, fl_meth _ _ _ _ (by decide +kernel), p, L, all, k2, _, _, _, rfl, S2, e2, (fun _ H3 kp3 S3 => ?_), fun z => absurd rfl z⟩
    obtain ⟨dx3, m3, hp3, _⟩ := S3.ob
    have hD3 := kp3.oth D _ hD2 hpD
    refine ⟨_, rfl, iteT ⟨_, fun _ _ z => z, ?_⟩⟩
    refine ⟨_, hi, .inl ⟨rfl, _, .inl (.inl hD3)⟩, _, h0, _, _, _, rfl, hp3, fl_meth _ _ _ _ hnm, p, L, all, k2 + 1, f2, r3, rfl, S3, (by rw [(drop_at e2).2.2]; exact hF), fun v4 H4 k4 kp4 S4 e4 D4 => ?_⟩
    have hD4 := kp4.oth D _ hD3 hpD
    have kpA := (kp2.trans kp3).trans kp4
    have kpB : Kp (Mp p) H (L2.upd H4 D (.lst (ws ++ [v4]))) := kpA.loc hD
    refine ⟨D, ws, v4, rfl, rfl, hD4, ?_, ?_⟩
    · have lw := hR2.1
      rw [List.length_map] at lw
      exact small1000 (by omega)
    · refine ⟨n2, Nat.lt_succ_self _, ws ++ [v4], zs ++ [f2], k4, rfl, kpB, S.on S4 kpB (upd_ne (Ne.symm hpD)), (by rw [e4]; exact hL3), upd_same, ?_⟩
      rw [List.map_append]
      refine RpL.snoc (RpL.upd ((hR2.kp kp3 mpD).kp kp4 mpD) (.inl (.inr rfl))) ((D4.weak fun b e => ?_).upd (.inl (.inr rfl)))
      rcases e with e | e
      · exact (kp2.trans kp3).dm b e
      · rw [e]; exact some_ne hD3
end
section
variable {P : Program} {w : World} {K : PySem.W.Frag} {mg : Str → Option Value} {base : Heap} (T : Txt K mg)
variable (G_m_kind : FnOk P w K mg base CX0 1 T.m_kind.f T.m_kind.fd P_m_kind (spKind T.C)) (G_m_peek : FnOk P w K mg base CX0 1 T.m_peek.f T.m_peek.fd P_m_peek (spPeek T.C)) (G_m_is_sign : FnOk P w K mg base CX0 2 T.m_is_sign.f T.m_is_sign.fd P_m_is_sign (spIs T.C))
  (G_m_skip : FnOk P w K mg base CX0 3 T.m_skip.f T.m_skip.fd P_m_skip (spSkip T.C)) (G_m_take : FnOk P w K mg base CX0 3 T.m_take.f T.m_take.fd P_m_take (spTake T.C)) (G_m_word : FnOk P w K mg base CX0 2 T.m_word.f T.m_word.fd P_m_word (spWord T.C)) (G_m_integer : FnOk P w K mg base CX0 3 T.m_integer.f T.m_integer.fd P_m_integer (spInt T.C))
  (G_m_term : FnOk P w K mg base CX0 15 T.m_term.f T.m_term.fd P_m_term (spRd T.C Tm.enc PT4))
include T G_m_kind G_m_peek G_m_is_sign G_m_skip G_m_take G_m_word G_m_integer G_m_term
theorem ok_atom : FnOk P w K mg base CX0 16 T.m_atom.f T.m_atom.fd P_m_atom (spRd T.C Am.enc PAtm) := by
  refine T.m_atom.F.ok sc_m_atom (fun vs H Q E h => ?_) (fun cdv A outer s H vs Q E hr h => ?_)
  · obtain ⟨p, L, all, k, x, r, rfl, _⟩ := h
    rfl
  obtain ⟨p, L, all, k, x, r, rfl, S, ⟨r0, hd, hk, h4, hc⟩, q⟩ := h
  obtain ⟨dx, m, hp, _⟩ := S.ob
  refine ⟨_, (pss_cons (ps_set (i := 1) sc_m_atom.nd rfl (Or.inl rfl) (pe_meth (pv 0) T.cl T.m_word.m G_m_word (hr.mono (by omega)) T.m_word.b .nil pass0 (pa_cons pe_str pa_nil)))
      (pss_cons (ps_set (i := 2) sc_m_atom.nd rfl (Or.inl rfl) (pe_lst pa_nil))
      (pss_cons (ps_if (pt_val (pe_meth (pv 0) T.cl T.m_skip.m G_m_skip (hr.mono (by omega)) T.m_skip.b .nil pass0 (pa_cons pe_str pa_nil))) (pss_cons (ps_expr (pe_bm PySem.F.plainAttrs_list PySem.F.slot_list_append PySem.F.type_list_append mt_append (pv 2) (pa_cons (pe_meth0 (pv 0) T.cl T.m_term.m G_m_term (hr.mono (by omega)) T.m_term.b .nil pass0) pa_nil)))
      (pss_cons (ps_while PassesOwn.never (pt_val (pe_meth (pv 0) T.cl T.m_skip.m G_m_skip (hr.mono (by omega)) T.m_skip.b .nil pass0 (pa_cons pe_str pa_nil))) (pss_one (ps_expr (pe_bm PySem.F.plainAttrs_list PySem.F.slot_list_append PySem.F.type_list_append mt_append (pv 2) (pa_cons (pe_meth0 (pv 0) T.cl T.m_term.m G_m_term (hr.mono (by omega)) T.m_term.b .nil pass0) pa_nil)))))
      (pss_one (ps_expr (pe_meth (pv 0) T.cl T.m_take.m G_m_take (hr.mono (by omega)) T.m_take.b .nil pass0 (pa_cons pe_str pa_nil)))))) pss_nil)
      (pss_cons (ps_fld (pv 0) (pe_callB (call_max2 rfl) (by rfl) T.zmax (by decide +kernel) (pa_cons (pe_fld (pv 0) rfl) (pa_cons (pe_callB call_len_seq (by rfl) T.zlen PySem.boot_len (pa_cons (pv 2) pa_nil)) pa_nil))) rfl)
      (pss_one (ps_ret (pe_tup (pa_cons pe_str (pa_cons (pv 1) (pa_cons (pv 2) pa_nil)))))))))), ?_⟩
  refine ⟨_, rfl, _, _, _, rfl, hp, fl_meth _ _ _ _ (by decide +kernel), p, L, all, k, r0, _, x.nm, rfl, S, hd, (fun _ => hk), fun H1 kp1 S1 => ?_⟩
  refine ⟨sz0, fun D hD1 => ?_⟩
  have hD : H D = none := kp1.free hD1
  have kp2 : Kp (Mp p) H (upd H1 D (.lst [])) := kp1.new hD1
  have S2 := S1.nw hD1 (o := .lst [])
  obtain ⟨dx2, m2, hp2, _⟩ := S2.ob
  have hd1 : all.drop (k + 1) = r0 := (drop_at hd).2.2
  -- the end: most_terms, the tuple
  have fin : ∀ (E : Ends) H3 k3 vs3, E.rt = Q → Kp (Mp p) H H3 → PaAt T.C H3 p L all k3 → all.drop k3 = r → H3 D = some (.lst vs3) → RpL (domD H D) H3 vs3 (x.ts.map Tm.enc) →
      tSeq (sFld K (tVar 0) (tCB (fun xs H Q => ∃ i j, xs = [.int i, .int j] ∧ Q (.int (if j > i then j else i)) H) (tCons (tFld K (tVar 0) "most_terms") (tCons (tCB (fun xs H Q => ∃ p ys, xs = [.ref p] ∧ (SqL K H p ys ∨ SqT K H p ys) ∧ Q (.int ys.length) H) (tCons (tVar 2) tNil)) tNil))) "most_terms") (tRet (tTup (tCons (tC (.str "atom")) (tCons (tVar 1) (tCons (tVar 2) tNil))))) E [some (.ref p), some (.str x.nm), some (.ref D)] H3 := by
    intro E H3 k3 vs3 eE kp3 S3 e3 hD3 hR3
    subst eE
    obtain ⟨dx3, m3, hp3, m30, m34⟩ := S3.ob
    have lv := hR3.1
    rw [List.length_map] at lv
    refine ⟨_, rfl, _, _, _, _, _, rfl, hp3, T.cl, T.nMost, flds_most _ _ _, _, rfl, _, _, rfl, .inl (SqL.of hD3), _, _, rfl, _, rfl, _, _, _, _, rfl, hp3, T.cl, T.nMost, fl_len _ _ _, ?_⟩
    generalize hM : (if ((vs3.length : Nat) : Int) > m3 then ((vs3.length : Nat) : Int) else m3) = M
    have hM0 : 0 ≤ M ∧ M ≤ 4 := by
      rw [← hM]
      split <;> omega
    have kp4 : Kp (Mp p) H3 (upd H3 p (.ins T.C dx3 (putF "most_terms" (.int M) (flds L k3 m3)))) := Kp.refl.mut rfl
    have S4 : PaAt T.C (upd H3 p (.ins T.C dx3 (putF "most_terms" (.int M) (flds L k3 m3)))) p L all k3 := S3.mv kp4 (dx := dx3) (m := M) (by rw [upd_same, flds_putMost]) S3.le hM0.1 hM0.2
    have hD4 := kp4.oth D _ hD3 (fun z => S.ne (by rw [← (show D = p from z)]; exact hD))
    have kpA := kp3.trans kp4
    refine ⟨_, rfl, _, rfl, sz3, fun t ht => ?_⟩
    refine q _ _ k3 (kpA.new ht) (S4.nw ht) e3 ((RpL.cons (.str _) (.cons (.str _) (.cons ?_ .nil))).mk kpA ht)
    have hR4 : RpL (dom H) (upd H3 p (.ins T.C dx3 (putF "most_terms" (.int M) (flds L k3 m3)))) vs3 (x.ts.map Tm.enc) := (hR3.kp kp4 fun b e => .inl (mp_dom S.ne b e)).weak fun b e => .inl e
    exact hR4.lst' hD4 fun z => z hD
  rcases hc with ⟨ht, rfl, hn⟩ | ⟨n0, ms, t, r1, rfl, hT, hL⟩
  · obtain ⟨t, r2, rfl, hne⟩ := hn
    refine ⟨_, rfl, _, _, _, rfl, hp2, fl_meth _ _ _ _ (by decide +kernel), p, L, all, k + 1, _, _, _, rfl, S2, hd1, (fun z => absurd z hne), fun _ => ⟨_, rfl, iteF ?_⟩⟩
    refine fin _ _ (k + 1) [] rfl kp2 S2 hd1 upd_same ?_
    rw [ht]
    exact RpL.nil
  · refine ⟨_, rfl, _, _, _, rfl, hp2, fl_meth _ _ _ _ (by decide +kernel), p, L, all, k + 1, _, _, _, rfl, S2, hd1, (fun _ H3 kp3 S3 => ?_), fun z => absurd rfl z⟩
    obtain ⟨dx3, m3, hp3, _⟩ := S3.ob
    have hpD : D ≠ p := fun z => S.ne (by rw [← z]; exact hD)
    have hD3 := kp3.oth D _ upd_same hpD
    refine ⟨_, rfl, iteT ?_⟩
    refine ⟨_, rfl, .inl ⟨rfl, _, .inl (.inl hD3)⟩, _, rfl, _, _, _, rfl, hp3, fl_meth _ _ _ _ (by decide +kernel), p, L, all, k + 1 + 1, t, r1, rfl, S3, (by rw [(drop_at hd1).2.2]; exact hT), fun v4 H4 k4 kp4 S4 e4 D4 => ?_⟩
    have hD4 := kp4.oth D _ hD3 hpD
    have kpA := (kp2.trans kp3).trans kp4
    have kpB : Kp (Mp p) H (upd H4 D (.lst ([] ++ [v4]))) := kpA.loc hD
    refine ⟨D, [], v4, rfl, rfl, hD4, small1000 (by decide), ?_⟩
    refine loop_rd (i := 2) rfl rfl (by decide +kernel) S hD kpB (S.on S4 kpB (upd_ne (Ne.symm hpD))) (by rw [e4]; exact hL) (by omega) upd_same ?_ fun H5 k5 vs5 kp5 S5 e5 hD5 hR5 => ?_
    · refine RpL.cons ((D4.weak fun b e => ?_).upd (.inl (.inr rfl))) .nil
      rcases e with e | e
      · exact (kp2.trans kp3).dm b e
      · rw [e]; exact some_ne hD3
    obtain ⟨dx5, m5, hp5, _⟩ := S5.ob
    refine ⟨_, rfl, _, _, _, rfl, hp5, fl_meth _ _ _ _ (by decide +kernel), p, L, all, k5, r, _, rfl, S5, e5, fun H6 kp6 S6 => ?_⟩
    exact fin _ _ (k5 + 1) vs5 rfl (kp5.trans kp6) S6 (drop_at e5).2.2 (kp6.oth D _ hD5 hpD) (hR5.kp kp6 fun b e => .inl (mp_dom S.ne b e))
end
end Kt
/-! K8: starts_atom, condition -/
namespace Kt
open PySem L2
theorem dec_vn {a b : Str} : (!decide (V.str a = V.str b)) = !decide (a = b) := by rw [dec_v]
/-- does an atom start here -/
def stB (t : Tk) : Ts → Bool
  | [] => false
  | t1 :: _ => decide (t.1 = ("name" : Str)) && !decide (t1.2 ∈ nons)
def spStarts (C : Addr) : Sp := fun vs H Q _ => ∃ (p L : Addr) (all : Ts) (k : Nat) (t t1 : Tk) (r : Ts), vs = [.ref p] ∧ PaAt C H p L all k ∧ all.drop k = t :: t1 :: r ∧ ∀ H', Same H H' → Q (.bl (stB t (t1 :: r))) H'
theorem same_upd {H H1 : Hp} {p : Addr} {o : HO} (s : Same H H1) (h : H1 p = none) : Same H (upd H1 p o) := fun b u e => by
  rw [upd_ne (ne_of_none (s b u e) h)]
  exact s b u e
theorem PaAt.same {C p L : Addr} {H H' : Hp} {all : Ts} {k : Nat} (S : PaAt C H p L all k) (s : Same H H') : PaAt C H' p L all k := by
  obtain ⟨dx, m, e, h0, h4⟩ := S.ob
  exact S.mv (Kp.of_same s) (s _ _ e) S.le h0 h4
theorem paren_nons : ¬ (("(" : Str) ∈ nons) := by decide +kernel
theorem cms3_nons : cms.map V.str ++ [V.str "+", V.str "-", V.str "*"] = nons.map V.str := rfl
section
variable {P : Program} {w : World} {K : PySem.W.Frag} {mg : Str → Option Value} {base : Heap} (T : Txt K mg)
variable (G_m_kind : FnOk P w K mg base CX0 1 T.m_kind.f T.m_kind.fd P_m_kind (spKind T.C)) (G_m_peek : FnOk P w K mg base CX0 1 T.m_peek.f T.m_peek.fd P_m_peek (spPeek T.C)) (G_m_is_sign : FnOk P w K mg base CX0 2 T.m_is_sign.f T.m_is_sign.fd P_m_is_sign (spIs T.C))
  (G_m_skip : FnOk P w K mg base CX0 3 T.m_skip.f T.m_skip.fd P_m_skip (spSkip T.C)) (G_m_take : FnOk P w K mg base CX0 3 T.m_take.f T.m_take.fd P_m_take (spTake T.C)) (G_m_word : FnOk P w K mg base CX0 2 T.m_word.f T.m_word.fd P_m_word (spWord T.C)) (G_m_integer : FnOk P w K mg base CX0 3 T.m_integer.f T.m_integer.fd P_m_integer (spInt T.C))
  (G_m_term : FnOk P w K mg base CX0 15 T.m_term.f T.m_term.fd P_m_term (spRd T.C Tm.enc PT4))
include T G_m_kind G_m_peek G_m_is_sign G_m_skip G_m_take G_m_word G_m_integer G_m_term
theorem ok_starts_atom : FnOk P w K mg base CX0 2 T.m_starts_atom.f T.m_starts_atom.fd P_m_starts_atom (spStarts T.C) := by
  refine T.m_starts_atom.F.ok sc_m_starts_atom (fun vs H Q E h => ?_) (fun cdv A outer s H vs Q E hr h => ?_)
  · obtain ⟨p, L, all, k, t, t1, r, rfl, _⟩ := h
    rfl
  obtain ⟨p, L, all, k, t, t1, r, rfl, S, hd, q⟩ := h
  obtain ⟨dx, m, hp, h0, h4⟩ := S.ob
  have hk1 : all[k + 1]? = some t1 := (drop_at (drop_at hd).2.2).2.1
  refine ⟨_, (pss_cons (ps_if (pt_cmpR op_ne (pe_meth0 (pv 0) T.cl T.m_kind.m G_m_kind (hr.mono (by omega)) T.m_kind.b .nil pass0) pe_str (nomark _)) (pss_one (ps_ret pe_bl)) pss_nil)
      (pss_one (ps_ret (pe_or (pe_cmpR op_eq (pe_meth (pv 0) T.cl T.m_peek.m G_m_peek (hr.mono (by omega)) T.m_peek.b1 T.m_peek.v1 pass0 (pa_cons pe_int pa_nil)) pe_str (nomark _)) (pe_one (pe_cmpR op_notIn_seq (pe_meth (pv 0) T.cl T.m_peek.m G_m_peek (hr.mono (by omega)) T.m_peek.b1 T.m_peek.v1 pass0 (pa_cons pe_int pa_nil)) (pe_op op_catT (pe_glob (v := .ref T.aCOMPARISONS) (by rfl) T.gCOMPARISONS rfl) (pe_tup (pa_cons pe_str (pa_cons pe_str (pa_cons pe_str pa_nil))))) (by rfl))))))), ?_⟩
  refine ⟨_, rfl, _, _, _, rfl, hp, fl_meth _ _ _ _ (by decide +kernel), p, L, all, k, _, _, rfl, S, hd, rfl, _, rfl, ?_⟩
  rw [dec_v]
  by_cases hn : t.1 = "name"
  · refine iF (by rw [decide_eq_true hn]; rfl) ?_
    refine ⟨_, rfl, _, _, _, rfl, hp, fl_meth _ _ _ _ (by decide +kernel), p, L, all, k, 1, _, rfl, S, hk1, rfl, _, rfl, ?_⟩
    rw [dec_v]
    by_cases hq : t1.2 = "("
    · refine iT (decide_eq_true hq) ?_
      have e : stB t (t1 :: r) = true := by
        show (decide (t.1 = ("name" : Str)) && !decide (t1.2 ∈ nons)) = true
        rw [decide_eq_true hn, decide_eq_false (by rw [hq]; exact paren_nons)]
        rfl
      have z := q H (Same.refl H)
      rw [e] at z
      exact z
    · refine iF (decide_eq_false hq) ?_
      refine ⟨_, rfl, _, _, _, rfl, hp, fl_meth _ _ _ _ (by decide +kernel), p, L, all, k, 1, _, rfl, S, hk1, sz3, fun u hu => ?_⟩
      have s1 : Same H (upd H u (.tup [.str "+", .str "-", .str "*"])) := same_upd (Same.refl H) hu
      refine ⟨T.aCOMPARISONS, u, _, _, rfl, rfl, T.qCOMPARISONS _, SqT.of upd_same, (by simp), (by decide), (fun z => by cases z), fun _ v hv => ?_⟩
      refine ⟨v, _, rfl, .inr (SqT.of upd_same), rfl, rfl, ?_⟩
      refine (show Q (.bl (!inV (.str t1.2) (nons.map V.str))) _ from ?_)
      rw [inV_str]
      have e : stB t (t1 :: r) = !decide (t1.2 ∈ nons) := by
        show (decide (t.1 = ("name" : Str)) && !decide (t1.2 ∈ nons)) = _
        rw [decide_eq_true hn, Bool.true_and]
      rw [← e]
      exact q _ (same_upd s1 hv)
  · refine iT (by rw [decide_eq_false hn]; rfl) ?_
    have e : stB t (t1 :: r) = false := by
      show (decide (t.1 = ("name" : Str)) && !decide (t1.2 ∈ nons)) = false
      rw [decide_eq_false hn, Bool.false_and]
    have z := q H (Same.refl H)
    rw [e] at z
    exact z
theorem ok_condition (G_m_starts_atom : FnOk P w K mg base CX0 2 T.m_starts_atom.f T.m_starts_atom.fd P_m_starts_atom (spStarts T.C)) (G_m_atom : FnOk P w K mg base CX0 16 T.m_atom.f T.m_atom.fd P_m_atom (spRd T.C Am.enc PAtm)) : FnOk P w K mg base CX0 17 T.m_condition.f T.m_condition.fd P_m_condition (spRd T.C Cd.enc PCnd) := by
  refine T.m_condition.F.ok sc_m_condition (fun vs H Q E h => ?_) (fun cdv A outer s H vs Q E hr h => ?_)
  · obtain ⟨p, L, all, k, x, r, rfl, _⟩ := h
    rfl
  obtain ⟨p, L, all, k, x, r, rfl, S, hR, q⟩ := h
  obtain ⟨dx, m, hp, h0, h4⟩ := S.ob
  refine ⟨_, (pss_cons (ps_if (PW.pt (pw_and (pt_cmpR op_eq (pe_meth0 (pv 0) T.cl T.m_kind.m G_m_kind (hr.mono (by omega)) T.m_kind.b .nil pass0) pe_str (nomark _)) (pw_and1 (pt_cmpR op_eq (pe_meth0 (pv 0) T.cl T.m_peek.m G_m_peek (hr.mono (by omega)) T.m_peek.b0 T.m_peek.v0 pass0) pe_str (nomark _))))) (pss_cons (ps_fldaug (pv 0) pe_int in_add)
      (pss_one (ps_ret (pe_tup (pa_cons pe_str (pa_cons (pe_meth0 (pv 0) T.cl T.m_atom.m G_m_atom (hr.mono (by omega)) T.m_atom.b .nil pass0) pa_nil)))))) pss_nil)
      (pss_cons (ps_if (pt_val (pe_meth0 (pv 0) T.cl T.m_starts_atom.m G_m_starts_atom (hr.mono (by omega)) T.m_starts_atom.b .nil pass0)) (pss_one (ps_ret (pe_tup (pa_cons pe_str (pa_cons (pe_meth0 (pv 0) T.cl T.m_atom.m G_m_atom (hr.mono (by omega)) T.m_atom.b .nil pass0) pa_nil))))) pss_nil)
      (pss_cons (ps_set (i := 1) sc_m_condition.nd rfl (Or.inl rfl) (pe_meth0 (pv 0) T.cl T.m_term.m G_m_term (hr.mono (by omega)) T.m_term.b .nil pass0))
      (pss_cons (ps_if (PW.pt (pw_or (pt_cmpR op_ne (pe_meth0 (pv 0) T.cl T.m_kind.m G_m_kind (hr.mono (by omega)) T.m_kind.b .nil pass0) pe_str (nomark _)) (pw_or1 (pt_cmpR op_notIn_seq (pe_meth0 (pv 0) T.cl T.m_peek.m G_m_peek (hr.mono (by omega)) T.m_peek.b0 T.m_peek.v0 pass0) (pe_glob (v := .ref T.aCOMPARISONS) (by rfl) T.gCOMPARISONS rfl) (by rfl))))) (pss_one ps_never) pss_nil)
      (pss_cons (ps_set (i := 2) sc_m_condition.nd rfl (Or.inl rfl) (pe_meth0 (pv 0) T.cl T.m_peek.m G_m_peek (hr.mono (by omega)) T.m_peek.b0 T.m_peek.v0 pass0))
      (pss_cons (ps_fldaug (pv 0) pe_int in_add)
      (pss_one (ps_ret (pe_tup (pa_cons pe_str (pa_cons (pv 2) (pa_cons (pv 1) (pa_cons (pe_meth0 (pv 0) T.cl T.m_term.m G_m_term (hr.mono (by omega)) T.m_term.b .nil pass0) pa_nil))))))))))))), ?_⟩
  rcases hR with ⟨r0, a, hd, hA, rfl⟩ | ⟨n, t1, r0, a, hd, hn, h1, hA, rfl⟩ | ⟨t0, t1, r0, g, y, z, r2, hd, hc, hT, hg, hT2, rfl⟩
  · -- not
    refine ⟨_, rfl, _, _, _, rfl, hp, fl_meth _ _ _ _ (by decide +kernel), p, L, all, k, _, _, rfl, S, hd, rfl, _, rfl, ?_⟩
    refine iT (decide_eq_true rfl) ?_
    refine ⟨_, rfl, _, _, _, rfl, hp, fl_meth _ _ _ _ (by decide +kernel), p, L, all, k, 0, _, rfl, S, (drop_at hd).2.1, rfl, _, rfl, ?_⟩
    refine iT (decide_eq_true rfl) ?_
    obtain ⟨kp1, S1⟩ := S.adv hp h0 h4 (drop_at hd).1 rfl
    refine ⟨_, rfl, _, _, _, _, _, rfl, hp, T.cl, T.nAt, flds_at _ _ _, _, _, rfl, rfl, _, _, hp, fl_len _ _ _, ?_⟩
    obtain ⟨dx1, m1, hp1, _⟩ := S1.ob
    refine ⟨_, rfl, _, _, _, rfl, hp1, fl_meth _ _ _ _ (by decide +kernel), p, L, all, k + 1, a, r, rfl, S1, (by rw [(drop_at hd).2.2]; exact hA), fun v2 H2 k2 kp2 S2 e2 D2 => ⟨sz2, fun t ht => ?_⟩⟩
    have kpA := kp1.trans kp2
    exact q _ _ k2 (kpA.new ht) (S2.nw ht) e2 ((RpL.cons (.str _) (.cons (D2.dn kp1) .nil)).mk kpA ht)
  · -- an atom
    have hA' : PAtm (all.drop k) a r := hA
    refine ⟨_, rfl, _, _, _, rfl, hp, fl_meth _ _ _ _ (by decide +kernel), p, L, all, k, _, _, rfl, S, hd, rfl, _, rfl, ?_⟩
    refine iT (decide_eq_true rfl) ?_
    refine ⟨_, rfl, _, _, _, rfl, hp, fl_meth _ _ _ _ (by decide +kernel), p, L, all, k, 0, _, rfl, S, (drop_at hd).2.1, rfl, _, rfl, ?_⟩
    rw [dec_v]
    refine iF (decide_eq_false hn) ?_
    refine ⟨_, rfl, _, _, _, rfl, hp, fl_meth _ _ _ _ (by decide +kernel), p, L, all, k, _, _, _, rfl, S, hd, fun H1 s1 => ⟨_, rfl, ?_⟩⟩
    refine iT (by show (decide (("name" : Str) = "name") && !decide (t1.2 ∈ nons)) = true; rw [decide_eq_false h1, decide_eq_true rfl]; rfl) ?_
    have S1 := S.same s1
    obtain ⟨dx1, m1, hp1, _⟩ := S1.ob
    refine ⟨_, rfl, _, _, _, rfl, hp1, fl_meth _ _ _ _ (by decide +kernel), p, L, all, k, a, r, rfl, S1, hA', fun v2 H2 k2 kp2 S2 e2 D2 => ⟨sz2, fun t ht => ?_⟩⟩
    have kp1 : Kp (Mp p) H H1 := Kp.of_same s1
    have kpA := kp1.trans kp2
    exact q _ _ k2 (kpA.new ht) (S2.nw ht) e2 ((RpL.cons (.str _) (.cons (D2.dn kp1) .nil)).mk kpA ht)
  · -- a comparison
    have notat : ∀ t0' , t0' = t0 → stB t0' (t1 :: r0) = false := fun t0' e => by
      subst e
      show (decide (t0'.1 = ("name" : Str)) && !decide (t1.2 ∈ nons)) = false
      by_cases hn : t0'.1 = "name"
      · rw [decide_eq_true (hc hn).2]; simp
      · rw [decide_eq_false hn, Bool.false_and]
    -- from the test of starts_atom on
    have back : ∀ (E : Ends), E.rt = Q → ∀ H1, Same H H1 → (tSeq (tAsg (tMeth T.C "term" (spRd T.C Tm.enc PT4) [] E0 (tVar 0) tNil) (gName 1)) (tSeq (tIfS (tOr (tTest (tOp rNe (tMeth T.C "kind" (spKind T.C) [] E0 (tVar 0) tNil) (tC (.str "sign")))) (tTest (tOp (rIn K true) (tMeth T.C "peek" (spPeek T.C) [.int 0] E0 (tVar 0) tNil) (tC (.ref T.aCOMPARISONS))))) tNever tNext)
        (tSeq (tAsg (tMeth T.C "peek" (spPeek T.C) [.int 0] E0 (tVar 0) tNil) (gName 2)) (tSeq (sFldAug K (tVar 0) (tC (.int 1)) rAdd "at") (tRet (tTup (tCons (tC (.str "compare")) (tCons (tVar 2) (tCons (tVar 1) (tCons (tMeth T.C "term" (spRd T.C Tm.enc PT4) [] E0 (tVar 0) tNil) tNil)))))))))) E [some (.ref p), none, none] H1 := by
      intro E eE H1 s1
      subst eE
      have S1 := S.same s1
      obtain ⟨dx1, m1, hp1, _⟩ := S1.ob
      have kp1 : Kp (Mp p) H H1 := Kp.of_same s1
      refine ⟨_, rfl, _, _, _, rfl, hp1, fl_meth _ _ _ _ (by decide +kernel), p, L, all, k, y, _, rfl, S1, hT, fun v2 H2 k2 kp2 S2 e2 D2 => ?_⟩
      obtain ⟨dx2, m2, hp2, h20, h24⟩ := S2.ob
      refine ⟨_, rfl, _, _, _, rfl, hp2, fl_meth _ _ _ _ (by decide +kernel), p, L, all, k2, _, _, rfl, S2, e2, rfl, _, rfl, ?_⟩
      refine iF (by rw [dec_v, decide_eq_true rfl]; rfl) ?_
      refine ⟨_, rfl, _, _, _, rfl, hp2, fl_meth _ _ _ _ (by decide +kernel), p, L, all, k2, 0, _, rfl, S2, (drop_at e2).2.1, T.aCOMPARISONS, _, rfl, .inr (T.qCOMPARISONS _), rfl, rfl, _, rfl, ?_⟩
      refine (show (if (!inV (.str g) (cms.map V.str)) = true then _ else _) from ?_)
      rw [inV_str, decide_eq_true hg]
      refine iteF ?_
      refine ⟨_, rfl, _, _, _, rfl, hp2, fl_meth _ _ _ _ (by decide +kernel), p, L, all, k2, 0, _, rfl, S2, (drop_at e2).2.1, ?_⟩
      obtain ⟨kp3, S3⟩ := S2.adv hp2 h20 h24 (drop_at e2).1 rfl
      refine ⟨_, rfl, _, _, _, _, _, rfl, hp2, T.cl, T.nAt, flds_at _ _ _, _, _, rfl, rfl, _, _, hp2, fl_len _ _ _, ?_⟩
      obtain ⟨dx3, m3, hp3, _⟩ := S3.ob
      refine ⟨_, rfl, _, rfl, _, rfl, _, _, _, rfl, hp3, fl_meth _ _ _ _ (by decide +kernel), p, L, all, k2 + 1, z, r, rfl, S3, (by rw [(drop_at e2).2.2]; exact hT2), fun v4 H4 k4 kp4 S4 e4 D4 => ⟨sz4, fun t ht => ?_⟩⟩
      have kpB := (kp1.trans kp2).trans kp3
      have kpA := kpB.trans kp4
      exact q _ _ k4 (kpA.new ht) (S4.nw ht) e4 ((RpL.cons (.str _) (.cons (.str _) (.cons (((D2.dn kp1).up kp3 (mp_dom S.ne)).up kp4 (mp_dom S.ne)) (.cons (D4.dn kpB) .nil)))).mk kpA ht)
    refine ⟨_, rfl, _, _, _, rfl, hp, fl_meth _ _ _ _ (by decide +kernel), p, L, all, k, _, _, rfl, S, hd, rfl, _, rfl, ?_⟩
    rw [dec_v]
    by_cases hn : t0.1 = "name"
    · refine iT (decide_eq_true hn) ?_
      refine ⟨_, rfl, _, _, _, rfl, hp, fl_meth _ _ _ _ (by decide +kernel), p, L, all, k, 0, _, rfl, S, (drop_at hd).2.1, rfl, _, rfl, ?_⟩
      rw [dec_v]
      refine iF (decide_eq_false (hc hn).1) ?_
      refine ⟨_, rfl, _, _, _, rfl, hp, fl_meth _ _ _ _ (by decide +kernel), p, L, all, k, _, _, _, rfl, S, hd, fun H1 s1 => ⟨_, rfl, ?_⟩⟩
      exact iF (notat t0 rfl) (back _ rfl H1 s1)
    · refine iF (decide_eq_false hn) ?_
      refine iteF ?_
      refine ⟨_, rfl, _, _, _, rfl, hp, fl_meth _ _ _ _ (by decide +kernel), p, L, all, k, _, _, _, rfl, S, hd, fun H1 s1 => ⟨_, rfl, ?_⟩⟩
      exact iF (notat t0 rfl) (back _ rfl H1 s1)
end
end Kt
/-! K9: conditions, members, choices, parts, bodies -/
namespace Kt
open PySem L2
/-- what came out of a call, where a new list D is laid behind it -/
theorem Rp.fresh {H H1 H2 : Hp} {M : Addr → Prop} {v : V} {d : PyData} {D : Addr} (h : Rp (dom H1) H2 v d) (hD : H2 D = none) (k : Kp M H H1) : Rp (domD H D) H2 v d := by
  have w : Rp (dom H) H2 v d := h.dn k
  clear h
  induction w with
  | non => exact .non
  | int i => exact .int i
  | str s => exact .str s
  | lst e n l _ ih => exact .lst e (fun z => z.elim n fun y => by rw [y, hD] at e; cases e) l ih
  | tup e n l _ ih => exact .tup e (fun z => z.elim n fun y => by rw [y, hD] at e; cases e) l ih
section
variable {P : Program} {w : World} {K : PySem.W.Frag} {mg : Str → Option Value} {base : Heap} (T : Txt K mg)
variable (G_m_kind : FnOk P w K mg base CX0 1 T.m_kind.f T.m_kind.fd P_m_kind (spKind T.C)) (G_m_peek : FnOk P w K mg base CX0 1 T.m_peek.f T.m_peek.fd P_m_peek (spPeek T.C)) (G_m_is_sign : FnOk P w K mg base CX0 2 T.m_is_sign.f T.m_is_sign.fd P_m_is_sign (spIs T.C))
  (G_m_skip : FnOk P w K mg base CX0 3 T.m_skip.f T.m_skip.fd P_m_skip (spSkip T.C)) (G_m_take : FnOk P w K mg base CX0 3 T.m_take.f T.m_take.fd P_m_take (spTake T.C)) (G_m_word : FnOk P w K mg base CX0 2 T.m_word.f T.m_word.fd P_m_word (spWord T.C)) (G_m_integer : FnOk P w K mg base CX0 3 T.m_integer.f T.m_integer.fd P_m_integer (spInt T.C))
  (G_m_term : FnOk P w K mg base CX0 15 T.m_term.f T.m_term.fd P_m_term (spRd T.C Tm.enc PT4))
include T G_m_kind G_m_peek G_m_is_sign G_m_skip G_m_take G_m_word G_m_integer G_m_term
theorem ok_conditions (G_m_condition : FnOk P w K mg base CX0 17 T.m_condition.f T.m_condition.fd P_m_condition (spRd T.C Cd.enc PCnd)) : FnOk P w K mg base CX0 18 T.m_conditions.f T.m_conditions.fd P_m_conditions (spRd T.C (fun cs : List Cd => .list (cs.map Cd.enc)) PCds) := by
  refine T.m_conditions.F.ok sc_m_conditions (fun vs H Q E h => ?_) (fun cdv A outer s H vs Q E hr h => ?_)
  · obtain ⟨p, L, all, k, x, r, rfl, _⟩ := h
    rfl
  obtain ⟨p, L, all, k, x, r, rfl, S, hR, q⟩ := h
  obtain ⟨dx, m, hp, h0, h4⟩ := S.ob
  refine ⟨_, (pss_cons (ps_set (i := 1) sc_m_conditions.nd rfl (Or.inl rfl) (pe_lst pa_nil))
      (pss_cons (ps_if (pt_val (pe_meth (pv 0) T.cl T.m_skip.m G_m_skip (hr.mono (by omega)) T.m_skip.b .nil pass0 (pa_cons pe_str pa_nil))) (pss_cons (ps_expr (pe_bm PySem.F.plainAttrs_list PySem.F.slot_list_append PySem.F.type_list_append mt_append (pv 1) (pa_cons (pe_meth0 (pv 0) T.cl T.m_condition.m G_m_condition (hr.mono (by omega)) T.m_condition.b .nil pass0) pa_nil)))
      (pss_one (ps_while PassesOwn.never (pt_val (pe_meth (pv 0) T.cl T.m_skip.m G_m_skip (hr.mono (by omega)) T.m_skip.b .nil pass0 (pa_cons pe_str pa_nil))) (pss_one (ps_expr (pe_bm PySem.F.plainAttrs_list PySem.F.slot_list_append PySem.F.type_list_append mt_append (pv 1) (pa_cons (pe_meth0 (pv 0) T.cl T.m_condition.m G_m_condition (hr.mono (by omega)) T.m_condition.b .nil pass0) pa_nil))))))) pss_nil)
      (pss_one (ps_ret (pv 1))))), ?_⟩
  refine ⟨sz0, fun D hD => ?_⟩
  have hpD : D ≠ p := fun z => S.ne (by rw [← z]; exact hD)
  have kp2 : Kp (Mp p) H (upd H D (.lst [])) := Kp.refl.new hD
  have S2 := S.nw hD (o := .lst [])
  obtain ⟨dx2, m2, hp2, _⟩ := S2.ob
  rcases hR with ⟨rfl, rfl, hn⟩ | ⟨n0, ms, c, r1, hd, hC, hL, hz⟩
  · obtain ⟨t, r2, e, ht⟩ := hn
    refine ⟨_, rfl, _, _, _, rfl, hp2, fl_meth _ _ _ _ (by decide +kernel), p, L, all, k, _, _, _, rfl, S2, e, (fun z => absurd z ht), fun _ => ⟨_, rfl, iteF ?_⟩⟩
    exact ⟨_, rfl, q _ _ k kp2 S2 rfl (RpL.nil.lst' upd_same fun z => z hD)⟩
  · refine ⟨_, rfl, _, _, _, rfl, hp2, fl_meth _ _ _ _ (by decide +kernel), p, L, all, k, _, _, _, rfl, S2, hd, (fun _ H3 kp3 S3 => ?_), fun z => absurd rfl z⟩
    obtain ⟨dx3, m3, hp3, _⟩ := S3.ob
    have hD3 := kp3.oth D _ upd_same hpD
    refine ⟨_, rfl, iteT ?_⟩
    refine ⟨_, rfl, .inl ⟨rfl, _, .inl (.inl hD3)⟩, _, rfl, _, _, _, rfl, hp3, fl_meth _ _ _ _ (by decide +kernel), p, L, all, k + 1, c, r1, rfl, S3, (by rw [(drop_at hd).2.2]; exact hC), fun v4 H4 k4 kp4 S4 e4 D4 => ?_⟩
    have hD4 := kp4.oth D _ hD3 hpD
    have kpA := (kp2.trans kp3).trans kp4
    have kpB : Kp (Mp p) H (upd H4 D (.lst ([] ++ [v4]))) := kpA.loc hD
    refine ⟨D, [], v4, rfl, rfl, hD4, small1000 (by decide), ?_⟩
    refine loop_rd (enc := Cd.enc) (R := PCnd) (xs := [c]) (ys := x) (i := 1) rfl rfl (by decide +kernel) S hD kpB (S.on S4 kpB (upd_ne (Ne.symm hpD))) (by rw [e4]; exact hL) hz upd_same ?_ fun H5 k5 vs5 kp5 S5 e5 hD5 hR5 => ?_
    · refine RpL.cons ((D4.weak fun b e => ?_).upd (.inl (.inr rfl))) .nil
      rcases e with e | e
      · exact (kp2.trans kp3).dm b e
      · rw [e]; exact some_ne hD3
    exact ⟨_, rfl, q _ _ k5 kp5 S5 e5 ((hR5.weak fun b e => .inl e).lst' hD5 fun z => z hD)⟩
theorem ok_member (G_m_conditions : FnOk P w K mg base CX0 18 T.m_conditions.f T.m_conditions.fd P_m_conditions (spRd T.C (fun cs : List Cd => .list (cs.map Cd.enc)) PCds)) : FnOk P w K mg base CX0 19 T.m_member.f T.m_member.fd P_m_member (spRd T.C Mb.enc PMem) := by
  refine T.m_member.F.ok sc_m_member (fun vs H Q E h => ?_) (fun cdv A outer s H vs Q E hr h => ?_)
  · obtain ⟨p, L, all, k, x, r, rfl, _⟩ := h
    rfl
  obtain ⟨p, L, all, k, x, r, rfl, S, ⟨r1, h1, h2⟩, q⟩ := h
  obtain ⟨dx, m, hp, h0, h4⟩ := S.ob
  refine ⟨_, (pss_cons (ps_set (i := 1) sc_m_member.nd rfl (Or.inl rfl) (pe_meth0 (pv 0) T.cl T.m_term.m G_m_term (hr.mono (by omega)) T.m_term.b .nil pass0))
      (pss_one (ps_ret (pe_tup (pa_cons pe_str (pa_cons (pv 1) (pa_cons (pe_meth0 (pv 0) T.cl T.m_conditions.m G_m_conditions (hr.mono (by omega)) T.m_conditions.b .nil pass0) pa_nil))))))), ?_⟩
  refine ⟨_, rfl, _, _, _, rfl, hp, fl_meth _ _ _ _ (by decide +kernel), p, L, all, k, _, r1, rfl, S, h1, fun v1 H1 k1 kp1 S1 e1 D1 => ?_⟩
  obtain ⟨dx1, m1, hp1, _⟩ := S1.ob
  refine ⟨_, rfl, _, rfl, _, _, _, rfl, hp1, fl_meth _ _ _ _ (by decide +kernel), p, L, all, k1, _, r, rfl, S1, (by rw [e1]; exact h2), fun v2 H2 k2 kp2 S2 e2 D2 => ⟨sz3, fun t ht => ?_⟩⟩
  have kpA := kp1.trans kp2
  exact q _ _ k2 (kpA.new ht) (S2.nw ht) e2 ((RpL.cons (.str _) (.cons (D1.up kp2 (mp_dom S.ne)) (.cons (D2.dn kp1) .nil))).mk kpA ht)
theorem ok_choice (G_m_atom : FnOk P w K mg base CX0 16 T.m_atom.f T.m_atom.fd P_m_atom (spRd T.C Am.enc PAtm)) (G_m_conditions : FnOk P w K mg base CX0 18 T.m_conditions.f T.m_conditions.fd P_m_conditions (spRd T.C (fun cs : List Cd => .list (cs.map Cd.enc)) PCds)) : FnOk P w K mg base CX0 19 T.m_choice.f T.m_choice.fd P_m_choice (spRd T.C Ch.enc PCho) := by
  refine T.m_choice.F.ok sc_m_choice (fun vs H Q E h => ?_) (fun cdv A outer s H vs Q E hr h => ?_)
  · obtain ⟨p, L, all, k, x, r, rfl, _⟩ := h
    rfl
  obtain ⟨p, L, all, k, x, r, rfl, S, ⟨r1, h1, h2⟩, q⟩ := h
  obtain ⟨dx, m, hp, h0, h4⟩ := S.ob
  refine ⟨_, (pss_cons (ps_set (i := 1) sc_m_choice.nd rfl (Or.inl rfl) (pe_meth0 (pv 0) T.cl T.m_atom.m G_m_atom (hr.mono (by omega)) T.m_atom.b .nil pass0))
      (pss_one (ps_ret (pe_tup (pa_cons pe_str (pa_cons (pv 1) (pa_cons (pe_meth0 (pv 0) T.cl T.m_conditions.m G_m_conditions (hr.mono (by omega)) T.m_conditions.b .nil pass0) pa_nil))))))), ?_⟩
  refine ⟨_, rfl, _, _, _, rfl, hp, fl_meth _ _ _ _ (by decide +kernel), p, L, all, k, _, r1, rfl, S, h1, fun v1 H1 k1 kp1 S1 e1 D1 => ?_⟩
  obtain ⟨dx1, m1, hp1, _⟩ := S1.ob
  refine ⟨_, rfl, _, rfl, _, _, _, rfl, hp1, fl_meth _ _ _ _ (by decide +kernel), p, L, all, k1, _, r, rfl, S1, (by rw [e1]; exact h2), fun v2 H2 k2 kp2 S2 e2 D2 => ⟨sz3, fun t ht => ?_⟩⟩
  have kpA := kp1.trans kp2
  exact q _ _ k2 (kpA.new ht) (S2.nw ht) e2 ((RpL.cons (.str _) (.cons (D1.up kp2 (mp_dom S.ne)) (.cons (D2.dn kp1) .nil))).mk kpA ht)
theorem ok_members (G_m_member : FnOk P w K mg base CX0 19 T.m_member.f T.m_member.fd P_m_member (spRd T.C Mb.enc PMem)) : FnOk P w K mg base CX0 20 T.m_members.f T.m_members.fd P_m_members (spRd T.C (fun ms : List Mb => .list (ms.map Mb.enc)) PMms) := by
  refine T.m_members.F.ok sc_m_members (fun vs H Q E h => ?_) (fun cdv A outer s H vs Q E hr h => ?_)
  · obtain ⟨p, L, all, k, x, r, rfl, _⟩ := h
    rfl
  obtain ⟨p, L, all, k, x, r, rfl, S, ⟨n0, r0, y, r1, hd, hM, hL, hz⟩, q⟩ := h
  obtain ⟨dx, m, hp, h0, h4⟩ := S.ob
  refine ⟨_, (pss_cons (ps_expr (pe_meth (pv 0) T.cl T.m_take.m G_m_take (hr.mono (by omega)) T.m_take.b .nil pass0 (pa_cons pe_str pa_nil)))
      (pss_cons (ps_set (i := 1) sc_m_members.nd rfl (Or.inl rfl) (pe_lst (pa_cons (pe_meth0 (pv 0) T.cl T.m_member.m G_m_member (hr.mono (by omega)) T.m_member.b .nil pass0) pa_nil)))
      (pss_cons (ps_while PassesOwn.never (pt_val (pe_meth (pv 0) T.cl T.m_skip.m G_m_skip (hr.mono (by omega)) T.m_skip.b .nil pass0 (pa_cons pe_str pa_nil))) (pss_one (ps_expr (pe_bm PySem.F.plainAttrs_list PySem.F.slot_list_append PySem.F.type_list_append mt_append (pv 1) (pa_cons (pe_meth0 (pv 0) T.cl T.m_member.m G_m_member (hr.mono (by omega)) T.m_member.b .nil pass0) pa_nil)))))
      (pss_cons (ps_expr (pe_meth (pv 0) T.cl T.m_take.m G_m_take (hr.mono (by omega)) T.m_take.b .nil pass0 (pa_cons pe_str pa_nil)))
      (pss_one (ps_ret (pv 1))))))), ?_⟩
  refine ⟨_, rfl, _, _, _, rfl, hp, fl_meth _ _ _ _ (by decide +kernel), p, L, all, k, r0, _, rfl, S, hd, fun H1 kp1 S1 => ?_⟩
  obtain ⟨dx1, m1, hp1, _⟩ := S1.ob
  refine ⟨_, rfl, _, _, _, rfl, hp1, fl_meth _ _ _ _ (by decide +kernel), p, L, all, k + 1, y, r1, rfl, S1, (by rw [(drop_at hd).2.2]; exact hM), fun v2 H2 k2 kp2 S2 e2 D2 => ⟨sz1, fun D hD2 => ?_⟩⟩
  have kpA := kp1.trans kp2
  have hD : H D = none := kpA.free hD2
  have hpD : D ≠ p := fun z => S.ne (by rw [← z]; exact hD)
  have kpB : Kp (Mp p) H (upd H2 D (.lst [v2])) := kpA.new hD2
  refine loop_rd (enc := Mb.enc) (R := PMem) (xs := [y]) (ys := x) (i := 1) rfl rfl (by decide +kernel) S hD kpB (S2.nw hD2) (by rw [e2]; exact hL) hz upd_same ?_ fun H5 k5 vs5 kp5 S5 e5 hD5 hR5 => ?_
  · refine RpL.cons ((D2.fresh hD2 kp1).upd (.inl (.inr rfl))) .nil
  obtain ⟨dx5, m5, hp5, _⟩ := S5.ob
  refine ⟨_, rfl, _, _, _, rfl, hp5, fl_meth _ _ _ _ (by decide +kernel), p, L, all, k5, r, _, rfl, S5, e5, fun H6 kp6 S6 => ?_⟩
  exact ⟨_, rfl, q _ _ (k5 + 1) (kp5.trans kp6) S6 (drop_at e5).2.2 (((hR5.kp kp6 fun b e => .inl (mp_dom S.ne b e)).weak fun b e => .inl e).lst' (kp6.oth D _ hD5 hpD) fun z => z hD)⟩
theorem ok_choices (G_m_choice : FnOk P w K mg base CX0 19 T.m_choice.f T.m_choice.fd P_m_choice (spRd T.C Ch.enc PCho)) : FnOk P w K mg base CX0 20 T.m_choices.f T.m_choices.fd P_m_choices (spRd T.C (fun cs : List Ch => .list (cs.map Ch.enc)) PChs) := by
  refine T.m_choices.F.ok sc_m_choices (fun vs H Q E h => ?_) (fun cdv A outer s H vs Q E hr h => ?_)
  · obtain ⟨p, L, all, k, x, r, rfl, _⟩ := h
    rfl
  obtain ⟨p, L, all, k, x, r, rfl, S, ⟨n0, r0, y, r1, hd, hM, hL, hz⟩, q⟩ := h
  obtain ⟨dx, m, hp, h0, h4⟩ := S.ob
  refine ⟨_, (pss_cons (ps_expr (pe_meth (pv 0) T.cl T.m_take.m G_m_take (hr.mono (by omega)) T.m_take.b .nil pass0 (pa_cons pe_str pa_nil)))
      (pss_cons (ps_set (i := 1) sc_m_choices.nd rfl (Or.inl rfl) (pe_lst (pa_cons (pe_meth0 (pv 0) T.cl T.m_choice.m G_m_choice (hr.mono (by omega)) T.m_choice.b .nil pass0) pa_nil)))
      (pss_cons (ps_while PassesOwn.never (pt_val (pe_meth (pv 0) T.cl T.m_skip.m G_m_skip (hr.mono (by omega)) T.m_skip.b .nil pass0 (pa_cons pe_str pa_nil))) (pss_one (ps_expr (pe_bm PySem.F.plainAttrs_list PySem.F.slot_list_append PySem.F.type_list_append mt_append (pv 1) (pa_cons (pe_meth0 (pv 0) T.cl T.m_choice.m G_m_choice (hr.mono (by omega)) T.m_choice.b .nil pass0) pa_nil)))))
      (pss_cons (ps_expr (pe_meth (pv 0) T.cl T.m_take.m G_m_take (hr.mono (by omega)) T.m_take.b .nil pass0 (pa_cons pe_str pa_nil)))
      (pss_one (ps_ret (pv 1))))))), ?_⟩
  refine ⟨_, rfl, _, _, _, rfl, hp, fl_meth _ _ _ _ (by decide +kernel), p, L, all, k, r0, _, rfl, S, hd, fun H1 kp1 S1 => ?_⟩
  obtain ⟨dx1, m1, hp1, _⟩ := S1.ob
  refine ⟨_, rfl, _, _, _, rfl, hp1, fl_meth _ _ _ _ (by decide +kernel), p, L, all, k + 1, y, r1, rfl, S1, (by rw [(drop_at hd).2.2]; exact hM), fun v2 H2 k2 kp2 S2 e2 D2 => ⟨sz1, fun D hD2 => ?_⟩⟩
  have kpA := kp1.trans kp2
  have hD : H D = none := kpA.free hD2
  have hpD : D ≠ p := fun z => S.ne (by rw [← z]; exact hD)
  have kpB : Kp (Mp p) H (upd H2 D (.lst [v2])) := kpA.new hD2
  refine loop_rd (enc := Ch.enc) (R := PCho) (xs := [y]) (ys := x) (i := 1) rfl rfl (by decide +kernel) S hD kpB (S2.nw hD2) (by rw [e2]; exact hL) hz upd_same ?_ fun H5 k5 vs5 kp5 S5 e5 hD5 hR5 => ?_
  · refine RpL.cons ((D2.fresh hD2 kp1).upd (.inl (.inr rfl))) .nil
  obtain ⟨dx5, m5, hp5, _⟩ := S5.ob
  refine ⟨_, rfl, _, _, _, rfl, hp5, fl_meth _ _ _ _ (by decide +kernel), p, L, all, k5, r, _, rfl, S5, e5, fun H6 kp6 S6 => ?_⟩
  exact ⟨_, rfl, q _ _ (k5 + 1) (kp5.trans kp6) S6 (drop_at e5).2.2 (((hR5.kp kp6 fun b e => .inl (mp_dom S.ne b e)).weak fun b e => .inl e).lst' (kp6.oth D _ hD5 hpD) fun z => z hD)⟩
theorem ok_part (G_m_condition : FnOk P w K mg base CX0 17 T.m_condition.f T.m_condition.fd P_m_condition (spRd T.C Cd.enc PCnd)) (G_m_members : FnOk P w K mg base CX0 20 T.m_members.f T.m_members.fd P_m_members (spRd T.C (fun ms : List Mb => .list (ms.map Mb.enc)) PMms)) : FnOk P w K mg base CX0 21 T.m_part.f T.m_part.fd P_m_part (spRd T.C Pt.enc PPrt) := by
  refine T.m_part.F.ok sc_m_part (fun vs H Q E h => ?_) (fun cdv A outer s H vs Q E hr h => ?_)
  · obtain ⟨p, L, all, k, x, r, rfl, _⟩ := h
    rfl
  obtain ⟨p, L, all, k, x, r, rfl, S, hR, q⟩ := h
  obtain ⟨dx, m, hp, h0, h4⟩ := S.ob
  refine ⟨_, (pss_cons (ps_if (PW.pt (pw_and (pt_cmpR op_eq (pe_meth0 (pv 0) T.cl T.m_kind.m G_m_kind (hr.mono (by omega)) T.m_kind.b .nil pass0) pe_str (nomark _)) (pw_and1 (pt_cmpR op_eq (pe_meth0 (pv 0) T.cl T.m_peek.m G_m_peek (hr.mono (by omega)) T.m_peek.b0 T.m_peek.v0 pass0) pe_str (nomark _))))) (pss_cons (ps_fldaug (pv 0) pe_int in_add)
      (pss_cons (ps_set (i := 1) sc_m_part.nd rfl (Or.inl rfl) (pe_meth0 (pv 0) T.cl T.m_members.m G_m_members (hr.mono (by omega)) T.m_members.b .nil pass0))
      (pss_cons (ps_if (PW.pt (pw_and (pt_not (pt_val (pe_meth (pv 0) T.cl T.m_is_sign.m G_m_is_sign (hr.mono (by omega)) T.m_is_sign.b .nil pass0 (pa_cons pe_str pa_nil)))) (pw_and1 (pt_not (pt_val (pe_meth (pv 0) T.cl T.m_is_sign.m G_m_is_sign (hr.mono (by omega)) T.m_is_sign.b .nil pass0 (pa_cons pe_str pa_nil))))))) (pss_one ps_never) pss_nil)
      (pss_cons (ps_set (i := 2) sc_m_part.nd rfl (Or.inl rfl) (pe_meth0 (pv 0) T.cl T.m_peek.m G_m_peek (hr.mono (by omega)) T.m_peek.b0 T.m_peek.v0 pass0))
      (pss_cons (ps_fldaug (pv 0) pe_int in_add)
      (pss_one (ps_ret (pe_tup (pa_cons pe_str (pa_cons (pv 2) (pa_cons (pv 1) (pa_cons (pe_meth0 (pv 0) T.cl T.m_term.m G_m_term (hr.mono (by omega)) T.m_term.b .nil pass0) pa_nil)))))))))))) pss_nil)
      (pss_one (ps_ret (pe_meth0 (pv 0) T.cl T.m_condition.m G_m_condition (hr.mono (by omega)) T.m_condition.b .nil pass0)))), ?_⟩
  rcases hR with ⟨r0, ms, g, r1, t, hd, hM, hg, hT, rfl⟩ | ⟨t, r0, c, hd, hn, hC, rfl⟩
  · refine ⟨_, rfl, _, _, _, rfl, hp, fl_meth _ _ _ _ (by decide +kernel), p, L, all, k, _, _, rfl, S, hd, rfl, _, rfl, ?_⟩
    refine iT (decide_eq_true rfl) ?_
    refine ⟨_, rfl, _, _, _, rfl, hp, fl_meth _ _ _ _ (by decide +kernel), p, L, all, k, 0, _, rfl, S, (drop_at hd).2.1, rfl, _, rfl, ?_⟩
    refine iT (decide_eq_true rfl) ?_
    obtain ⟨kp1, S1⟩ := S.adv hp h0 h4 (drop_at hd).1 rfl
    refine ⟨_, rfl, _, _, _, _, _, rfl, hp, T.cl, T.nAt, flds_at _ _ _, _, _, rfl, rfl, _, _, hp, fl_len _ _ _, ?_⟩
    obtain ⟨dx1, m1, hp1, _⟩ := S1.ob
    refine ⟨_, rfl, _, _, _, rfl, hp1, fl_meth _ _ _ _ (by decide +kernel), p, L, all, k + 1, ms, _, rfl, S1, (by rw [(drop_at hd).2.2]; exact hM), fun v2 H2 k2 kp2 S2 e2 D2 => ?_⟩
    obtain ⟨dx2, m2, hp2, h20, h24⟩ := S2.ob
    have back : ∀ (E : Ends), E.rt = Q → (tSeq (tAsg (tMeth T.C "peek" (spPeek T.C) [.int 0] E0 (tVar 0) tNil) (gName 2)) (tSeq (sFldAug K (tVar 0) (tC (.int 1)) rAdd "at") (tRet (tTup (tCons (tC (.str "sum")) (tCons (tVar 2) (tCons (tVar 1) (tCons (tMeth T.C "term" (spRd T.C Tm.enc PT4) [] E0 (tVar 0) tNil) tNil)))))))) E [some (.ref p), some v2, none] H2 := by
      intro E eE
      subst eE
      refine ⟨_, rfl, _, _, _, rfl, hp2, fl_meth _ _ _ _ (by decide +kernel), p, L, all, k2, 0, _, rfl, S2, (drop_at e2).2.1, ?_⟩
      obtain ⟨kp3, S3⟩ := S2.adv hp2 h20 h24 (drop_at e2).1 rfl
      refine ⟨_, rfl, _, _, _, _, _, rfl, hp2, T.cl, T.nAt, flds_at _ _ _, _, _, rfl, rfl, _, _, hp2, fl_len _ _ _, ?_⟩
      obtain ⟨dx3, m3, hp3, _⟩ := S3.ob
      refine ⟨_, rfl, _, rfl, _, rfl, _, _, _, rfl, hp3, fl_meth _ _ _ _ (by decide +kernel), p, L, all, k2 + 1, t, r, rfl, S3, (by rw [(drop_at e2).2.2]; exact hT), fun v4 H4 k4 kp4 S4 e4 D4 => ⟨sz4, fun u hu => ?_⟩⟩
      have kpB := (kp1.trans kp2).trans kp3
      have kpA := kpB.trans kp4
      exact q _ _ k4 (kpA.new hu) (S4.nw hu) e4 ((RpL.cons (.str _) (.cons (.str _) (.cons (((D2.dn kp1).up kp3 (mp_dom S.ne)).up kp4 (mp_dom S.ne)) (.cons (D4.dn kpB) .nil)))).mk kpA hu)
    rcases hg with rfl | rfl
    · refine ⟨_, rfl, _, _, _, rfl, hp2, fl_meth _ _ _ _ (by decide +kernel), p, L, all, k2, _, _, _, rfl, S2, e2, _, rfl, ?_⟩
      rw [decide_eq_true rfl]
      exact iteF (iteF (back _ rfl))
    · refine ⟨_, rfl, _, _, _, rfl, hp2, fl_meth _ _ _ _ (by decide +kernel), p, L, all, k2, _, _, _, rfl, S2, e2, _, rfl, ?_⟩
      rw [decide_eq_false (show ¬ tS "<=" = tS ">=" by decide +kernel)]
      refine iteT ?_
      refine ⟨_, rfl, _, _, _, rfl, hp2, fl_meth _ _ _ _ (by decide +kernel), p, L, all, k2, _, _, _, rfl, S2, e2, _, rfl, ?_⟩
      rw [decide_eq_true rfl]
      exact iteF (back _ rfl)
  · have fin : ∀ (E : Ends), E.rt = Q → tRet (tMeth T.C "condition" (spRd T.C Cd.enc PCnd) [] E0 (tVar 0) tNil) E [some (.ref p), none, none] H := fun E eE => by
      subst eE
      exact ⟨_, rfl, _, _, _, rfl, hp, fl_meth _ _ _ _ (by decide +kernel), p, L, all, k, c, r, rfl, S, hC, q⟩
    refine ⟨_, rfl, _, _, _, rfl, hp, fl_meth _ _ _ _ (by decide +kernel), p, L, all, k, _, _, rfl, S, hd, rfl, _, rfl, ?_⟩
    rw [dec_v]
    by_cases hk : t.1 = "name"
    · refine iT (decide_eq_true hk) ?_
      refine ⟨_, rfl, _, _, _, rfl, hp, fl_meth _ _ _ _ (by decide +kernel), p, L, all, k, 0, _, rfl, S, (drop_at hd).2.1, rfl, _, rfl, ?_⟩
      rw [dec_v]
      exact iF (decide_eq_false fun z => hn ⟨hk, z⟩) (fin _ rfl)
    · exact iF (decide_eq_false hk) (iteF (fin _ rfl))
theorem ok_body (G_m_part : FnOk P w K mg base CX0 21 T.m_part.f T.m_part.fd P_m_part (spRd T.C Pt.enc PPrt)) : FnOk P w K mg base CX0 22 T.m_body.f T.m_body.fd P_m_body (spRd T.C (fun b : List Pt => .list (b.map Pt.enc)) PBod) := by
  refine T.m_body.F.ok sc_m_body (fun vs H Q E h => ?_) (fun cdv A outer s H vs Q E hr h => ?_)
  · obtain ⟨p, L, all, k, x, r, rfl, _⟩ := h
    rfl
  obtain ⟨p, L, all, k, x, r, rfl, S, ⟨n0, y, r1, hM, hL, hz⟩, q⟩ := h
  obtain ⟨dx, m, hp, h0, h4⟩ := S.ob
  refine ⟨_, (pss_cons (ps_set (i := 1) sc_m_body.nd rfl (Or.inl rfl) (pe_lst (pa_cons (pe_meth0 (pv 0) T.cl T.m_part.m G_m_part (hr.mono (by omega)) T.m_part.b .nil pass0) pa_nil)))
      (pss_cons (ps_while PassesOwn.never (pt_val (pe_meth (pv 0) T.cl T.m_skip.m G_m_skip (hr.mono (by omega)) T.m_skip.b .nil pass0 (pa_cons pe_str pa_nil))) (pss_one (ps_expr (pe_bm PySem.F.plainAttrs_list PySem.F.slot_list_append PySem.F.type_list_append mt_append (pv 1) (pa_cons (pe_meth0 (pv 0) T.cl T.m_part.m G_m_part (hr.mono (by omega)) T.m_part.b .nil pass0) pa_nil)))))
      (pss_one (ps_ret (pv 1))))), ?_⟩
  refine ⟨_, rfl, _, _, _, rfl, hp, fl_meth _ _ _ _ (by decide +kernel), p, L, all, k, y, r1, rfl, S, hM, fun v2 H2 k2 kp2 S2 e2 D2 => ⟨sz1, fun D hD2 => ?_⟩⟩
  have hD : H D = none := kp2.free hD2
  have hpD : D ≠ p := fun z => S.ne (by rw [← z]; exact hD)
  have kpB : Kp (Mp p) H (upd H2 D (.lst [v2])) := kp2.new hD2
  refine loop_rd (enc := Pt.enc) (R := PPrt) (xs := [y]) (ys := x) (i := 1) rfl rfl (by decide +kernel) S hD kpB (S2.nw hD2) (by rw [e2]; exact hL) hz upd_same ?_ fun H5 k5 vs5 kp5 S5 e5 hD5 hR5 => ?_
  · refine RpL.cons ((D2.fresh hD2 (Kp.refl (M := Mp p))).upd (.inl (.inr rfl))) .nil
  exact ⟨_, rfl, q _ _ k5 kp5 S5 e5 ((hR5.weak fun b e => .inl e).lst' hD5 fun z => z hD)⟩
theorem ok_optional_body (G_m_body : FnOk P w K mg base CX0 22 T.m_body.f T.m_body.fd P_m_body (spRd T.C (fun b : List Pt => .list (b.map Pt.enc)) PBod)) : FnOk P w K mg base CX0 23 T.m_optional_body.f T.m_optional_body.fd P_m_optional_body (spRd T.C (fun b : List Pt => .list (b.map Pt.enc)) POpb) := by
  refine T.m_optional_body.F.ok sc_m_optional_body (fun vs H Q E h => ?_) (fun cdv A outer s H vs Q E hr h => ?_)
  · obtain ⟨p, L, all, k, x, r, rfl, _⟩ := h
    rfl
  obtain ⟨p, L, all, k, x, r, rfl, S, hR, q⟩ := h
  obtain ⟨dx, m, hp, h0, h4⟩ := S.ob
  refine ⟨_, (pss_cons (ps_if (pt_val (pe_meth (pv 0) T.cl T.m_skip.m G_m_skip (hr.mono (by omega)) T.m_skip.b .nil pass0 (pa_cons pe_str pa_nil))) (pss_one (ps_ret (pe_meth0 (pv 0) T.cl T.m_body.m G_m_body (hr.mono (by omega)) T.m_body.b .nil pass0))) pss_nil)
      (pss_one (ps_ret (pe_lst pa_nil)))), ?_⟩
  rcases hR with ⟨rfl, rfl, hn⟩ | ⟨r0, hd, hB⟩
  · obtain ⟨t, r2, e, ht⟩ := hn
    refine ⟨_, rfl, _, _, _, rfl, hp, fl_meth _ _ _ _ (by decide +kernel), p, L, all, k, _, _, _, rfl, S, e, (fun z => absurd z ht), fun _ => ⟨_, rfl, iteF ?_⟩⟩
    refine ⟨sz0, fun D hD => ?_⟩
    exact q _ _ k (Kp.refl.new hD) (S.nw hD) rfl (RpL.nil.lst' upd_same fun z => z hD)
  · refine ⟨_, rfl, _, _, _, rfl, hp, fl_meth _ _ _ _ (by decide +kernel), p, L, all, k, _, _, _, rfl, S, hd, (fun _ H3 kp3 S3 => ?_), fun z => absurd rfl z⟩
    obtain ⟨dx3, m3, hp3, _⟩ := S3.ob
    refine ⟨_, rfl, iteT ?_⟩
    exact ⟨_, rfl, _, _, _, rfl, hp3, fl_meth _ _ _ _ (by decide +kernel), p, L, all, k + 1, x, r, rfl, S3, (by rw [(drop_at hd).2.2]; exact hB), fun v4 H4 k4 kp4 S4 e4 D4 => q _ _ k4 (kp3.trans kp4) S4 e4 (D4.dn kp3)⟩
end
end Kt
/-! K10: choose statements, statements -/
namespace Kt
open PySem L2
theorem fOI {k : Str} (h : k ≠ "int") : decide (V.str k = V.str "int") = false := by rw [dec_v]; exact decide_eq_false h
theorem oI_rp {B : Addr → Prop} {H : Hp} : ∀ o : Option Int, Rp B H (match o with | none => .non | some n => .int n) (oI o)
  | none => .non
  | some n => .int n
def oV : Option Int → V
  | none => .non
  | some n => .int n
theorem oV_rp {B : Addr → Prop} {H : Hp} : ∀ o : Option Int, Rp B H (oV o) (oI o)
  | none => .non
  | some n => .int n
theorem nSgB {t : Tk} (h : t.1 = "int") : t ≠ tS ":-" := fun e => by
  have z : ("sign" : Str) = "int" := by rw [← h, e]
  exact absurd z (by decide +kernel)
section
variable {P : Program} {w : World} {K : PySem.W.Frag} {mg : Str → Option Value} {base : Heap} (T : Txt K mg)
variable (G_m_kind : FnOk P w K mg base CX0 1 T.m_kind.f T.m_kind.fd P_m_kind (spKind T.C)) (G_m_peek : FnOk P w K mg base CX0 1 T.m_peek.f T.m_peek.fd P_m_peek (spPeek T.C)) (G_m_is_sign : FnOk P w K mg base CX0 2 T.m_is_sign.f T.m_is_sign.fd P_m_is_sign (spIs T.C))
  (G_m_skip : FnOk P w K mg base CX0 3 T.m_skip.f T.m_skip.fd P_m_skip (spSkip T.C)) (G_m_take : FnOk P w K mg base CX0 3 T.m_take.f T.m_take.fd P_m_take (spTake T.C)) (G_m_word : FnOk P w K mg base CX0 2 T.m_word.f T.m_word.fd P_m_word (spWord T.C)) (G_m_integer : FnOk P w K mg base CX0 3 T.m_integer.f T.m_integer.fd P_m_integer (spInt T.C))
  (G_m_term : FnOk P w K mg base CX0 15 T.m_term.f T.m_term.fd P_m_term (spRd T.C Tm.enc PT4))
include T G_m_kind G_m_peek G_m_is_sign G_m_skip G_m_take G_m_word G_m_integer G_m_term
theorem ok_choose (G_m_choices : FnOk P w K mg base CX0 20 T.m_choices.f T.m_choices.fd P_m_choices (spRd T.C (fun cs : List Ch => .list (cs.map Ch.enc)) PChs)) (G_m_optional_body : FnOk P w K mg base CX0 23 T.m_optional_body.f T.m_optional_body.fd P_m_optional_body (spRd T.C (fun b : List Pt => .list (b.map Pt.enc)) POpb)) : FnOk P w K mg base CX0 24 T.m_choose.f T.m_choose.fd P_m_choose (spRd T.C (fun c : Cz => c.sm.enc) PChz) := by
  refine T.m_choose.F.ok sc_m_choose (fun vs H Q E h => ?_) (fun cdv A outer s H vs Q E hr h => ?_)
  · obtain ⟨p, L, all, k, x, r, rfl, _⟩ := h
    rfl
  obtain ⟨p, L, all, k, x, r, rfl, S, ⟨r1, r2, r3, h1, h2, h3, h4b⟩, q⟩ := h
  obtain ⟨dx, m, hp, h0, h4⟩ := S.ob
  refine ⟨_, (pss_cons (ps_set (i := 1) sc_m_choose.nd rfl (Or.inl rfl) pe_non)
      (pss_cons (ps_set (i := 2) sc_m_choose.nd rfl (Or.inl rfl) pe_non)
      (pss_cons (ps_if (pt_cmpR op_eq (pe_meth0 (pv 0) T.cl T.m_kind.m G_m_kind (hr.mono (by omega)) T.m_kind.b .nil pass0) pe_str (nomark _)) (pss_one (ps_set (i := 1) sc_m_choose.nd rfl (Or.inl rfl) (pe_meth0 (pv 0) T.cl T.m_integer.m G_m_integer (hr.mono (by omega)) T.m_integer.b .nil pass0))) pss_nil)
      (pss_cons (ps_set (i := 3) sc_m_choose.nd rfl (Or.inl rfl) (pe_meth0 (pv 0) T.cl T.m_choices.m G_m_choices (hr.mono (by omega)) T.m_choices.b .nil pass0))
      (pss_cons (ps_if (pt_cmpR op_eq (pe_meth0 (pv 0) T.cl T.m_kind.m G_m_kind (hr.mono (by omega)) T.m_kind.b .nil pass0) pe_str (nomark _)) (pss_one (ps_set (i := 2) sc_m_choose.nd rfl (Or.inl rfl) (pe_meth0 (pv 0) T.cl T.m_integer.m G_m_integer (hr.mono (by omega)) T.m_integer.b .nil pass0))) pss_nil)
      (pss_one (ps_ret (pe_tup (pa_cons pe_str (pa_cons (pv 1) (pa_cons (pv 3) (pa_cons (pv 2) (pa_cons (pe_meth0 (pv 0) T.cl T.m_optional_body.m G_m_optional_body (hr.mono (by omega)) T.m_optional_body.b .nil pass0) pa_nil))))))))))))), ?_⟩
  obtain ⟨lo, cs, hi, b⟩ := x
  -- from the optional body on
  have c3 : ∀ (E : Ends) H1 k1 v, E.rt = Q → Kp (Mp p) H H1 → PaAt T.C H1 p L all k1 → all.drop k1 = r3 → Rp (dom H) H1 v (.list (cs.map Ch.enc)) →
      tRet (tTup (tCons (tC (.str "choose")) (tCons (tVar 1) (tCons (tVar 3) (tCons (tVar 2) (tCons (tMeth T.C "optional_body" (spRd T.C (fun b : List Pt => .list (b.map Pt.enc)) POpb) [] E0 (tVar 0) tNil) tNil)))))) E [some (.ref p), some (oV lo), some (oV hi), some v] H1 := by
    intro E H1 k1 v eE kp1 S1 e1 D1
    subst eE
    obtain ⟨dx1, m1, hp1, _⟩ := S1.ob
    refine ⟨_, rfl, _, rfl, _, rfl, _, rfl, _, _, _, rfl, hp1, fl_meth _ _ _ _ (by decide +kernel), p, L, all, k1, b, r, rfl, S1, (by rw [e1]; exact h4b), fun v2 H2 k2 kp2 S2 e2 D2 => ⟨sz5, fun t ht => ?_⟩⟩
    have kpA := kp1.trans kp2
    exact q _ _ k2 (kpA.new ht) (S2.nw ht) e2 ((RpL.cons (.str _) (.cons (oV_rp lo) (.cons (D1.up kp2 (mp_dom S.ne)) (.cons (oV_rp hi) (.cons (D2.dn kp1) .nil))))).mk kpA ht)
  -- from the high bound on
  have c2 : ∀ (E : Ends) H1 k1 v, E.rt = Q → Kp (Mp p) H H1 → PaAt T.C H1 p L all k1 → all.drop k1 = r2 → Rp (dom H) H1 v (.list (cs.map Ch.enc)) →
      tSeq (tIfS (tTest (tOp rEq (tMeth T.C "kind" (spKind T.C) [] E0 (tVar 0) tNil) (tC (.str "int")))) (tAsg (tMeth T.C "integer" (spInt T.C) [] E0 (tVar 0) tNil) (gName 2)) tNext) (tRet (tTup (tCons (tC (.str "choose")) (tCons (tVar 1) (tCons (tVar 3) (tCons (tVar 2) (tCons (tMeth T.C "optional_body" (spRd T.C (fun b : List Pt => .list (b.map Pt.enc)) POpb) [] E0 (tVar 0) tNil) tNil))))))) E [some (.ref p), some (oV lo), some .non, some v] H1 := by
    intro E H1 k1 v eE kp1 S1 e1 D1
    obtain ⟨dx1, m1, hp1, _⟩ := S1.ob
    rcases h3 with ⟨rfl, rfl, t, r0, et, ht⟩ | ⟨n, rfl, z, et, hn, hz⟩
    · refine ⟨_, rfl, _, _, _, rfl, hp1, fl_meth _ _ _ _ (by decide +kernel), p, L, all, k1, _, _, rfl, S1, e1.trans et, rfl, _, rfl, ?_⟩
      exact iF (fOI ht) (c3 E H1 k1 v eE kp1 S1 e1 D1)
    · refine ⟨_, rfl, _, _, _, rfl, hp1, fl_meth _ _ _ _ (by decide +kernel), p, L, all, k1, _, _, rfl, S1, e1.trans et, rfl, _, rfl, ?_⟩
      refine iT (decide_eq_true rfl) ?_
      refine ⟨_, rfl, _, _, _, rfl, hp1, fl_meth _ _ _ _ (by decide +kernel), p, L, all, k1, r3, z, n, rfl, S1, e1.trans et, hn, hz, fun H2 kp2 S2 => ?_⟩
      exact c3 E H2 (k1 + 1) v eE (kp1.trans kp2) S2 (drop_at (e1.trans et)).2.2 (D1.up kp2 (mp_dom S.ne))
  have c1 : ∀ (E : Ends) H1 k1, E.rt = Q → Kp (Mp p) H H1 → PaAt T.C H1 p L all k1 → all.drop k1 = r1 →
      tSeq (tAsg (tMeth T.C "choices" (spRd T.C (fun cs : List Ch => .list (cs.map Ch.enc)) PChs) [] E0 (tVar 0) tNil) (gName 3)) (tSeq (tIfS (tTest (tOp rEq (tMeth T.C "kind" (spKind T.C) [] E0 (tVar 0) tNil) (tC (.str "int")))) (tAsg (tMeth T.C "integer" (spInt T.C) [] E0 (tVar 0) tNil) (gName 2)) tNext) (tRet (tTup (tCons (tC (.str "choose")) (tCons (tVar 1) (tCons (tVar 3) (tCons (tVar 2) (tCons (tMeth T.C "optional_body" (spRd T.C (fun b : List Pt => .list (b.map Pt.enc)) POpb) [] E0 (tVar 0) tNil) tNil)))))))) E [some (.ref p), some (oV lo), some .non, none] H1 := by
    intro E H1 k1 eE kp1 S1 e1
    obtain ⟨dx1, m1, hp1, _⟩ := S1.ob
    refine ⟨_, rfl, _, _, _, rfl, hp1, fl_meth _ _ _ _ (by decide +kernel), p, L, all, k1, cs, r2, rfl, S1, (by rw [e1]; exact h2), fun v2 H2 k2 kp2 S2 e2 D2 => ?_⟩
    exact c2 E H2 k2 v2 eE (kp1.trans kp2) S2 e2 (D2.dn kp1)
  rcases h1 with ⟨e, rfl, t, r0, et, ht⟩ | ⟨n, e, z, et, hn, hz⟩
  · have e' : lo = none := e
    subst e'
    refine ⟨_, rfl, _, _, _, rfl, hp, fl_meth _ _ _ _ (by decide +kernel), p, L, all, k, _, _, rfl, S, et, rfl, _, rfl, ?_⟩
    exact iF (fOI ht) (c1 _ H k rfl Kp.refl S rfl)
  · have e' : lo = some n := e
    subst e'
    refine ⟨_, rfl, _, _, _, rfl, hp, fl_meth _ _ _ _ (by decide +kernel), p, L, all, k, _, _, rfl, S, et, rfl, _, rfl, ?_⟩
    refine iT (decide_eq_true rfl) ?_
    refine ⟨_, rfl, _, _, _, rfl, hp, fl_meth _ _ _ _ (by decide +kernel), p, L, all, k, r1, z, n, rfl, S, et, hn, hz, fun H2 kp2 S2 => ?_⟩
    exact c1 _ H2 (k + 1) rfl kp2 S2 (drop_at et).2.2
theorem ok_statement (G_m_choose : FnOk P w K mg base CX0 24 T.m_choose.f T.m_choose.fd P_m_choose (spRd T.C (fun c : Cz => c.sm.enc) PChz)) (G_m_optional_body : FnOk P w K mg base CX0 23 T.m_optional_body.f T.m_optional_body.fd P_m_optional_body (spRd T.C (fun b : List Pt => .list (b.map Pt.enc)) POpb)) (G_m_body : FnOk P w K mg base CX0 22 T.m_body.f T.m_body.fd P_m_body (spRd T.C (fun b : List Pt => .list (b.map Pt.enc)) PBod)) (G_m_members : FnOk P w K mg base CX0 20 T.m_members.f T.m_members.fd P_m_members (spRd T.C (fun ms : List Mb => .list (ms.map Mb.enc)) PMms)) (G_m_atom : FnOk P w K mg base CX0 16 T.m_atom.f T.m_atom.fd P_m_atom (spRd T.C Am.enc PAtm)) : FnOk P w K mg base CX0 25 T.m_statement.f T.m_statement.fd P_m_statement (spRd T.C Sm.enc PStm) := by
  refine T.m_statement.F.ok sc_m_statement (fun vs H Q E h => ?_) (fun cdv A outer s H vs Q E hr h => ?_)
  · obtain ⟨p, L, all, k, x, r, rfl, _⟩ := h
    rfl
  obtain ⟨p, L, all, k, x, r, rfl, S, hR, q⟩ := h
  obtain ⟨dx, m, hp, h0, h4⟩ := S.ob
  refine ⟨_, (pss_cons (ps_if (pt_val (pe_meth (pv 0) T.cl T.m_skip.m G_m_skip (hr.mono (by omega)) T.m_skip.b .nil pass0 (pa_cons pe_str pa_nil))) (pss_one (ps_set (i := 1) sc_m_statement.nd rfl (Or.inl rfl) (pe_tup (pa_cons pe_str (pa_cons (pe_meth0 (pv 0) T.cl T.m_body.m G_m_body (hr.mono (by omega)) T.m_body.b .nil pass0) pa_nil))))) (pss_one (ps_if (PW.pt (pw_and (pt_cmpR op_eq (pe_meth0 (pv 0) T.cl T.m_kind.m G_m_kind (hr.mono (by omega)) T.m_kind.b .nil pass0) pe_str (nomark _)) (pw_and1 (pt_cmpR op_eq (pe_meth0 (pv 0) T.cl T.m_peek.m G_m_peek (hr.mono (by omega)) T.m_peek.b0 T.m_peek.v0 pass0) pe_str (nomark _))))) (pss_cons (ps_fldaug (pv 0) pe_int in_add)
      (pss_cons (ps_set (i := 2) sc_m_statement.nd rfl (Or.inl rfl) (pe_meth0 (pv 0) T.cl T.m_integer.m G_m_integer (hr.mono (by omega)) T.m_integer.b .nil pass0))
      (pss_one (ps_set (i := 1) sc_m_statement.nd rfl (Or.inl rfl) (pe_tup (pa_cons pe_str (pa_cons (pv 2) (pa_cons (pe_meth0 (pv 0) T.cl T.m_integer.m G_m_integer (hr.mono (by omega)) T.m_integer.b .nil pass0) pa_nil)))))))) (pss_one (ps_if (PW.pt (pw_and (pt_cmpR op_eq (pe_meth0 (pv 0) T.cl T.m_kind.m G_m_kind (hr.mono (by omega)) T.m_kind.b .nil pass0) pe_str (nomark _)) (pw_and1 (pt_cmpR op_eq (pe_meth0 (pv 0) T.cl T.m_peek.m G_m_peek (hr.mono (by omega)) T.m_peek.b0 T.m_peek.v0 pass0) pe_str (nomark _))))) (pss_cons (ps_fldaug (pv 0) pe_int in_add)
      (pss_one (ps_set (i := 1) sc_m_statement.nd rfl (Or.inl rfl) (pe_tup (pa_cons pe_str (pa_cons (pe_meth0 (pv 0) T.cl T.m_members.m G_m_members (hr.mono (by omega)) T.m_members.b .nil pass0) pa_nil)))))) (pss_one (ps_if (PW.pt (pw_or (pt_cmpR op_eq (pe_meth0 (pv 0) T.cl T.m_kind.m G_m_kind (hr.mono (by omega)) T.m_kind.b .nil pass0) pe_str (nomark _)) (pw_or1 (pt_val (pe_meth (pv 0) T.cl T.m_is_sign.m G_m_is_sign (hr.mono (by omega)) T.m_is_sign.b .nil pass0 (pa_cons pe_str pa_nil)))))) (pss_one (ps_set (i := 1) sc_m_statement.nd rfl (Or.inl rfl) (pe_meth0 (pv 0) T.cl T.m_choose.m G_m_choose (hr.mono (by omega)) T.m_choose.b .nil pass0))) (pss_cons (ps_set (i := 3) sc_m_statement.nd rfl (Or.inl rfl) (pe_meth0 (pv 0) T.cl T.m_atom.m G_m_atom (hr.mono (by omega)) T.m_atom.b .nil pass0))
      (pss_one (ps_set (i := 1) sc_m_statement.nd rfl (Or.inl rfl) (pe_tup (pa_cons pe_str (pa_cons (pv 3) (pa_cons (pe_meth0 (pv 0) T.cl T.m_optional_body.m G_m_optional_body (hr.mono (by omega)) T.m_optional_body.b .nil pass0) pa_nil))))))))))))))
      (pss_cons (ps_expr (pe_meth (pv 0) T.cl T.m_take.m G_m_take (hr.mono (by omega)) T.m_take.b .nil pass0 (pa_cons pe_str pa_nil)))
      (pss_one (ps_ret (pv 1))))), ?_⟩
  have fin : ∀ (E : Ends) H1 k1 v c d, E.rt = Q → Kp (Mp p) H H1 → PaAt T.C H1 p L all k1 → all.drop k1 = tS "." :: r → Rp (dom H) H1 v x.enc →
      tSeq (tDrop (tMeth T.C "take" (spTake T.C) [] E0 (tVar 0) (tCons (tC (.str ".")) tNil))) (tRet (tVar 1)) E [some (.ref p), some v, c, d] H1 := by
    intro E H1 k1 v c d eE kp1 S1 e1 D1
    subst eE
    obtain ⟨dx1, m1, hp1, _⟩ := S1.ob
    refine ⟨_, rfl, _, _, _, rfl, hp1, fl_meth _ _ _ _ (by decide +kernel), p, L, all, k1, r, _, rfl, S1, e1, fun H2 kp2 S2 => ?_⟩
    exact ⟨_, rfl, q _ _ (k1 + 1) (kp1.trans kp2) S2 (drop_at e1).2.2 (D1.up kp2 (mp_dom S.ne))⟩
  rcases hR with ⟨r0, b, hd, hB, rfl⟩ | ⟨r0, r1, lo, hi, hd, ⟨z1, et1, hn1, hz1⟩, ⟨z2, et2, hn2, hz2⟩, rfl⟩ | ⟨r0, ms, hd, hM, rfl⟩ | ⟨t, r0, c, hd, ht, hC, rfl⟩ | ⟨n, r0, a, r1, b, hd, hk, hA, hB, rfl⟩
  · refine ⟨_, rfl, _, _, _, rfl, hp, fl_meth _ _ _ _ (by decide +kernel), p, L, all, k, _, _, _, rfl, S, hd, (fun _ H3 kp3 S3 => ?_), fun z => absurd rfl z⟩
    obtain ⟨dx3, m3, hp3, _⟩ := S3.ob
    refine ⟨_, rfl, iteT ?_⟩
    refine ⟨_, rfl, _, _, _, rfl, hp3, fl_meth _ _ _ _ (by decide +kernel), p, L, all, k + 1, b, _, rfl, S3, (by rw [(drop_at hd).2.2]; exact hB), fun v4 H4 k4 kp4 S4 e4 D4 => ⟨sz2, fun u hu => ?_⟩⟩
    have kpA := kp3.trans kp4
    exact fin _ _ k4 _ _ _ rfl (kpA.new hu) (S4.nw hu) e4 ((RpL.cons (.str _) (.cons (D4.dn kp3) .nil)).mk kpA hu)
  · refine ⟨_, rfl, _, _, _, rfl, hp, fl_meth _ _ _ _ (by decide +kernel), p, L, all, k, _, _, _, rfl, S, hd, (fun z => absurd (congrArg Prod.fst z) fNS), fun _ => ⟨_, rfl, iteF ?_⟩⟩
    refine ⟨_, rfl, _, _, _, rfl, hp, fl_meth _ _ _ _ (by decide +kernel), p, L, all, k, _, _, rfl, S, hd, rfl, _, rfl, ?_⟩
    refine iT (decide_eq_true rfl) ?_
    refine ⟨_, rfl, _, _, _, rfl, hp, fl_meth _ _ _ _ (by decide +kernel), p, L, all, k, 0, _, rfl, S, (drop_at hd).2.1, rfl, _, rfl, ?_⟩
    refine iT (decide_eq_true rfl) ?_
    obtain ⟨kp1, S1⟩ := S.adv hp h0 h4 (drop_at hd).1 rfl
    refine ⟨_, rfl, _, _, _, _, _, rfl, hp, T.cl, T.nAt, flds_at _ _ _, _, _, rfl, rfl, _, _, hp, fl_len _ _ _, ?_⟩
    obtain ⟨dx1, m1, hp1, _⟩ := S1.ob
    refine ⟨_, rfl, _, _, _, rfl, hp1, fl_meth _ _ _ _ (by decide +kernel), p, L, all, k + 1, r1, z1, lo, rfl, S1, (drop_at hd).2.2.trans et1, hn1, hz1, fun H2 kp2 S2 => ?_⟩
    obtain ⟨dx2, m2, hp2, _⟩ := S2.ob
    refine ⟨_, rfl, _, rfl, _, _, _, rfl, hp2, fl_meth _ _ _ _ (by decide +kernel), p, L, all, k + 1 + 1, _, z2, hi, rfl, S2, (drop_at ((drop_at hd).2.2.trans et1)).2.2.trans et2, hn2, hz2, fun H3 kp3 S3 => ⟨sz3, fun u hu => ?_⟩⟩
    have kpA := (kp1.trans kp2).trans kp3
    exact fin _ _ _ _ _ _ rfl (kpA.new hu) (S3.nw hu) (drop_at ((drop_at ((drop_at hd).2.2.trans et1)).2.2.trans et2)).2.2 ((RpL.cons (.str _) (.cons (.int _) (.cons (.int _) .nil))).mk kpA hu)
  · refine ⟨_, rfl, _, _, _, rfl, hp, fl_meth _ _ _ _ (by decide +kernel), p, L, all, k, _, _, _, rfl, S, hd, (fun z => absurd (congrArg Prod.fst z) fNS), fun _ => ⟨_, rfl, iteF ?_⟩⟩
    refine ⟨_, rfl, _, _, _, rfl, hp, fl_meth _ _ _ _ (by decide +kernel), p, L, all, k, _, _, rfl, S, hd, rfl, _, rfl, ?_⟩
    refine iT (decide_eq_true rfl) ?_
    refine ⟨_, rfl, _, _, _, rfl, hp, fl_meth _ _ _ _ (by decide +kernel), p, L, all, k, 0, _, rfl, S, (drop_at hd).2.1, rfl, _, rfl, ?_⟩
    refine iF (by decide +kernel) ?_
    refine ⟨_, rfl, _, _, _, rfl, hp, fl_meth _ _ _ _ (by decide +kernel), p, L, all, k, _, _, rfl, S, hd, rfl, _, rfl, ?_⟩
    refine iT (decide_eq_true rfl) ?_
    refine ⟨_, rfl, _, _, _, rfl, hp, fl_meth _ _ _ _ (by decide +kernel), p, L, all, k, 0, _, rfl, S, (drop_at hd).2.1, rfl, _, rfl, ?_⟩
    refine iT (decide_eq_true rfl) ?_
    obtain ⟨kp1, S1⟩ := S.adv hp h0 h4 (drop_at hd).1 rfl
    refine ⟨_, rfl, _, _, _, _, _, rfl, hp, T.cl, T.nAt, flds_at _ _ _, _, _, rfl, rfl, _, _, hp, fl_len _ _ _, ?_⟩
    obtain ⟨dx1, m1, hp1, _⟩ := S1.ob
    refine ⟨_, rfl, _, _, _, rfl, hp1, fl_meth _ _ _ _ (by decide +kernel), p, L, all, k + 1, ms, _, rfl, S1, (by rw [(drop_at hd).2.2]; exact hM), fun v4 H4 k4 kp4 S4 e4 D4 => ⟨sz2, fun u hu => ?_⟩⟩
    have kpA := kp1.trans kp4
    exact fin _ _ k4 _ _ _ rfl (kpA.new hu) (S4.nw hu) e4 ((RpL.cons (.str _) (.cons (D4.dn kp1) .nil)).mk kpA hu)
  · have t1 : t ≠ tS ":-" ∧ t.1 ≠ "name" := by
      rcases ht with h | h
      · exact ⟨nSgB h, by rw [h]; decide +kernel⟩
      · rw [h]; exact ⟨by decide +kernel, by decide +kernel⟩
    have go : ∀ (E : Ends), E.nx = (fun σ H => (tSeq (tDrop (tMeth T.C "take" (spTake T.C) [] E0 (tVar 0) (tCons (tC (.str ".")) tNil))) (tRet (tVar 1)) { nx := fun _ H' => Q .non H', rt := Q }) σ H) → tAsg (tMeth T.C "choose" (spRd T.C (fun c : Cz => c.sm.enc) PChz) [] E0 (tVar 0) tNil) (gName 1) E [some (.ref p), none, none, none] H := by
      intro E eE
      refine ⟨_, rfl, _, _, _, rfl, hp, fl_meth _ _ _ _ (by decide +kernel), p, L, all, k, c, _, rfl, S, hC, fun v4 H4 k4 kp4 S4 e4 D4 => ?_⟩
      show E.nx _ _
      rw [eE]
      exact fin _ _ k4 _ _ _ rfl kp4 S4 e4 D4
    refine ⟨_, rfl, _, _, _, rfl, hp, fl_meth _ _ _ _ (by decide +kernel), p, L, all, k, _, _, _, rfl, S, hd, (fun z => absurd z t1.1), fun _ => ⟨_, rfl, iteF ?_⟩⟩
    refine ⟨_, rfl, _, _, _, rfl, hp, fl_meth _ _ _ _ (by decide +kernel), p, L, all, k, _, _, rfl, S, hd, rfl, _, rfl, ?_⟩
    refine iF (by rw [dec_v]; exact decide_eq_false t1.2) (iteF ?_)
    refine ⟨_, rfl, _, _, _, rfl, hp, fl_meth _ _ _ _ (by decide +kernel), p, L, all, k, _, _, rfl, S, hd, rfl, _, rfl, ?_⟩
    refine iF (by rw [dec_v]; exact decide_eq_false t1.2) (iteF ?_)
    refine ⟨_, rfl, _, _, _, rfl, hp, fl_meth _ _ _ _ (by decide +kernel), p, L, all, k, _, _, rfl, S, hd, rfl, _, rfl, ?_⟩
    rcases ht with h | h
    · exact iT (by rw [dec_v]; exact decide_eq_true h) (iteT (go _ rfl))
    · refine iF (by rw [dec_v, h]; decide +kernel) ?_
      refine ⟨_, rfl, _, _, _, rfl, hp, fl_meth _ _ _ _ (by decide +kernel), p, L, all, k, _, _, _, rfl, S, hd, _, rfl, ?_⟩
      exact iT (decide_eq_true h) (go _ rfl)
  · have n1 : n ≠ "range" ∧ n ≠ "minimize" := ⟨fun z => hk (by rw [z]; decide +kernel), fun z => hk (by rw [z]; decide +kernel)⟩
    refine ⟨_, rfl, _, _, _, rfl, hp, fl_meth _ _ _ _ (by decide +kernel), p, L, all, k, _, _, _, rfl, S, hd, (fun z => absurd (congrArg Prod.fst z) fNS), fun _ => ⟨_, rfl, iteF ?_⟩⟩
    refine ⟨_, rfl, _, _, _, rfl, hp, fl_meth _ _ _ _ (by decide +kernel), p, L, all, k, _, _, rfl, S, hd, rfl, _, rfl, ?_⟩
    refine iT (decide_eq_true rfl) ?_
    refine ⟨_, rfl, _, _, _, rfl, hp, fl_meth _ _ _ _ (by decide +kernel), p, L, all, k, 0, _, rfl, S, (drop_at hd).2.1, rfl, _, rfl, ?_⟩
    refine iF (by rw [dec_v]; exact decide_eq_false n1.1) ?_
    refine ⟨_, rfl, _, _, _, rfl, hp, fl_meth _ _ _ _ (by decide +kernel), p, L, all, k, _, _, rfl, S, hd, rfl, _, rfl, ?_⟩
    refine iT (decide_eq_true rfl) ?_
    refine ⟨_, rfl, _, _, _, rfl, hp, fl_meth _ _ _ _ (by decide +kernel), p, L, all, k, 0, _, rfl, S, (drop_at hd).2.1, rfl, _, rfl, ?_⟩
    refine iF (by rw [dec_v]; exact decide_eq_false n1.2) ?_
    refine ⟨_, rfl, _, _, _, rfl, hp, fl_meth _ _ _ _ (by decide +kernel), p, L, all, k, _, _, rfl, S, hd, rfl, _, rfl, ?_⟩
    refine iF fNI ?_
    refine ⟨_, rfl, _, _, _, rfl, hp, fl_meth _ _ _ _ (by decide +kernel), p, L, all, k, _, _, _, rfl, S, hd, _, rfl, ?_⟩
    refine iF (decide_eq_false fun z => absurd (congrArg Prod.fst z) fNS) ?_
    refine ⟨_, rfl, _, _, _, rfl, hp, fl_meth _ _ _ _ (by decide +kernel), p, L, all, k, a, r1, rfl, S, hA, fun v1 H1 k1 kp1 S1 e1 D1 => ?_⟩
    obtain ⟨dx1, m1, hp1, _⟩ := S1.ob
    refine ⟨_, rfl, _, rfl, _, _, _, rfl, hp1, fl_meth _ _ _ _ (by decide +kernel), p, L, all, k1, b, _, rfl, S1, (by rw [e1]; exact hB), fun v4 H4 k4 kp4 S4 e4 D4 => ⟨sz3, fun u hu => ?_⟩⟩
    have kpA := kp1.trans kp4
    exact fin _ _ k4 _ _ _ rfl (kpA.new hu) (S4.nw hu) e4 ((RpL.cons (.str _) (.cons (D1.up kp4 (mp_dom S.ne)) (.cons (D4.dn kp1) .nil))).mk kpA hu)
end
end Kt
/-! K11: the tokens of a text -/
namespace Kt
open PySem L2
abbrev lowS : Str := "abcdefghijklmnopqrstuvwxyz"
abbrev uppS : Str := "ABCDEFGHIJKLMNOPQRSTUVWXYZ"
abbrev dgtS : Str := "0123456789"
abbrev wcS : Str := lowS ++ uppS ++ dgtS ++ ("_" : Str)
abbrev sgnS : Str := "=<>(){},;:.+-*"
abbrev spcS : Str := " \n"
def prs : List Str := [":-", "!=", "<=", ">="]
/-- the word w of the kind k stands ahead of the codes r, and no longer one -/
inductive Is : Str → Str → List Nat → Prop where
  | name {c : Nat} {ws : List Nat} {w : Str} {r : List Nat} : cd w = c :: ws → c ∈ cd lowS → (∀ x ∈ ws, x ∈ cd wcS) → ws.length < 20 → (∀ x r', r = x :: r' → x ∉ cd wcS) → Is "name" w r
  | var {c : Nat} {ws : List Nat} {w : Str} {r : List Nat} : cd w = c :: ws → c ∈ cd uppS → (∀ x ∈ ws, x ∈ cd wcS) → ws.length < 20 → (∀ x r', r = x :: r' → x ∉ cd wcS) → Is "var" w r
  | int {c : Nat} {ws : List Nat} {w : Str} {r : List Nat} : cd w = c :: ws → c ∈ cd dgtS → (∀ x ∈ ws, x ∈ cd dgtS) → ws.length < 4 → (c = 48 → ws = []) → (∀ x r', r = x :: r' → x ∉ cd dgtS) → Is "int" w r
  | pair {w : Str} {r : List Nat} : w ∈ prs → Is "sign" w r
  | single {c : Nat} {w : Str} {r : List Nat} : cd w = [c] → c ∈ cd sgnS → (∀ x r', r = x :: r' → sS [c, x] ∉ prs) → Is "sign" w r
inductive Lex : List Nat → Ts → Prop where
  | nil : Lex [] []
  | spc {c : Nat} {r : List Nat} {ts : Ts} : c ∈ cd spcS → Lex r ts → Lex (c :: r) ts
  | tok {k w : Str} {r : List Nat} {ts : Ts} : Is k w r → Lex r ts → Lex (cd w ++ r) (tk k w :: ts)
theorem drop_get {α : Type} {l : List α} {k : Nat} {m : List α} (h : l.drop k = m) (j : Nat) : l[k + j]? = m[j]? := by rw [← h, List.getElem?_drop]
theorem drop_lt {α : Type} {l : List α} {k : Nat} {m : List α} (h : l.drop k = m) (hm : m ≠ []) : k + m.length = l.length := by
  have e : m.length = l.length - k := by rw [← h, List.length_drop]
  have : 0 < m.length := List.length_pos_iff.mpr hm
  omega
def spEnd (S : Str) (n : Nat) : Sp := fun vs H Q _ => ∃ (z : Str) (k c : Nat) (ws r : List Nat), vs = [.str z, .int (k : Int)] ∧ z.length ≤ sizeLine ∧ (cd z).drop k = c :: (ws ++ r) ∧ (∀ x ∈ ws, x ∈ cd S) ∧ ws.length < n ∧ (∀ x r', r = x :: r' → x ∉ cd S) ∧
  Q (.int ((k + 1 + ws.length : Nat) : Int)) H
def spIEnd : Sp := fun vs H Q _ => ∃ (z : Str) (k c : Nat) (ws r : List Nat), vs = [.str z, .int (k : Int)] ∧ z.length ≤ sizeLine ∧ (cd z).drop k = c :: (ws ++ r) ∧ (∀ x ∈ ws, x ∈ cd dgtS) ∧ ws.length < 4 ∧ (c = 48 → ws = []) ∧ (∀ x r', r = x :: r' → x ∉ cd dgtS) ∧
  Q (.int ((k + 1 + ws.length : Nat) : Int)) H
section
variable {P : Program} {w : World} {K : PySem.W.Frag} {mg : Str → Option Value} {base : Heap} (T : Txt K mg)
include T
theorem ok_word_end : FnOk P w K mg base CX0 1 T.word_end.f T.word_end.fd P_word_end (spEnd wcS 20) := by
  refine T.word_end.F.ok sc_word_end (fun vs H Q E h => ?_) (fun cdv A outer s H vs Q E hr h => ?_)
  · obtain ⟨z, k, c, ws, r, rfl, _⟩ := h
    rfl
  obtain ⟨z, k, c, ws, r, rfl, hz, hd, hw, hn, hr2, q⟩ := h
  refine ⟨_, (pss_cons (ps_set (i := 2) sc_word_end.nd rfl (Or.inl rfl) (pe_op op_add (pv 1) pe_int))
      (pss_cons (ps_while PassesOwn.never (PW.pt (pw_and (pt_cmpR op_lt (pv 2) (pe_callB call_len_str (by rfl) T.zlen PySem.boot_len (pa_cons (pv 0) pa_nil)) (nomark _)) (pw_and (pt_cmpR op_lt (pv 2) (pe_op op_add (pv 1) (pe_glob (v := .int 20) (by rfl) T.gLONGEST_WORD ⟨_, rfl⟩)) (nomark _)) (pw_and1 (pt_cmpR op_in_sign (pe_ix ix_str (pv 0) (pv 2) (fun _ _ => rfl)) (pe_op op_add_str (pe_op op_add_str (pe_op op_add_str (pe_glob (v := .str "abcdefghijklmnopqrstuvwxyz") (by rfl) T.gLOWER ⟨_, rfl⟩) (pe_glob (v := .str "ABCDEFGHIJKLMNOPQRSTUVWXYZ") (by rfl) T.gUPPER ⟨_, rfl⟩)) (pe_glob (v := .str "0123456789") (by rfl) T.gDIGITS ⟨_, rfl⟩)) pe_str) (by rfl)))))) (pss_one (ps_aug (i := 2) sc_word_end.nd rfl (Or.inl rfl) pe_int ip_add)))
      (pss_one (ps_ret (pv 2))))), ?_⟩
  refine ⟨_, rfl, _, _, rfl, rfl, ?_⟩
  have hl : k + (1 + (ws.length + r.length)) = (cd z).length := by
    have e := drop_lt hd (by simp)
    rw [List.length_cons, List.length_append] at e
    omega
  have hzl : z.length = (cd z).length := len_cd z
  refine ⟨fun m σ H2 => ∃ i, i ≤ ws.length ∧ m = ws.length - i ∧ H2 = H ∧ σ = [some (.str z), some (.int (k : Int)), some (.int ((k + 1 + i : Nat) : Int))], ⟨ws.length, 0, Nat.zero_le _, rfl, rfl, rfl⟩, ?_⟩
  rintro m σ H2 ⟨i, hi, rfl, rfl, rfl⟩
  have out : ∀ (E : Ends), E.rt = Q → i = ws.length → tRet (tVar 2) E [some (.str z), some (.int (k : Int)), some (.int ((k + 1 + i : Nat) : Int))] H2 := fun E eE ei => by
    subst eE
    subst ei
    exact ⟨_, rfl, q⟩
  refine ⟨_, rfl, _, rfl, z, rfl, hz, _, _, rfl, rfl, _, rfl, ?_⟩
  refine ite2 (fun c1 => ?_) (fun c1 => ?_)
  · have c1' : ((k + 1 + i : Nat) : Int) < (z.length : Int) := of_decide_eq_true c1
    refine ⟨_, rfl, _, rfl, _, _, rfl, rfl, _, _, rfl, rfl, _, rfl, ?_⟩
    refine ite2 (fun c2 => ?_) (fun c2 => ?_)
    · have c2' : ((k + 1 + i : Nat) : Int) < (k : Int) + 20 := of_decide_eq_true c2
      have hx : ∃ x, (cd z)[k + 1 + i]? = some x := ⟨(cd z)[k + 1 + i]'(by omega), List.getElem?_eq_getElem _⟩
      obtain ⟨x, hx⟩ := hx
      have hx2 : (ws ++ r)[i]? = some x := by
        have e := drop_get hd (1 + i)
        rw [show k + (1 + i) = k + 1 + i by omega, hx, show 1 + i = i + 1 by omega, List.getElem?_cons_succ] at e
        exact e.symm
      refine ⟨_, rfl, _, rfl, z, _, x, rfl, rfl, hz, atI_nat hx, _, _, rfl, rfl, (by decide +kernel), _, _, rfl, rfl, (by decide +kernel), _, _, rfl, rfl, (by decide +kernel), x, _, rfl, rfl, _, rfl, ?_⟩
      by_cases hlt : i < ws.length
      · have hxm : x ∈ cd wcS := by
          rw [List.getElem?_append_left hlt] at hx2
          exact hw x (List.mem_of_getElem? hx2)
        refine iT (decide_eq_true hxm) ?_
        refine ⟨_, fun _ _ y => y, ?_⟩
        refine ⟨_, rfl, _, _, rfl, rfl, ?_⟩
        exact ⟨ws.length - (i + 1), by omega, i + 1, by omega, rfl, rfl, rfl⟩
      · have ei : i = ws.length := by omega
        have hxm : x ∉ cd wcS := by
          rw [List.getElem?_append_right (by omega), ei, Nat.sub_self] at hx2
          cases r with
          | nil => simp at hx2
          | cons y r' =>
            have e : y = x := by simpa using hx2
            rw [← e]
            exact hr2 y r' rfl
        exact iF (decide_eq_false hxm) (out _ rfl ei)
    · have c2' : ¬ ((k + 1 + i : Nat) : Int) < (k : Int) + 20 := fun y => c2 (decide_eq_true y)
      exact iteF (out _ rfl (by omega))
  · have c1' : ¬ ((k + 1 + i : Nat) : Int) < (z.length : Int) := fun y => c1 (decide_eq_true y)
    exact iteF (out _ rfl (by omega))
theorem ok_integer_end : FnOk P w K mg base CX0 1 T.integer_end.f T.integer_end.fd P_integer_end spIEnd := by
  refine T.integer_end.F.ok sc_integer_end (fun vs H Q E h => ?_) (fun cdv A outer s H vs Q E hr h => ?_)
  · obtain ⟨z, k, c, ws, r, rfl, _⟩ := h
    rfl
  obtain ⟨z, k, c, ws, r, rfl, hz, hd, hw, hn, h48, hr2, q⟩ := h
  refine ⟨_, (pss_cons (ps_set (i := 2) sc_integer_end.nd rfl (Or.inl rfl) (pe_op op_add (pv 1) pe_int))
      (pss_cons (ps_if (pt_cmpR op_eq (pe_ix ix_str (pv 0) (pv 1) (fun _ _ => rfl)) pe_str (nomark _)) (pss_one (ps_ret (pv 2))) pss_nil)
      (pss_cons (ps_while PassesOwn.never (PW.pt (pw_and (pt_cmpR op_lt (pv 2) (pe_callB call_len_str (by rfl) T.zlen PySem.boot_len (pa_cons (pv 0) pa_nil)) (nomark _)) (pw_and (pt_cmpR op_lt (pv 2) (pe_op op_add (pv 1) (pe_glob (v := .int 4) (by rfl) T.gLONGEST_INTEGER ⟨_, rfl⟩)) (nomark _)) (pw_and1 (pt_cmpR op_in_sign (pe_ix ix_str (pv 0) (pv 2) (fun _ _ => rfl)) (pe_glob (v := .str "0123456789") (by rfl) T.gDIGITS ⟨_, rfl⟩) (by rfl)))))) (pss_one (ps_aug (i := 2) sc_integer_end.nd rfl (Or.inl rfl) pe_int ip_add)))
      (pss_one (ps_ret (pv 2)))))), ?_⟩
  refine ⟨_, rfl, _, _, rfl, rfl, ?_⟩
  have hl : k + (1 + (ws.length + r.length)) = (cd z).length := by
    have e := drop_lt hd (by simp)
    rw [List.length_cons, List.length_append] at e
    omega
  have hzl : z.length = (cd z).length := len_cd z
  have hc : (cd z)[k]? = some c := by
    have e := drop_get hd 0
    simpa using e
  refine ⟨_, rfl, _, rfl, z, _, c, rfl, rfl, hz, atI_nat hc, rfl, _, rfl, ?_⟩
  refine ite2 (fun c0 => ?_) (fun c0 => ?_)
  · have e48 : c = 48 := by
      rw [dec_v] at c0
      have e := congrArg cd (of_decide_eq_true c0)
      have e2 : cd ("0" : Str) = [48] := by decide +kernel
      rw [e2] at e
      have e3 : [c] = [48] := e
      exact List.head_eq_of_cons_eq e3
    have e := h48 e48
    subst e
    exact ⟨_, rfl, q⟩
  refine ⟨fun m σ H2 => ∃ i, i ≤ ws.length ∧ m = ws.length - i ∧ H2 = H ∧ σ = [some (.str z), some (.int (k : Int)), some (.int ((k + 1 + i : Nat) : Int))], ⟨ws.length, 0, Nat.zero_le _, rfl, rfl, rfl⟩, ?_⟩
  rintro m σ H2 ⟨i, hi, rfl, rfl, rfl⟩
  have out : ∀ (E : Ends), E.rt = Q → i = ws.length → tRet (tVar 2) E [some (.str z), some (.int (k : Int)), some (.int ((k + 1 + i : Nat) : Int))] H2 := fun E eE ei => by
    subst eE
    subst ei
    exact ⟨_, rfl, q⟩
  refine ⟨_, rfl, _, rfl, z, rfl, hz, _, _, rfl, rfl, _, rfl, ?_⟩
  refine ite2 (fun c1 => ?_) (fun c1 => ?_)
  · have c1' : ((k + 1 + i : Nat) : Int) < (z.length : Int) := of_decide_eq_true c1
    refine ⟨_, rfl, _, rfl, _, _, rfl, rfl, _, _, rfl, rfl, _, rfl, ?_⟩
    refine ite2 (fun c2 => ?_) (fun c2 => ?_)
    · have c2' : ((k + 1 + i : Nat) : Int) < (k : Int) + 4 := of_decide_eq_true c2
      have hx : ∃ x, (cd z)[k + 1 + i]? = some x := ⟨(cd z)[k + 1 + i]'(by omega), List.getElem?_eq_getElem _⟩
      obtain ⟨x, hx⟩ := hx
      have hx2 : (ws ++ r)[i]? = some x := by
        have e := drop_get hd (1 + i)
        rw [show k + (1 + i) = k + 1 + i by omega, hx, show 1 + i = i + 1 by omega, List.getElem?_cons_succ] at e
        exact e.symm
      refine ⟨_, rfl, _, rfl, z, _, x, rfl, rfl, hz, atI_nat hx, x, _, rfl, rfl, _, rfl, ?_⟩
      by_cases hlt : i < ws.length
      · have hxm : x ∈ cd dgtS := by
          rw [List.getElem?_append_left hlt] at hx2
          exact hw x (List.mem_of_getElem? hx2)
        refine iT (decide_eq_true hxm) ?_
        refine ⟨_, fun _ _ y => y, ?_⟩
        refine ⟨_, rfl, _, _, rfl, rfl, ?_⟩
        exact ⟨ws.length - (i + 1), by omega, i + 1, by omega, rfl, rfl, rfl⟩
      · have ei : i = ws.length := by omega
        have hxm : x ∉ cd dgtS := by
          rw [List.getElem?_append_right (by omega), ei, Nat.sub_self] at hx2
          cases r with
          | nil => simp at hx2
          | cons y r' =>
            have e : y = x := by simpa using hx2
            rw [← e]
            exact hr2 y r' rfl
        exact iF (decide_eq_false hxm) (out _ rfl ei)
    · have c2' : ¬ ((k + 1 + i : Nat) : Int) < (k : Int) + 4 := fun y => c2 (decide_eq_true y)
      exact iteF (out _ rfl (by omega))
  · have c1' : ¬ ((k + 1 + i : Nat) : Int) < (z.length : Int) := fun y => c1 (decide_eq_true y)
    exact iteF (out _ rfl (by omega))
end
end Kt
/-! K12: _token, tokens, _too_deep, the parser made -/
namespace Kt
open PySem L2
theorem cut_at {z : Str} {k n : Nat} {m : List Nat} (h : (cd z).drop k = m) (hk : k ≤ (cd z).length) : cutS z (some (k : Int)) (some ((k + n : Nat) : Int)) = sS (m.take n) := by
  have hz : z.length = (cd z).length := len_cd z
  have hm : m.length = (cd z).length - k := by rw [← h, List.length_drop]
  unfold cutS sS
  rw [HT.sIx_nat, HT.sIx_nat, hz, Nat.min_eq_left hk]
  have e : ((z.cps.toList.drop k).take (min (k + n) (cd z).length - k)) = m.take n := by
    have e0 : z.cps.toList.drop k = m := h
    rw [e0]
    by_cases hn : n ≤ m.length
    · rw [show min (k + n) (cd z).length - k = n by omega]
    · rw [List.take_of_length_le (by omega), List.take_of_length_le (by omega)]
  rw [e]
theorem cut_w {z w : Str} {k : Nat} {r : List Nat} (h : (cd z).drop k = cd w ++ r) (hk : k ≤ (cd z).length) {j : Int} (e : j = ((k + (cd w).length : Nat) : Int)) : cutS z (some (k : Int)) (some j) = w := by
  rw [e, cut_at h hk, List.take_left' rfl, sS_cd]
theorem upp_low : ∀ c ∈ cd uppS, c ∉ cd lowS := by decide +kernel
theorem dgt_low : ∀ c ∈ cd dgtS, c ∉ cd lowS ∧ c ∉ cd uppS := by decide +kernel
theorem sgn_low : ∀ c ∈ cd sgnS, c ∉ cd lowS ∧ c ∉ cd uppS ∧ c ∉ cd dgtS := by decide +kernel
theorem prs_low : ∀ w ∈ prs, ∃ c d, cd w = [c, d] ∧ c ∉ cd lowS ∧ c ∉ cd uppS ∧ c ∉ cd dgtS := by
  intro w hw
  simp only [prs, List.mem_cons, List.not_mem_nil, or_false] at hw
  rcases hw with rfl | rfl | rfl | rfl
  · exact ⟨58, 45, by decide +kernel, by decide +kernel, by decide +kernel, by decide +kernel⟩
  · exact ⟨33, 61, by decide +kernel, by decide +kernel, by decide +kernel, by decide +kernel⟩
  · exact ⟨60, 61, by decide +kernel, by decide +kernel, by decide +kernel, by decide +kernel⟩
  · exact ⟨62, 61, by decide +kernel, by decide +kernel, by decide +kernel, by decide +kernel⟩
theorem prs_two : ∀ c, sS [c] ∉ prs := by
  intro c h
  have e : ∀ w ∈ prs, (cd w).length = 2 := by decide +kernel
  have := e _ h
  rw [cd_sS] at this
  cases this
def spTok : Sp := fun vs H Q _ => ∃ (z : Str) (k : Nat) (kd w : Str) (r : List Nat), vs = [.str z, .int (k : Int)] ∧ z.length ≤ sizeLine ∧ (cd z).drop k = cd w ++ r ∧ Is kd w r ∧ ∀ H' v, Same H H' → TkAt H' v (kd, w) → Q v H'
def spToks : Sp := fun vs H Q _ => ∃ (z : Str) (ts : Ts), vs = [.str z] ∧ z.length ≤ 4000 ∧ Lex (cd z) ts ∧ ∀ H' L, Same H H' → FdAt H' L (ts ++ [tk "end" ""]) → Q (.ref L) H'
theorem Is.ne {k w : Str} {r : List Nat} (h : Is k w r) : cd w ≠ [] := by
  cases h with
  | name e => rw [e]; simp
  | var e => rw [e]; simp
  | int e => rw [e]; simp
  | pair e =>
    obtain ⟨c, d, e, _⟩ := prs_low _ e
    rw [e]; simp
  | single e => rw [e]; simp
theorem Lex.len {l : List Nat} {ts : Ts} (h : Lex l ts) : ts.length ≤ l.length := by
  induction h with
  | nil => exact Nat.le_refl _
  | spc _ _ ih => rw [List.length_cons]; omega
  | tok hi _ ih =>
    have := List.length_pos_iff.mpr hi.ne
    rw [List.length_append, List.length_cons]
    omega
def dpt (t : Tk) : Int := if t = tS "(" then 1 else if t = tS ")" then -1 else 0
def deepOk (all : Ts) : Prop := ∀ i, ((all.take i).map dpt).sum ≤ 10
def spDeep : Sp := fun vs H Q _ => ∃ (L : Addr) (all : Ts), vs = [.ref L] ∧ FdAt H L all ∧ deepOk all ∧ Q (.bl false) H
def spPIn (C : Addr) : Sp := fun vs H Q _ => ∃ (p dx L : Addr), vs = [.ref p, .ref L] ∧ H p = some (.ins C dx []) ∧ ∀ H', Kp (Mp p) H H' → H' p = some (.ins C dx (flds L 0 0)) → Q .non H'
section
variable {P : Program} {w : World} {K : PySem.W.Frag} {mg : Str → Option Value} {base : Heap} (T : Txt K mg)
include T
theorem ok_parser_init : FnOk P w K mg base CX0 1 T.parser_init.f T.parser_init.fd P_parser_init (spPIn T.C) := by
  refine T.parser_init.F.ok sc_parser_init (fun vs H Q E h => ?_) (fun cdv A outer s H vs Q E hr h => ?_)
  · obtain ⟨p, dx, L, rfl, _⟩ := h
    rfl
  obtain ⟨p, dx, L, rfl, hp, q⟩ := h
  refine ⟨_, (pss_cons (ps_fld (pv 0) (pv 1) rfl)
      (pss_cons (ps_fld (pv 0) pe_int rfl)
      (pss_one (ps_fld (pv 0) pe_int rfl)))), ?_⟩
  refine ⟨_, rfl, _, rfl, p, T.C, dx, _, rfl, hp, T.cl, T.nFound, (by decide), ?_⟩
  refine ⟨_, rfl, p, T.C, dx, _, rfl, upd_same, T.cl, T.nAt, (by show 1 < 1000; decide), ?_⟩
  refine ⟨_, rfl, p, T.C, dx, _, rfl, upd_same, T.cl, T.nMost, ?_, ?_⟩
  · have e : putF ("at" : Str) (V.int 0) (putF ("found" : Str) (V.ref L) []) = ([("found", V.ref L), ("at", V.int 0)] : List (Str × V)) := by
      show (if ("found" : Str) = "at" then [(("found" : Str), V.int 0)] else (("found" : Str), V.ref L) :: putF "at" (V.int 0) []) = _
      rw [if_neg fl_ne1]
      all_goals rfl
    rw [e]
    show 2 < 1000
    decide
  · exact q _ ((((Kp.refl (M := Mp p)).mut rfl).mut rfl).mut rfl) upd_same
theorem ok_too_deep : FnOk P w K mg base CX0 1 T.too_deep.f T.too_deep.fd P_too_deep spDeep := by
  refine T.too_deep.F.ok sc_too_deep (fun vs H Q E h => ?_) (fun cdv A outer s H vs Q E hr h => ?_)
  · obtain ⟨L, all, rfl, _⟩ := h
    rfl
  obtain ⟨L, all, rfl, F, hd, q⟩ := h
  obtain ⟨⟨xs, hL, hl, hx⟩, _⟩ := id F
  refine ⟨_, (pss_cons (ps_set (i := 1) sc_too_deep.nd rfl (Or.inl rfl) pe_int)
      (pss_cons (ps_for PassesOwn.never rfl (pi_list (pv 0)) (pg_name (i := 2) sc_too_deep.nd rfl (Or.inl rfl)) (pss_cons (ps_if (PW.pt (pw_and (pt_cmpR op_eq (pe_ix ix_tup (pv 2) pe_int (fun _ _ => rfl)) pe_str (nomark _)) (pw_and1 (pt_cmpR op_eq (pe_ix ix_tup (pv 2) pe_int (fun _ _ => rfl)) pe_str (nomark _))))) (pss_one (ps_aug (i := 1) sc_too_deep.nd rfl (Or.inl rfl) pe_int ip_add)) pss_nil)
      (pss_cons (ps_if (PW.pt (pw_and (pt_cmpR op_eq (pe_ix ix_tup (pv 2) pe_int (fun _ _ => rfl)) pe_str (nomark _)) (pw_and1 (pt_cmpR op_eq (pe_ix ix_tup (pv 2) pe_int (fun _ _ => rfl)) pe_str (nomark _))))) (pss_one (ps_aug (i := 1) sc_too_deep.nd rfl (Or.inl rfl) pe_int ip_sub)) pss_nil)
      (pss_one (ps_if (pt_cmpR op_gt (pv 1) (pe_glob (v := .int 10) (by rfl) T.gDEEPEST ⟨_, rfl⟩) (nomark _)) (pss_one (ps_ret pe_bl)) pss_nil)))))
      (pss_one (ps_ret pe_bl)))), ?_⟩
  refine ⟨_, rfl, L, rfl, ⟨_, SqL.of hL⟩, for_list (K := K) (a := L) (xs := xs) (fun i σ H2 => H2 = H ∧ ∃ u, σ = [some (.ref L), some (.int ((all.take i).map dpt).sum), u]) ⟨rfl, none, rfl⟩ (fun i σ H2 _ h => by rw [h.1]; exact SqL.of hL) ?_ ?_⟩
  · rintro i x σ H2 hi ⟨rfl, u, rfl⟩
    have hi2 : i < all.length := by rw [← hl]; exact (List.getElem?_eq_some_iff.mp hi).1
    obtain ⟨a, n, rfl, ha⟩ := hx i x all[i] hi (List.getElem?_eq_getElem hi2)
    generalize ht : all[i] = t at ha
    have hsum : ((all.take (i + 1)).map dpt).sum = ((all.take i).map dpt).sum + dpt t := by
      rw [List.take_add_one, List.getElem?_eq_getElem hi2, ht]
      simp
    have h10 := hd (i + 1)
    rw [hsum] at h10
    -- the last test
    have last : ∀ (E : Ends) (d : Int), d = ((all.take i).map dpt).sum + dpt t → E.nx = (fun σ' H' => H' = H2 ∧ ∃ u, σ' = [some (.ref L), some (.int ((all.take (i + 1)).map dpt).sum), u]) →
        tIfS (tTest (tOp (rI0 fun i j => .bl (decide (j < i))) (tVar 1) (tC (.int 10)))) (tRet (tC (.bl true))) tNext E [some (.ref L), some (.int d), some (.ref a)] H2 := by
      intro E d ed eE
      refine ⟨_, rfl, _, _, rfl, rfl, _, rfl, ?_⟩
      refine iF (decide_eq_false (by omega)) ?_
      show E.nx _ _
      rw [eE]
      exact ⟨rfl, _, by rw [hsum, ed]⟩
    have mid : ∀ (E : Ends) (d : Int), d = ((all.take i).map dpt).sum + dpt t + (if t = tS ")" then 1 else 0) → E.nx = (fun σ' H' => H' = H2 ∧ ∃ u, σ' = [some (.ref L), some (.int ((all.take (i + 1)).map dpt).sum), u]) →
        tSeq (tIfS (tAnd (tTest (tOp rEq (tOp (rIxT K) (tVar 2) (tC (.int 0))) (tC (.str "sign")))) (tTest (tOp rEq (tOp (rIxT K) (tVar 2) (tC (.int 1))) (tC (.str ")"))))) (tAug 1 (tC (.int 1)) (ipI fun i j => i - j)) tNext) (tIfS (tTest (tOp (rI0 fun i j => .bl (decide (j < i))) (tVar 1) (tC (.int 10)))) (tRet (tC (.bl true))) tNext) E [some (.ref L), some (.int d), some (.ref a)] H2 := by
      intro E d ed eE
      refine ⟨_, rfl, a, _, _, _, rfl, rfl, SqT.of ha, atI_nat (j := 0) rfl, rfl, _, rfl, ?_⟩
      rw [dec_v]
      by_cases h1 : t.1 = "sign"
      · refine iT (decide_eq_true h1) ?_
        refine ⟨_, rfl, a, _, _, _, rfl, rfl, SqT.of ha, atI_nat (j := 1) rfl, rfl, _, rfl, ?_⟩
        rw [dec_v]
        by_cases h2 : t.2 = ")"
        · have et : t = tS ")" := Prod.ext h1 h2
          refine iT (decide_eq_true h2) ?_
          refine ⟨_, rfl, _, _, rfl, rfl, ?_⟩
          refine last E (d - 1) ?_ eE
          rw [ed, if_pos et]
          omega
        · have et : ¬ t = tS ")" := fun y => h2 (congrArg Prod.snd y)
          refine iF (decide_eq_false h2) (last E d ?_ eE)
          rw [ed, if_neg et]
          omega
      · have et : ¬ t = tS ")" := fun y => h1 (congrArg Prod.fst y)
        refine iF (decide_eq_false h1) (iteF (last E d ?_ eE))
        rw [ed, if_neg et]
        omega
    refine ⟨_, rfl, a, _, _, _, rfl, rfl, SqT.of ha, atI_nat (j := 0) rfl, rfl, _, rfl, ?_⟩
    rw [dec_v]
    by_cases h1 : t.1 = "sign"
    · refine iT (decide_eq_true h1) ?_
      refine ⟨_, rfl, a, _, _, _, rfl, rfl, SqT.of ha, atI_nat (j := 1) rfl, rfl, _, rfl, ?_⟩
      rw [dec_v]
      by_cases h2 : t.2 = "("
      · have et : t = tS "(" := Prod.ext h1 h2
        refine iT (decide_eq_true h2) ?_
        refine ⟨_, rfl, _, _, rfl, rfl, ?_⟩
        refine mid _ _ ?_ rfl
        have e1 : dpt t = 1 := if_pos et
        rw [if_neg (by rw [et]; decide +kernel), e1, Int.add_zero]
      · have et : ¬ t = tS "(" := fun y => h2 (congrArg Prod.snd y)
        refine iF (decide_eq_false h2) (mid _ _ ?_ rfl)
        have e1 : dpt t = if t = tS ")" then -1 else 0 := if_neg et
        rw [e1]
        split <;> omega
    · have et : ¬ t = tS "(" := fun y => h1 (congrArg Prod.fst y)
      have et2 : ¬ t = tS ")" := fun y => h1 (congrArg Prod.fst y)
      refine iF (decide_eq_false h1) (iteF (mid _ _ ?_ rfl))
      have e1 : dpt t = 0 := by
        unfold dpt
        rw [if_neg et, if_neg et2]
      rw [e1, if_neg et2]
      omega
  · rintro σ H2 ⟨rfl, u, rfl⟩
    exact q
variable (G_word_end : FnOk P w K mg base CX0 1 T.word_end.f T.word_end.fd P_word_end (spEnd wcS 20)) (G_integer_end : FnOk P w K mg base CX0 1 T.integer_end.f T.integer_end.fd P_integer_end spIEnd)
include G_word_end G_integer_end
theorem ok_token : FnOk P w K mg base CX0 2 T.token.f T.token.fd P_token spTok := by
  refine T.token.F.ok sc_token (fun vs H Q E h => ?_) (fun cdv A outer s H vs Q E hr h => ?_)
  · obtain ⟨z, k, kd, w, r, rfl, _⟩ := h
    rfl
  obtain ⟨z, k, kd, w, r, rfl, hz, hd, hi, q⟩ := h
  have hne := hi.ne
  have hk : k < (cd z).length := by
    have e := drop_lt hd (by simp [hne])
    have := List.length_pos_iff.mpr hne
    rw [List.length_append] at e
    omega
  obtain ⟨c, ws, hw⟩ : ∃ c ws, cd w = c :: ws := by
    cases h : cd w with
    | nil => exact absurd h hne
    | cons c ws => exact ⟨c, ws, rfl⟩
  have hc : (cd z)[k]? = some c := by
    have e := drop_get hd 0
    rw [hw] at e
    simpa using e
  have hd' : (cd z).drop k = c :: (ws ++ r) := by rw [hd, hw]; rfl
  have hend : ∀ H1 t, Same H H1 → H1 t = none → ∀ n, TkAt (upd H1 t (.tup [.str kd, .str w, .int n])) (.ref t) (kd, w) := fun H1 t _ _ n => ⟨t, n, rfl, upd_same⟩
  have hcut : ∀ j : Int, j = ((k + 1 + ws.length : Nat) : Int) → cutS z (some (k : Int)) (some j) = w := fun j e => cut_w hd (Nat.le_of_lt hk) (by rw [e, hw, List.length_cons]; omega)
  refine ⟨_, (pss_cons (ps_set (i := 2) sc_token.nd rfl (Or.inl rfl) (pe_ix ix_str (pv 0) (pv 1) (fun _ _ => rfl)))
      (pss_cons (ps_if (pt_cmpR op_in_sign (pv 2) (pe_glob (v := .str "abcdefghijklmnopqrstuvwxyz") (by rfl) T.gLOWER ⟨_, rfl⟩) (by rfl)) (pss_one (ps_ret (pe_tup (pa_cons pe_str (pa_cons (pe_slice sl_str (pv 0) (po_some (pv 1)) (po_some (pe_call G_word_end (hr.mono (by omega)) (by rfl) T.word_end.m T.word_end.F.kp T.word_end.b .nil pass0 (pa_cons (pv 0) (pa_cons (pv 1) pa_nil))))) (pa_cons (pv 1) pa_nil)))))) pss_nil)
      (pss_cons (ps_if (pt_cmpR op_in_sign (pv 2) (pe_glob (v := .str "ABCDEFGHIJKLMNOPQRSTUVWXYZ") (by rfl) T.gUPPER ⟨_, rfl⟩) (by rfl)) (pss_one (ps_ret (pe_tup (pa_cons pe_str (pa_cons (pe_slice sl_str (pv 0) (po_some (pv 1)) (po_some (pe_call G_word_end (hr.mono (by omega)) (by rfl) T.word_end.m T.word_end.F.kp T.word_end.b .nil pass0 (pa_cons (pv 0) (pa_cons (pv 1) pa_nil))))) (pa_cons (pv 1) pa_nil)))))) pss_nil)
      (pss_cons (ps_if (pt_cmpR op_in_sign (pv 2) (pe_glob (v := .str "0123456789") (by rfl) T.gDIGITS ⟨_, rfl⟩) (by rfl)) (pss_one (ps_ret (pe_tup (pa_cons pe_str (pa_cons (pe_slice sl_str (pv 0) (po_some (pv 1)) (po_some (pe_call G_integer_end (hr.mono (by omega)) (by rfl) T.integer_end.m T.integer_end.F.kp T.integer_end.b .nil pass0 (pa_cons (pv 0) (pa_cons (pv 1) pa_nil))))) (pa_cons (pv 1) pa_nil)))))) pss_nil)
      (pss_cons (ps_if (pt_cmpR op_in_seq (pe_slice sl_str (pv 0) (po_some (pv 1)) (po_some (pe_op op_add (pv 1) pe_int))) (pe_glob (v := .ref T.aPAIRS) (by rfl) T.gPAIRS rfl) (by rfl)) (pss_one (ps_ret (pe_tup (pa_cons pe_str (pa_cons (pe_slice sl_str (pv 0) (po_some (pv 1)) (po_some (pe_op op_add (pv 1) pe_int))) (pa_cons (pv 1) pa_nil)))))) pss_nil)
      (pss_cons (ps_if (pt_cmpR op_in_sign (pv 2) (pe_glob (v := .str "=<>(){},;:.+-*") (by rfl) T.gSINGLES ⟨_, rfl⟩) (by rfl)) (pss_one (ps_ret (pe_tup (pa_cons pe_str (pa_cons (pv 2) (pa_cons (pv 1) pa_nil)))))) pss_nil)
      (pss_one ps_never))))))), ?_⟩
  refine ⟨_, rfl, _, rfl, z, _, c, rfl, rfl, hz, atI_nat hc, ?_⟩
  cases hi with
  | name e h1 h2 h3 h4 =>
    rw [hw] at e
    injection e with e1 e2
    subst e1 e2
    refine ⟨_, rfl, c, _, rfl, rfl, _, rfl, iT (decide_eq_true h1) ?_⟩
    refine ⟨_, rfl, _, rfl, _, rfl, _, rfl, _, rfl, z, k, c, ws, r, rfl, hz, hd', h2, h3, h4, _, rfl, z, rfl, hz, _, rfl, sz3, fun t ht => ?_⟩
    rw [hcut _ rfl]
    exact q _ _ (same_upd (Same.refl H) ht) ⟨t, _, rfl, upd_same⟩
  | var e h1 h2 h3 h4 =>
    rw [hw] at e
    injection e with e1 e2
    subst e1 e2
    refine ⟨_, rfl, c, _, rfl, rfl, _, rfl, iF (decide_eq_false (upp_low c h1)) ?_⟩
    refine ⟨_, rfl, c, _, rfl, rfl, _, rfl, iT (decide_eq_true h1) ?_⟩
    refine ⟨_, rfl, _, rfl, _, rfl, _, rfl, _, rfl, z, k, c, ws, r, rfl, hz, hd', h2, h3, h4, _, rfl, z, rfl, hz, _, rfl, sz3, fun t ht => ?_⟩
    rw [hcut _ rfl]
    exact q _ _ (same_upd (Same.refl H) ht) ⟨t, _, rfl, upd_same⟩
  | int e h1 h2 h3 h48 h4 =>
    rw [hw] at e
    injection e with e1 e2
    subst e1 e2
    refine ⟨_, rfl, c, _, rfl, rfl, _, rfl, iF (decide_eq_false (dgt_low c h1).1) ?_⟩
    refine ⟨_, rfl, c, _, rfl, rfl, _, rfl, iF (decide_eq_false (dgt_low c h1).2) ?_⟩
    refine ⟨_, rfl, c, _, rfl, rfl, _, rfl, iT (decide_eq_true h1) ?_⟩
    refine ⟨_, rfl, _, rfl, _, rfl, _, rfl, _, rfl, z, k, c, ws, r, rfl, hz, hd', h2, h3, h48, h4, _, rfl, z, rfl, hz, _, rfl, sz3, fun t ht => ?_⟩
    rw [hcut _ rfl]
    exact q _ _ (same_upd (Same.refl H) ht) ⟨t, _, rfl, upd_same⟩
  | pair h1 =>
    obtain ⟨c', d, e, n1, n2, n3⟩ := prs_low _ h1
    rw [hw] at e
    injection e with e1 e2
    subst e1 e2
    have hcut2 : cutS z (some (k : Int)) (some ((k : Int) + 2)) = w := hcut _ (by rw [List.length_singleton]; omega)
    refine ⟨_, rfl, c, _, rfl, rfl, _, rfl, iF (decide_eq_false n1) ?_⟩
    refine ⟨_, rfl, c, _, rfl, rfl, _, rfl, iF (decide_eq_false n2) ?_⟩
    refine ⟨_, rfl, c, _, rfl, rfl, _, rfl, iF (decide_eq_false n3) ?_⟩
    refine ⟨_, rfl, _, rfl, _, rfl, _, rfl, _, _, rfl, rfl, _, rfl, z, rfl, hz, T.aPAIRS, _, rfl, .inr (T.qPAIRS H), rfl, rfl, _, rfl, ?_⟩
    rw [hcut2]
    refine (show (if inV (.str w) (prs.map V.str) = true then _ else _) from ?_)
    rw [inV_str, decide_eq_true h1]
    refine iteT ?_
    refine ⟨_, rfl, _, rfl, _, rfl, _, rfl, _, _, rfl, rfl, _, rfl, z, rfl, hz, _, rfl, sz3, fun t ht => ?_⟩
    rw [hcut2]
    exact q _ _ (same_upd (Same.refl H) ht) ⟨t, _, rfl, upd_same⟩
  | single e h1 h2 =>
    rw [hw] at e
    injection e with e1 e2
    subst e1 e2
    have hn : cutS z (some (k : Int)) (some ((k : Int) + 2)) ∉ prs := by
      have e := cut_at (n := 2) hd' (Nat.le_of_lt hk)
      rw [show ((k : Int) + 2) = ((k + 2 : Nat) : Int) by omega, e]
      cases r with
      | nil => exact prs_two c
      | cons x r' => exact h2 x r' rfl
    obtain ⟨n1, n2, n3⟩ := sgn_low c h1
    have ew : (⟨#[c]⟩ : Str) = w := cd_inj (by rw [hw]; rfl)
    refine ⟨_, rfl, c, _, rfl, rfl, _, rfl, iF (decide_eq_false n1) ?_⟩
    refine ⟨_, rfl, c, _, rfl, rfl, _, rfl, iF (decide_eq_false n2) ?_⟩
    refine ⟨_, rfl, c, _, rfl, rfl, _, rfl, iF (decide_eq_false n3) ?_⟩
    refine ⟨_, rfl, _, rfl, _, rfl, _, rfl, _, _, rfl, rfl, _, rfl, z, rfl, hz, T.aPAIRS, _, rfl, .inr (T.qPAIRS H), rfl, rfl, _, rfl, ?_⟩
    refine (show (if inV (.str (cutS z (some (k : Int)) (some ((k : Int) + 2)))) (prs.map V.str) = true then _ else _) from ?_)
    rw [inV_str, decide_eq_false hn]
    refine iteF ?_
    refine ⟨_, rfl, c, _, rfl, rfl, _, rfl, iT (decide_eq_true h1) ?_⟩
    refine ⟨_, rfl, _, rfl, sz3, fun t ht => ?_⟩
    rw [ew]
    exact q _ _ (same_upd (Same.refl H) ht) ⟨t, _, rfl, upd_same⟩
end
end Kt
/-! K13: tokens, parse -/
namespace Kt
open PySem L2
def TkL (H : Hp) (xs : List V) (ts : Ts) : Prop := xs.length = ts.length ∧ ∀ (i : Nat) (x : V) (t : Tk), xs[i]? = some x → ts[i]? = some t → TkAt H x t
theorem TkAt.upd {H : Hp} {x : V} {t : Tk} {q : Addr} {o : HO} (h : TkAt H x t) (hq : ∀ ys, H q ≠ some (.tup ys)) : TkAt (L2.upd H q o) x t := by
  obtain ⟨a, n, e, ha⟩ := h
  exact ⟨a, n, e, by rw [upd_ne (fun z => hq _ (by rw [← z]; exact ha))]; exact ha⟩
theorem TkAt.same {H H' : Hp} {x : V} {t : Tk} (h : TkAt H x t) (s : Same H H') : TkAt H' x t := by
  obtain ⟨a, n, e, ha⟩ := h
  exact ⟨a, n, e, s _ _ ha⟩
theorem TkL.upd {H : Hp} {xs : List V} {ts : Ts} {q : Addr} {o : HO} (h : TkL H xs ts) (hq : ∀ ys, H q ≠ some (.tup ys)) : TkL (L2.upd H q o) xs ts := ⟨h.1, fun i x t a b => (h.2 i x t a b).upd hq⟩
theorem TkL.same {H H' : Hp} {xs : List V} {ts : Ts} (h : TkL H xs ts) (s : Same H H') : TkL H' xs ts := ⟨h.1, fun i x t a b => (h.2 i x t a b).same s⟩
theorem TkL.snoc {H : Hp} {xs : List V} {ts : Ts} {x : V} {t : Tk} (h : TkL H xs ts) (hx : TkAt H x t) : TkL H (xs ++ [x]) (ts ++ [t]) := by
  refine ⟨by rw [List.length_append, List.length_append, h.1]; rfl, fun i y u e1 e2 => ?_⟩
  by_cases hi : i < xs.length
  · rw [List.getElem?_append_left hi] at e1
    rw [List.getElem?_append_left (by rw [← h.1]; exact hi)] at e2
    exact h.2 i y u e1 e2
  · rw [List.getElem?_append_right (by omega)] at e1
    rw [List.getElem?_append_right (by rw [← h.1]; omega), ← h.1] at e2
    cases hj : i - xs.length with
    | zero => rw [hj] at e1 e2; simp at e1 e2; subst e1; subst e2; exact hx
    | succ j => rw [hj] at e1; simp at e1
theorem low_sp : ∀ c ∈ cd lowS, c ∉ cd spcS := by decide +kernel
theorem upp_sp : ∀ c ∈ cd uppS, c ∉ cd spcS := by decide +kernel
theorem dgt_sp : ∀ c ∈ cd dgtS, c ∉ cd spcS := by decide +kernel
theorem sgn_sp : ∀ c ∈ cd sgnS, c ∉ cd spcS := by decide +kernel
theorem prs_sp : ∀ w ∈ prs, ∀ c ∈ cd w, c ∉ cd spcS := by decide +kernel
theorem Is.nsp {k w : Str} {r : List Nat} (h : Is k w r) : ∃ c ws, cd w = c :: ws ∧ c ∉ cd spcS := by
  cases h with
  | name e h => exact ⟨_, _, e, low_sp _ h⟩
  | var e h => exact ⟨_, _, e, upp_sp _ h⟩
  | int e h => exact ⟨_, _, e, dgt_sp _ h⟩
  | pair h =>
    obtain ⟨c, d, e, _⟩ := prs_low _ h
    exact ⟨c, [d], e, prs_sp _ h c (by rw [e]; exact List.mem_cons_self)⟩
  | single e h => exact ⟨_, _, e, sgn_sp _ h⟩
section
variable {P : Program} {w : World} {K : PySem.W.Frag} {mg : Str → Option Value} {base : Heap} (T : Txt K mg)
include T
theorem ok_tokens (G_token : FnOk P w K mg base CX0 2 T.token.f T.token.fd P_token spTok) : FnOk P w K mg base CX0 3 T.tokens.f T.tokens.fd P_tokens spToks := by
  refine T.tokens.F.ok sc_tokens (fun vs H Q E h => ?_) (fun cdv A outer s H vs Q E hr h => ?_)
  · obtain ⟨z, ts, rfl, _⟩ := h
    rfl
  obtain ⟨z, ts, rfl, h4, hx, q⟩ := h
  have hz : z.length ≤ sizeLine := Nat.le_trans h4 (by decide)
  have hzl : z.length = (cd z).length := len_cd z
  have hts : ts.length ≤ 4000 := by have := hx.len; omega
  refine ⟨_, (pss_cons (ps_if (pt_cmpR op_gt (pe_callB call_len_str (by rfl) T.zlen PySem.boot_len (pa_cons (pv 0) pa_nil)) (pe_glob (v := .int 4000) (by rfl) T.gLONGEST_TEXT ⟨_, rfl⟩) (nomark _)) (pss_one ps_never) pss_nil)
      (pss_cons (ps_set (i := 1) sc_tokens.nd rfl (Or.inl rfl) (pe_lst pa_nil))
      (pss_cons (ps_set (i := 2) sc_tokens.nd rfl (Or.inl rfl) pe_int)
      (pss_cons (ps_while PassesOwn.never (pt_cmpR op_lt (pv 2) (pe_callB call_len_str (by rfl) T.zlen PySem.boot_len (pa_cons (pv 0) pa_nil)) (nomark _)) (pss_one (ps_if (pt_cmpR op_in_sign (pe_ix ix_str (pv 0) (pv 2) (fun _ _ => rfl)) (pe_glob (v := .str " \n") (by rfl) T.gSPACES ⟨_, rfl⟩) (by rfl)) (pss_one (ps_aug (i := 2) sc_tokens.nd rfl (Or.inl rfl) pe_int ip_add)) (pss_cons (ps_set (i := 3) sc_tokens.nd rfl (Or.inl rfl) (pe_call G_token (hr.mono (by omega)) (by rfl) T.token.m T.token.F.kp T.token.b .nil pass0 (pa_cons (pv 0) (pa_cons (pv 2) pa_nil))))
      (pss_cons (ps_expr (pe_bm PySem.F.plainAttrs_list PySem.F.slot_list_append PySem.F.type_list_append mt_append (pv 1) (pa_cons (pv 3) pa_nil)))
      (pss_one (ps_aug (i := 2) sc_tokens.nd rfl (Or.inl rfl) (pe_callB call_len_str (by rfl) T.zlen PySem.boot_len (pa_cons (pe_ix ix_tup (pv 3) pe_int (fun _ _ => rfl)) pa_nil)) ip_add)))))))
      (pss_cons (ps_expr (pe_bm PySem.F.plainAttrs_list PySem.F.slot_list_append PySem.F.type_list_append mt_append (pv 1) (pa_cons (pe_tup (pa_cons pe_str (pa_cons pe_str (pa_cons (pe_callB call_len_str (by rfl) T.zlen PySem.boot_len (pa_cons (pv 0) pa_nil)) pa_nil)))) pa_nil)))
      (pss_one (ps_ret (pv 1)))))))), ?_⟩
  refine ⟨_, rfl, z, rfl, hz, _, _, rfl, rfl, _, rfl, iF (decide_eq_false (by omega)) ?_⟩
  refine ⟨sz0, fun D hD => ?_⟩
  refine ⟨fun m σ H2 => ∃ k ts0 ts1 xs u, σ = [some (.str z), some (.ref D), some (.int ((k : Nat) : Int)), u] ∧ Kp M0 H H2 ∧ k ≤ (cd z).length ∧ H2 D = some (.lst xs) ∧ TkL H2 xs ts0 ∧ Lex ((cd z).drop k) ts1 ∧ ts = ts0 ++ ts1 ∧ m = (cd z).length - k,
    ⟨_, 0, [], ts, [], none, rfl, Kp.refl.new hD, Nat.zero_le _, upd_same, ⟨rfl, fun i x t e => by simp at e⟩, hx, rfl, rfl⟩, ?_⟩
  rintro m σ H2 ⟨k, ts0, ts1, xs, u, rfl, kp, hk, hD2, hT, hL, ht, rfl⟩
  refine ⟨_, rfl, _, rfl, z, rfl, hz, _, _, rfl, rfl, _, rfl, ?_⟩
  have hsz : xs.length < sizeLine := by
    have e1 := hT.1
    have e2 : ts.length = ts0.length + ts1.length := by rw [ht, List.length_append]
    exact Nat.lt_of_le_of_lt (show xs.length ≤ 4000 by omega) (by decide)
  have nD : ∀ ys, H2 D ≠ some (.tup ys) := fun ys y => by rw [hD2] at y; cases y
  generalize hl : (cd z).drop k = l at hL
  cases hL with
  | nil =>
    have hk2 : (cd z).length ≤ k := List.drop_eq_nil_iff.mp hl
    refine iF (decide_eq_false (by omega)) ?_
    refine ⟨_, rfl, .inl ⟨rfl, _, .inl (.inl hD2)⟩, _, rfl, z, rfl, hz, sz3, fun t ht2 => ?_⟩
    have s1 : Same H2 (upd H2 t (.tup [.str "end", .str "", .int (z.length : Int)])) := same_upd (Same.refl H2) ht2
    refine ⟨D, xs, _, rfl, rfl, s1 _ _ hD2, hsz, _, rfl, ?_⟩
    have nD' : ∀ ys, (upd H2 t (.tup [.str "end", .str "", .int (z.length : Int)])) D ≠ some (.tup ys) := fun ys y => by rw [s1 _ _ hD2] at y; cases y
    have kp2 : Kp M0 H (upd (upd H2 t (.tup [.str "end", .str "", .int (z.length : Int)])) D (.lst (xs ++ [.ref t]))) := (kp.new ht2).loc hD
    have eT : ts0 = ts := by rw [ht, List.append_nil]
    rw [eT] at hT
    have hT2 : TkL (upd (upd H2 t (.tup [.str "end", .str "", .int (z.length : Int)])) D (.lst (xs ++ [.ref t]))) (xs ++ [.ref t]) (ts ++ [tk "end" ""]) :=
      TkL.snoc ((hT.same s1).upd nD') ((show TkAt _ (.ref t) (tk "end" "") from ⟨t, _, rfl, upd_same⟩).upd nD')
    refine q _ D kp2.same ⟨⟨_, upd_same, hT2.1, hT2.2⟩, ?_⟩
    rw [List.length_append, List.length_singleton]
    omega
  | spc hc hL2 =>
    rename_i c r
    have hlt : k < (cd z).length := by
      have e := drop_lt hl (by simp)
      rw [List.length_cons] at e
      omega
    have hcx : (cd z)[k]? = some c := by
      have e := drop_get hl 0
      simpa using e
    refine iT (decide_eq_true (by omega)) ⟨_, fun _ _ y => y, ?_⟩
    refine ⟨_, rfl, _, rfl, z, _, c, rfl, rfl, hz, atI_nat hcx, c, _, rfl, rfl, _, rfl, iT (decide_eq_true hc) ?_⟩
    refine ⟨_, rfl, _, _, rfl, rfl, ?_⟩
    refine ⟨(cd z).length - (k + 1), by omega, k + 1, ts0, ts1, xs, u, rfl, kp, hlt, hD2, hT, ?_, ht, rfl⟩
    have e : (cd z).drop (k + 1) = r := by
      rw [← List.drop_drop, hl]
      rfl
    rw [e]
    exact hL2
  | tok hi hL2 =>
    rename_i kd w2 r ts2
    obtain ⟨c, ws, hw, hns⟩ := hi.nsp
    have hlt : k + ((cd w2).length + r.length) = (cd z).length := by
      have e := drop_lt hl (by rw [hw]; simp)
      rw [List.length_append] at e
      omega
    have hwl : 0 < (cd w2).length := by rw [hw]; simp
    have hcx : (cd z)[k]? = some c := by
      have e := drop_get hl 0
      rw [hw] at e
      simpa using e
    refine iT (decide_eq_true (by omega)) ⟨_, fun _ _ y => y, ?_⟩
    refine ⟨_, rfl, _, rfl, z, _, c, rfl, rfl, hz, atI_nat hcx, c, _, rfl, rfl, _, rfl, iF (decide_eq_false hns) ?_⟩
    refine ⟨_, rfl, _, rfl, z, k, kd, w2, r, rfl, hz, hl, hi, fun H3 v s3 hv => ?_⟩
    obtain ⟨a, n, rfl, ha⟩ := id hv
    refine ⟨_, rfl, .inl ⟨rfl, _, .inl (.inl (s3 _ _ hD2))⟩, _, rfl, D, xs, _, rfl, rfl, s3 _ _ hD2, hsz, ?_⟩
    have nD3 : ∀ ys, H3 D ≠ some (.tup ys) := fun ys y => by rw [s3 _ _ hD2] at y; cases y
    have hv4 := hv.upd (o := .lst (xs ++ [.ref a])) nD3
    obtain ⟨a', n', ea, ha'⟩ := id hv4
    cases ea
    have hwz : w2.length ≤ sizeLine := by rw [len_cd]; omega
    refine ⟨_, rfl, _, rfl, a, _, _, _, rfl, rfl, SqT.of ha', atI_nat (j := 1) rfl, w2, rfl, hwz, _, _, rfl, rfl, ?_⟩
    refine ⟨(cd z).length - (k + (cd w2).length), by omega, k + (cd w2).length, ts0 ++ [(kd, w2)], ts2, xs ++ [.ref a], some (.ref a), ?_, (kp.trans (Kp.of_same s3)).loc hD, by omega, upd_same, ((hT.same s3).upd nD3).snoc hv4, ?_, ?_, rfl⟩
    · rw [len_cd]
      rfl
    · have e : (cd z).drop (k + (cd w2).length) = r := by
        rw [← List.drop_drop, hl, List.drop_left]
      rw [e]
      exact hL2
    · rw [ht, List.append_assoc]
      rfl
end
end Kt
/-! K14: parse -/
namespace Kt
open PySem L2
theorem FdAt.upd {H : Hp} {L q : Addr} {o : HO} {all : Ts} (h : FdAt H L all) (hL : L ≠ q) (hq : ∀ ys, H q ≠ some (.tup ys)) : FdAt (L2.upd H q o) L all := by
  obtain ⟨⟨xs, e, l⟩, z⟩ := h
  exact ⟨⟨xs, by rw [upd_ne hL]; exact e, TkL.upd l hq⟩, z⟩
theorem FdAt.same {H H' : Hp} {L : Addr} {all : Ts} (h : FdAt H L all) (s : Same H H') : FdAt H' L all := by
  obtain ⟨⟨xs, e, l⟩, z⟩ := h
  exact ⟨⟨xs, s _ _ e, TkL.same l s⟩, z⟩
theorem PaAt.upd {C p L q : Addr} {H : Hp} {o : HO} {all : Ts} {k : Nat} (S : PaAt C H p L all k) (hp : p ≠ q) (hL : L ≠ q) (hq : ∀ ys, H q ≠ some (.tup ys)) : PaAt C (L2.upd H q o) p L all k := by
  obtain ⟨dx, m, e, h0, h4⟩ := S.ob
  exact ⟨S.fd.upd hL hq, S.le, dx, m, by rw [upd_ne hp]; exact e, h0, h4⟩
theorem cutV_at {xs : List V} {k k' : Nat} (h1 : k ≤ k') (h2 : k' ≤ xs.length) : cutV xs (some (k : Int)) (some (k' : Int)) = (xs.drop k).take (k' - k) := by
  unfold cutV
  rw [HT.sIx_nat, HT.sIx_nat, Nat.min_eq_left (Nat.le_trans h1 h2), Nat.min_eq_left h2]
theorem TkL.cut {H : Hp} {xs : List V} {ts : Ts} (h : TkL H xs ts) (a n : Nat) : TkL H ((xs.drop a).take n) ((ts.drop a).take n) := by
  refine ⟨by rw [List.length_take, List.length_take, List.length_drop, List.length_drop, h.1], fun i x t e1 e2 => ?_⟩
  rw [List.getElem?_take] at e1 e2
  split at e1
  · rename_i hi
    rw [if_pos hi] at e2
    rw [List.getElem?_drop] at e1 e2
    exact h.2 _ x t e1 e2
  · cases e1
theorem nWd_take {ts : Ts} {i : Nat} {t : Tk} (h : ts[i]? = some t) : nWd (ts.take (i + 1)) = nWd (ts.take i) + (if t.1 = "sign" then 0 else 1) := by
  unfold nWd
  rw [List.take_add_one, h, List.filter_append, List.length_append]
  by_cases e : t.1 = "sign"
  · rw [if_pos e]
    simp [e]
  · rw [if_neg e]
    simp [e]
def spParse : Sp := fun vs H Q _ => ∃ (z : Str) (ts : Ts) (ss : List Sm), vs = [.str z] ∧ z.length ≤ 4000 ∧ Lex (cd z) ts ∧ deepOk (ts ++ [tk "end" ""]) ∧ PPrg (ts ++ [tk "end" ""]) ss ∧ ss.length ≤ 60 ∧
  ∀ H' v, Same H H' → Rp (dom H) H' v (.list (ss.map Sm.enc)) → Q v H'
theorem PStm.ne {ts : Ts} {s : Sm} {r : Ts} (h : PStm ts s r) : ∃ t r', ts = t :: r' ∧ t.1 ≠ "end" := by
  rcases h with ⟨r0, b, rfl, _⟩ | ⟨r0, r1, lo, hi, rfl, _⟩ | ⟨r0, ms, rfl, _⟩ | ⟨t, r0, c, rfl, ht, _⟩ | ⟨n, r0, a, r1, b, rfl, _⟩
  · exact ⟨_, _, rfl, by decide +kernel⟩
  · exact ⟨_, _, rfl, by decide +kernel⟩
  · exact ⟨_, _, rfl, by decide +kernel⟩
  · refine ⟨_, _, rfl, ?_⟩
    rcases ht with h | h
    · rw [h]; decide +kernel
    · rw [h]; decide +kernel
  · exact ⟨_, _, rfl, show ("name" : Str) ≠ "end" by decide +kernel⟩
section
variable {P : Program} {w : World} {K : PySem.W.Frag} {mg : Str → Option Value} {base : Heap} (T : Txt K mg)
include T
theorem ok_parse (G_tokens : FnOk P w K mg base CX0 3 T.tokens.f T.tokens.fd P_tokens spToks) (G_too_deep : FnOk P w K mg base CX0 1 T.too_deep.f T.too_deep.fd P_too_deep spDeep) (G_parser_init : FnOk P w K mg base CX0 1 T.parser_init.f T.parser_init.fd P_parser_init (spPIn T.C))
    (G_m_kind : FnOk P w K mg base CX0 1 T.m_kind.f T.m_kind.fd P_m_kind (spKind T.C)) (G_m_statement : FnOk P w K mg base CX0 25 T.m_statement.f T.m_statement.fd P_m_statement (spRd T.C Sm.enc PStm)) : FnOk P w K mg base CX0 26 T.parse.f T.parse.fd P_parse spParse := by
  refine T.parse.F.ok sc_parse (fun vs H Q E h => ?_) (fun cdv A outer s H vs Q E hr h => ?_)
  · obtain ⟨z, ts, ss, rfl, _⟩ := h
    rfl
  obtain ⟨z, ts, ss, rfl, h4, hx, hdp, hP, h60, q⟩ := h
  generalize hall : ts ++ [tk "end" ""] = all at hdp hP
  refine ⟨_, (pss_cons (ps_set (i := 1) sc_parse.nd rfl (Or.inl rfl) (pe_call G_tokens (hr.mono (by omega)) (by rfl) T.tokens.m T.tokens.F.kp T.tokens.b .nil pass0 (pa_cons (pv 0) pa_nil)))
      (pss_cons (ps_if (pt_val (pe_call G_too_deep (hr.mono (by omega)) (by rfl) T.too_deep.m T.too_deep.F.kp T.too_deep.b .nil pass0 (pa_cons (pv 1) pa_nil))) (pss_one ps_never) pss_nil)
      (pss_cons (ps_set (i := 2) sc_parse.nd rfl (Or.inl rfl) (pe_make T.mkP G_parser_init (hr.mono (by omega)) (by rfl) T.mgC T.parser_init.b .nil pass0 (pa_cons (pv 1) pa_nil)))
      (pss_cons (ps_set (i := 3) sc_parse.nd rfl (Or.inl rfl) (pe_lst pa_nil))
      (pss_cons (ps_set (i := 4) sc_parse.nd rfl (Or.inl rfl) (pe_lst pa_nil))
      (pss_cons (ps_while PassesOwn.never (pt_cmpR op_ne (pe_meth0 (pv 2) T.cl T.m_kind.m G_m_kind (hr.mono (by omega)) T.m_kind.b .nil pass0) pe_str (nomark _)) (pss_cons (ps_set (i := 5) sc_parse.nd rfl (Or.inl rfl) (pe_fld (pv 2) rfl))
      (pss_cons (ps_expr (pe_bm PySem.F.plainAttrs_list PySem.F.slot_list_append PySem.F.type_list_append mt_append (pv 3) (pa_cons (pe_meth0 (pv 2) T.cl T.m_statement.m G_m_statement (hr.mono (by omega)) T.m_statement.b .nil pass0) pa_nil)))
      (pss_one (ps_expr (pe_bm PySem.F.plainAttrs_list PySem.F.slot_list_append PySem.F.type_list_append mt_append (pv 4) (pa_cons (pe_callB call_len_seq (by rfl) T.zlen PySem.boot_len (pa_cons (pe_lc (own := [("token", 6)]) (g := gName 6) (by rfl) sc_parse.nd (pi_list (pe_slice sl_list (pv 1) (po_some (pv 5)) (po_some (pe_fld (pv 2) rfl)))) (blkOk_by (own := [("token", 6)]) (N := N_parse) (sc := defScope s_parse) (by decide +kernel)) (fun _ _ _ _ _ => pg_name (i := 6) sc_parse.nd rfl (Or.inl rfl)) (fun _ _ _ _ _ => (pts_one (pt_cmpR op_ne (pe_ix (show IxR _ (rIxT K) from ix_tup) (pv 6) pe_int (fun _ _ => rfl)) pe_str (nomark _)))) (fun _ _ _ _ _ => (pv 6))) pa_nil)) pa_nil)))))))
      (pss_cons (ps_if (PW.pt (pw_or (pt_cmpR op_gt (pe_callB call_len_seq (by rfl) T.zlen PySem.boot_len (pa_cons (pv 3) pa_nil)) (pe_glob (v := .int 60) (by rfl) T.gMOST_STATEMENTS ⟨_, rfl⟩) (nomark _)) (pw_or (pt_cmpR op_gt (pe_fld (pv 2) rfl) (pe_glob (v := .int 4) (by rfl) T.gMOST_TERMS ⟨_, rfl⟩) (nomark _)) (pw_or1 (pt_cmpR op_gt (pe_callB (cr_max rfl) (by rfl) T.zmax (by decide +kernel) (pa_cons (pe_op op_cat (pv 4) (pe_lst (pa_cons pe_int pa_nil))) pa_nil)) (pe_glob (v := .int 60) (by rfl) T.gMOST_WORDS ⟨_, rfl⟩) (nomark _)))))) (pss_one ps_never) pss_nil)
      (pss_one (ps_ret (pv 3)))))))))), ?_⟩
  refine ⟨_, rfl, z, ts, rfl, h4, hx, fun H1 L s1 F1 => ?_⟩
  rw [hall] at F1
  refine ⟨_, rfl, L, all, rfl, F1, hdp, _, rfl, iteF ?_⟩
  refine ⟨_, rfl, fun p dx hp1 hdx hdp2 => ?_⟩
  -- the parser's object
  have sA : Same H1 (upd (upd H1 dx (.own p)) p (.ins T.C dx [])) := same_upd (same_upd (Same.refl H1) hdx) (by rw [upd_ne (Ne.symm hdp2)]; exact hp1)
  refine ⟨p, dx, L, rfl, upd_same, fun H2 kp2 hp2 => ⟨rfl, ?_⟩⟩
  have s2 : Same H1 H2 := fun b o e => kp2.oth b o (sA b o e) fun y => by
    have y' : b = p := y
    rw [y', hp1] at e
    cases e
  have F2 : FdAt H2 L all := F1.same s2
  have S2 : PaAt T.C H2 p L all 0 := ⟨F2, Nat.zero_le _, dx, 0, hp2, Int.le_refl 0, by decide⟩
  refine ⟨sz0, fun D1 hD1 => ⟨sz0, fun D2 hD2 => ?_⟩⟩
  -- two lists
  have hDD : D1 ≠ D2 := fun y => by rw [← y, upd_same] at hD2; cases hD2
  have hD2' : H2 D2 = none := by rw [upd_ne (Ne.symm hDD)] at hD2; exact hD2
  have np1 : p ≠ D1 := fun y => S2.ne (by rw [y]; exact hD1)
  have np2 : p ≠ D2 := fun y => S2.ne (by rw [y]; exact hD2')
  have nL1 : L ≠ D1 := fun y => S2.neL (by rw [y]; exact hD1)
  have nL2 : L ≠ D2 := fun y => S2.neL (by rw [y]; exact hD2')
  have sH2 : Same H H2 := s1.trans s2
  have fD1 : H D1 = none := sH2.free hD1
  have fD2 : H D2 = none := sH2.free hD2'
  have fp : H p = none := s1.free hp1
  have S3 : PaAt T.C (upd (upd H2 D1 (.lst [])) D2 (.lst [])) p L all 0 := (S2.nw hD1).nw hD2
  have s3 : Same H (upd (upd H2 D1 (.lst [])) D2 (.lst [])) := same_upd (same_upd sH2 hD1) hD2
  let B : Addr → Prop := fun a => H a ≠ none ∨ a = D1 ∨ a = D2 ∨ a = p
  refine ⟨fun m σ H4 => ∃ k ss1 ss2 vs ws u5 u6, σ = [some (.str z), some (.ref L), some (.ref p), some (.ref D1), some (.ref D2), u5, u6] ∧ Same H H4 ∧ PaAt T.C H4 p L all k ∧ PPrg (all.drop k) ss2 ∧ ss = ss1 ++ ss2 ∧ H4 D1 = some (.lst vs) ∧ RpL B H4 vs (ss1.map Sm.enc) ∧
      H4 D2 = some (.lst (ws.map V.int)) ∧ (∀ y ∈ ws, y ≤ 60) ∧ ws.length = ss1.length ∧ m = ss2.length,
    ⟨_, 0, [], ss, [], [], none, none, rfl, s3, S3, hP, rfl, by rw [upd_ne hDD]; exact upd_same, RpL.nil, upd_same, (fun y hy => by cases hy), rfl, rfl⟩, ?_⟩
  rintro m σ H4 ⟨k, ss1, ss2, vs, ws, u5, u6, rfl, s4, S4, hP4, hss, hV, hR, hW, hW60, hWl, rfl⟩
  obtain ⟨dx4, m4, hp4, hm0, hm4⟩ := S4.ob
  generalize hd : all.drop k = dts at hP4
  have hlen : ss.length = ss1.length + ss2.length := by rw [hss, List.length_append]
  cases hP4 with
  | nil he =>
    rename_i t
    refine ⟨_, rfl, p, dx4, _, rfl, hp4, fl_meth _ _ _ _ (by decide +kernel), p, L, all, k, t, [], rfl, S4, hd, rfl, _, rfl, ?_⟩
    refine iF (by rw [dec_vn, decide_eq_true he]; rfl) ?_
    have lv : vs.length = ss1.length := by rw [hR.1, List.length_map]
    refine ⟨_, rfl, D1, vs, rfl, .inl (SqL.of hV), _, _, rfl, rfl, _, rfl, iF (decide_eq_false (by omega)) ?_⟩
    refine ⟨_, rfl, p, T.C, dx4, _, _, rfl, hp4, T.cl, T.nMost, flds_most _ _ _, _, _, rfl, rfl, _, rfl, iF (decide_eq_false (by omega)) ?_⟩
    refine ⟨_, rfl, sz1, fun N hN => ⟨D2, N, _, _, rfl, rfl, (same_upd (Same.refl H4) hN) _ _ hW, upd_same, ?_, fun N2 hN2 => ?_⟩⟩
    · rw [List.length_map, List.length_singleton]
      exact Nat.le_of_lt (small1000 (by omega))
    · refine ⟨N2, ws ++ [0], rfl, SqL.of (by rw [upd_same, List.map_append]; rfl), by simp, fun mx hm _ => ?_⟩
      have hmx : mx ≤ 60 := by
        rcases List.mem_append.mp hm with h | h
        · exact hW60 mx h
        · have e : mx = 0 := by simpa using h
          omega
      refine ⟨_, _, rfl, rfl, _, rfl, iF (decide_eq_false (by omega)) ?_⟩
      have s5 : Same H4 (upd (upd H4 N (.lst [.int 0])) N2 (.lst (ws.map V.int ++ [.int 0]))) := same_upd (same_upd (Same.refl H4) hN) hN2
      have e2 : ss = ss1 := by rw [hss, List.append_nil]
      refine ⟨_, rfl, q _ _ (s4.trans s5) ?_⟩
      rw [e2]
      exact ((hR.weak fun b e => .inl e).same s5).lst' (s5 _ _ hV) fun y => y fD1
  | cons hS hW5 hP5 =>
    rename_i c r sm ss3
    obtain ⟨t, r', et, hne⟩ := hS.ne
    refine ⟨_, rfl, p, dx4, _, rfl, hp4, fl_meth _ _ _ _ (by decide +kernel), p, L, all, k, t, r', rfl, S4, hd.trans et, rfl, _, rfl, ?_⟩
    refine iT (by rw [dec_vn, decide_eq_false hne]; rfl) ⟨_, fun _ _ y => y, ?_⟩
    refine ⟨_, rfl, p, T.C, dx4, _, _, rfl, hp4, T.cl, T.nAt, flds_at _ _ _, ?_⟩
    refine ⟨_, rfl, .inl ⟨rfl, _, .inl (.inl hV)⟩, _, rfl, p, dx4, _, rfl, hp4, fl_meth _ _ _ _ (by decide +kernel), p, L, all, k, sm, r, rfl, S4, (by rw [hd]; exact hS), fun v5 H5 k5 kp5 S5 e5 D5 => ?_⟩
    have hV5 := kp5.oth D1 _ hV (Ne.symm np1)
    have hW5' := kp5.oth D2 _ hW (Ne.symm np2)
    have lv : vs.length = ss1.length := by rw [hR.1, List.length_map]
    refine ⟨D1, vs, v5, rfl, rfl, hV5, small1000 (by omega), ?_⟩
    -- H6: the statement is in the list
    have nD1 : ∀ ys, H5 D1 ≠ some (.tup ys) := fun ys y => by rw [hV5] at y; cases y
    have S6 : PaAt T.C (upd H5 D1 (.lst (vs ++ [v5]))) p L all k5 := S5.upd np1 nL1 nD1
    have hV6 : (upd H5 D1 (.lst (vs ++ [v5]))) D1 = some (.lst (vs ++ [v5])) := upd_same
    have hW6 : (upd H5 D1 (.lst (vs ++ [v5]))) D2 = some (.lst (ws.map V.int)) := by rw [upd_ne (Ne.symm hDD)]; exact hW5'
    have kpB : ∀ b, Mp p b → B b := fun b e => .inr (.inr (.inr e))
    have hR6 : RpL B (upd H5 D1 (.lst (vs ++ [v5]))) (vs ++ [v5]) ((ss1 ++ [sm]).map Sm.enc) := by
      rw [List.map_append]
      refine RpL.snoc ((hR.kp kp5 kpB).upd (.inl (.inr (.inl rfl)))) ((D5.weak fun b e => ?_).upd (.inl (.inr (.inl rfl))))
      rcases e with e | e | e | e
      · exact fun y => e (s4.free y)
      · rw [e]; exact some_ne hV
      · rw [e]; exact some_ne hW
      · rw [e]; exact some_ne hp4
    have s6 : Same H (upd H5 D1 (.lst (vs ++ [v5]))) := fun b o e => by
      have n1 : b ≠ D1 := ne_of_none e fD1
      have n2 : b ≠ p := ne_of_none e fp
      rw [upd_ne n1]
      exact kp5.oth b o (s4 b o e) n2
    generalize (upd H5 D1 (.lst (vs ++ [v5]))) = H6 at S6 hV6 hW6 hR6 s6 ⊢
    obtain ⟨dx6, m6, hp6, _⟩ := S6.ob
    obtain ⟨⟨xs, hL6, hT6⟩, hz6⟩ := id S6.fd
    have hT6' : TkL H6 xs all := hT6
    have hlx : xs.length = all.length := hT6.1
    -- where the statement's tokens stand
    have hlc : k + (c.length + r.length) = all.length := by
      have e := drop_lt hd (by rw [et]; simp)
      rw [List.length_append] at e
      exact e
    have hrl : r.length = all.length - k5 := by rw [← e5, List.length_drop]
    have hk5 : k5 ≤ all.length := S5.le
    have hkc : k5 - k = c.length := by omega
    have hcut : (all.drop k).take (k5 - k) = c := by rw [hd, hkc, List.take_left]
    refine ⟨_, rfl, .inl ⟨rfl, _, .inl (.inl hW6)⟩, ?_⟩
    -- the slice, the comprehension
    refine ⟨_, rfl, _, rfl, _, rfl, _, rfl, p, T.C, dx6, _, _, rfl, hp6, T.cl, T.nAt, flds_at _ _ _, _, rfl, L, xs, rfl, SqL.of hL6, fun N hN => ?_⟩
    have eN : cutV xs (some (k : Int)) (some (k5 : Int)) = (xs.drop k).take (k5 - k) := cutV_at (by omega) (by omega)
    rw [eN]
    have hTc : TkL H6 ((xs.drop k).take (k5 - k)) c := by
      have e := hT6'.cut k (k5 - k)
      rw [hcut] at e
      exact e
    generalize (xs.drop k).take (k5 - k) = ys at hTc ⊢
    have s7 : Same H6 (upd H6 N (.lst ys)) := same_upd (Same.refl H6) hN
    have hTc7 : TkL (upd H6 N (.lst ys)) ys c := hTc.same s7
    have hN7 : (upd H6 N (.lst ys)) N = some (.lst ys) := upd_same
    generalize (upd H6 N (.lst ys)) = H7 at s7 hTc7 hN7 ⊢
    refine ⟨N, rfl, ⟨_, SqL.of hN7⟩, fun D hD => ?_⟩
    have nND : N ≠ D := fun y => by rw [← y, hN7] at hD; cases hD
    refine lc_list (K := K) (a := N) (xs := ys) (fun i H8 => ∃ acc, H8 = upd H7 D (.lst acc) ∧ acc.length = nWd (c.take i)) ⟨[], rfl, rfl⟩ (fun i H8 _ h => by
      obtain ⟨acc, rfl, _⟩ := h
      exact SqL.of (by rw [upd_ne nND]; exact hN7)) ?_ ?_
    · rintro i x H8 hi ⟨acc, rfl, hacc⟩
      have hi2 : i < c.length := by rw [← hTc7.1]; exact (List.getElem?_eq_some_iff.mp hi).1
      obtain ⟨a, n, rfl, ha⟩ := hTc7.2 i x c[i] hi (List.getElem?_eq_getElem hi2)
      have hia := nWd_take (List.getElem?_eq_getElem hi2)
      generalize c[i] = t5 at ha hia
      have ha8 : (upd H7 D (.lst acc)) a = some (.tup [.str t5.1, .str t5.2, .int n]) := by
        rw [upd_ne (ne_of_none ha hD)]
        exact ha
      refine ⟨rfl, ?_⟩
      refine ⟨_, rfl, a, _, _, _, rfl, rfl, SqT.of ha8, atI_nat (j := 0) rfl, rfl, _, rfl, ?_⟩
      by_cases e : t5.1 = "sign"
      · refine iF (by rw [dec_vn, decide_eq_true e]; rfl) ?_
        exact ⟨acc, rfl, by rw [hacc, hia, if_pos e]; rfl⟩
      · refine iT (by rw [dec_vn, decide_eq_false e]; rfl) ?_
        have hc4 : c.length ≤ 4001 := by have := S6.fd.z; omega
        have hw2 : nWd (c.take i) ≤ c.length := by
          unfold nWd
          refine Nat.le_trans (List.length_filter_le _ _) ?_
          rw [List.length_take]
          omega
        refine ⟨_, rfl, acc, upd_same, ?_, acc ++ [.ref a], upd_upd, ?_⟩
        · rw [hacc]
          exact Nat.lt_of_le_of_lt (show nWd (c.take i) ≤ 4001 by omega) (by decide)
        · rw [List.length_append, hacc, hia, if_neg e]
          rfl
    · rintro H8 ⟨acc, rfl, hacc⟩
      have hcl : ys.length = c.length := hTc7.1
      rw [hcl, List.take_length] at hacc
      have s8 : Same H6 (upd H7 D (.lst acc)) := same_upd s7 hD
      refine ⟨D, acc, rfl, .inl (SqL.of upd_same), D2, ws.map V.int, _, rfl, rfl, s8 _ _ hW6, ?_, ?_⟩
      · rw [List.length_map]
        exact small1000 (by omega)
      have nW8 : ∀ zs, (upd H7 D (.lst acc)) D2 ≠ some (.tup zs) := fun zs y => by rw [s8 _ _ hW6] at y; cases y
      refine ⟨ss3.length, by rw [List.length_cons]; omega, k5, ss1 ++ [sm], ss3, vs ++ [v5], ws ++ [(acc.length : Int)], _, _, rfl, ?_, (S6.same s8).upd np2 nL2 nW8, by rw [e5]; exact hP5, by rw [hss, List.append_assoc]; rfl, by rw [upd_ne hDD]; exact s8 _ _ hV6,
        (hR6.same s8).upd (.inl (.inr (.inr (.inl rfl)))), by rw [upd_same, List.map_append]; rfl, ?_, by rw [List.length_append, List.length_append, hWl]; rfl, rfl⟩
      · intro b o e
        rw [upd_ne (ne_of_none e fD2)]
        exact s8 b o (s6 b o e)
      · intro y hy
        rcases List.mem_append.mp hy with h | h
        · exact hW60 y h
        · have e : y = (acc.length : Int) := by simpa using h
          rw [e, hacc]
          omega
end
end Kt
/-! K15: the written forms of terms, atoms, conditions -/
namespace Kt
open PySem L2
theorem szM {n : Nat} (h : n ≤ 1000000) : n ≤ sizeLine := Nat.le_trans h (by decide)
theorem szM2 {n : Nat} (h : n ≤ 1000010) : n ≤ 16777216 := Nat.le_trans h (by decide)
theorem call_strE {X : Cx} : CallR X (.type "str") (fun xs H Q => (∃ i, xs = [.int i] ∧ i.natAbs.log2 < 1920 ∧ Q (.str (toString i)) H) ∨ ∃ a, xs = [.str a] ∧ Q (.str a) H) := CallR.or call_str_int SkE.call_str_str
theorem i4_log {n : Int} (h : i4 n) : n.natAbs.log2 < 1920 := by
  have h2 : n.natAbs < 2 ^ 1920 := by
    have e : n.natAbs < 10000 := by have := h.1; have := h.2; omega
    exact Nat.lt_trans e (by decide +kernel)
  by_cases e : n.natAbs = 0
  · rw [e]; decide
  · exact (Nat.log2_lt e).mpr h2
/-- [te for x in xs] where te is a text each time and nothing that stands is changed -/
theorem lc_str {K : PySem.W.Frag} {a D : Addr} {xs : List V} {v : Nat} {te : TE} {σ : L2.St} {H1 : Hp} {Qd : Hp → Prop} {sl : List Str} (hl : sl.length = xs.length) (hz : xs.length ≤ 1000) (hq : SqL K H1 a xs) (hD : H1 D = none)
    (hE : ∀ (i : Nat) (x : V) (s : Str) (Hc : Hp) (Q : VK), xs[i]? = some x → sl[i]? = some s → Same H1 Hc → (∀ H', Same Hc H' → Q (.str s) H') → te ((σ.set v none).set v (some x)) Hc Q)
    (hd : ∀ H', Same H1 H' → H' D = some (.lst (sl.map V.str)) → Qd H') :
    ∃ W : Nat → Nat → Hp → Prop, (∃ m, W 0 m (upd H1 D (.lst []))) ∧ ∀ i m H, W i m H →
      ((Itl K a).stop i H ∧ Qd H) ∨ ((Itl K a).go i H ∧ ∃ Nx : Hp → Prop, (∀ H', Nx H' → ∃ m', m' < m ∧ W (i + 1) m' H') ∧ ∀ x H', (Itl K a).yld i H x H' → gName v x (wipe σ [v]) H' fun σ2 H2 => wipe σ2 [v] = wipe σ [v] ∧ tYes σ2 H2 fun b H3 =>
        if b = true then te σ2 H3 fun y H4 => ∃ acc, H4 D = some (.lst acc) ∧ acc.length < sizeLine ∧ Nx (upd H4 D (.lst (acc ++ [y]))) else Nx H3) := by
  refine lc_list (K := K) (a := a) (xs := xs) (fun i Hc => Same H1 Hc ∧ Hc D = some (.lst ((sl.take i).map V.str))) ⟨same_upd (Same.refl H1) hD, upd_same⟩ (fun i Hc _ h => h.1.seq hq) ?_ ?_
  · rintro i x Hc hi ⟨s1, h1⟩
    have hi2 : i < sl.length := by rw [hl]; exact (List.getElem?_eq_some_iff.mp hi).1
    have hsi : sl[i]? = some sl[i] := List.getElem?_eq_getElem hi2
    refine ⟨?_, ?_⟩
    · show ((σ.set v none).set v (some x)).set v none = σ.set v none
      rw [List.set_set, List.set_set]
    · simp only [tYes, ↓reduceIte]
      refine hE i x sl[i] Hc _ hi hsi s1 fun H' s2 => ⟨_, s2 _ _ h1, ?_, ?_, ?_⟩
      · rw [List.length_map, List.length_take]
        exact small1000 (by omega)
      · intro b o e
        rw [upd_ne (ne_of_none e hD)]
        exact s2 _ _ (s1 _ _ e)
      · rw [upd_same, List.take_add_one, hsi, List.map_append]
        rfl
  · rintro Hc ⟨s1, h1⟩
    rw [← hl, List.take_length] at h1
    exact hd Hc s1 h1
abbrev rAS : R2 := fun x y H Q => ∃ i j, x = .str i ∧ y = .str j ∧ i.length + j.length ≤ sizeLine ∧ Q (.str (i ++ j)) H
/-- the promise of a def that writes -/
def spF {α : Type} (enc : α → PyData) (pc : α → List Pc) (ok : α → Prop) : Sp := fun vs H Q _ => ∃ (v : V) (x : α), vs = [v] ∧ Rp M0 H v (enc x) ∧ ok x ∧ (tx (pc x)).length ≤ 1000000 ∧ ∀ H', Same H H' → Q (.str (tx (pc x))) H'
def spFT : Nat → Sp
  | 0 => fun _ _ _ _ => False
  | d + 1 => spF Tm.enc pT (Tm.ok d)
def Tm.kd : Tm → Str
  | .int _ => "int"
  | .sym _ => "sym"
  | .var _ => "var"
  | .op _ _ _ => "op"
def Tm.sn : Tm → Str
  | .op g _ _ => g
  | _ => ""
theorem Tm.kd_op (t : Tm) : decide (V.str t.kd = V.str "op") = t.isOp := by
  cases t with
  | int n => show decide (V.str "int" = V.str "op") = false; decide +kernel
  | sym n => show decide (V.str "sym" = V.str "op") = false; decide +kernel
  | var n => show decide (V.str "var" = V.str "op") = false; decide +kernel
  | op g l r => exact decide_eq_true rfl
theorem Tm.isSum_eq (t : Tm) : t.isSum = (t.isOp && !decide (t.sn = "*")) := by cases t <;> rfl
theorem Rp.tm {B : Addr → Prop} {H : Hp} {v : V} {t : Tm} (h : Rp B H v t.enc) : ∃ a xs, v = .ref a ∧ H a = some (.tup xs) ∧ xs[0]? = some (.str t.kd) ∧ (t.isOp = true → xs[1]? = some (.str t.sn)) := by
  cases t with
  | int n =>
    obtain ⟨a, x0, x1, rfl, ha, q0, q1⟩ := h.tup2
    exact ⟨a, _, rfl, ha, by rw [q0.of_str]; rfl, fun z => by cases z⟩
  | sym n =>
    obtain ⟨a, x0, x1, rfl, ha, q0, q1⟩ := h.tup2
    exact ⟨a, _, rfl, ha, by rw [q0.of_str]; rfl, fun z => by cases z⟩
  | var n =>
    obtain ⟨a, x0, x1, rfl, ha, q0, q1⟩ := h.tup2
    exact ⟨a, _, rfl, ha, by rw [q0.of_str]; rfl, fun z => by cases z⟩
  | op g l r =>
    obtain ⟨a, x0, x1, x2, x3, rfl, ha, q0, q1, q2, q3⟩ := h.tup4
    exact ⟨a, _, rfl, ha, by rw [q0.of_str]; rfl, fun _ => by rw [q1.of_str]; rfl⟩
theorem tx_par (x : List Pc) : tx (par x) = ("(" : Str) ++ tx x ++ (")" : Str) := by
  unfold par
  rw [tx_app, tx_app, tx_tk, tx_tk]
section
variable {P : Program} {w : World} {K : PySem.W.Frag} {mg : Str → Option Value} {base : Heap} (T : Txt K mg)
include T
theorem ok_format_term {j : Nat} (G_format_term : FnOk P w K mg base CX0 j T.format_term.f T.format_term.fd P_format_term (spFT j)) : FnOk P w K mg base CX0 (j + 1) T.format_term.f T.format_term.fd P_format_term (spFT (j + 1)) := by
  refine T.format_term.F.ok sc_format_term (fun vs H Q E h => ?_) (fun cdv A outer s H vs Q E hr h => ?_)
  · obtain ⟨v, x, rfl, _⟩ := h
    rfl
  obtain ⟨v, x, rfl, hR, hx, hz, q⟩ := h
  refine ⟨_, (pss_cons (ps_set (i := 1) sc_format_term.nd rfl (Or.inl rfl) (pe_ix ix_tup (pv 0) pe_int (fun _ _ => rfl)))
      (pss_cons (ps_if (pt_cmpR op_eq (pv 1) pe_str (nomark _)) (pss_cons (ps_asg (pv 0) (pg_tup rfl (pgs_cons (pg_name (i := 2) sc_format_term.nd rfl (Or.inl rfl)) (pgs_cons (pg_name (i := 3) sc_format_term.nd rfl (Or.inl rfl)) (pgs_cons (pg_name (i := 4) sc_format_term.nd rfl (Or.inl rfl)) (pgs_cons (pg_name (i := 5) sc_format_term.nd rfl (Or.inl rfl)) pgs_nil))))))
      (pss_cons (ps_set (i := 6) sc_format_term.nd rfl (Or.inl rfl) (pe_call G_format_term (hr.mono (by omega)) (by rfl) T.format_term.m T.format_term.F.kp T.format_term.b .nil pass0 (pa_cons (pv 4) pa_nil)))
      (pss_cons (ps_set (i := 7) sc_format_term.nd rfl (Or.inl rfl) (pe_call G_format_term (hr.mono (by omega)) (by rfl) T.format_term.m T.format_term.F.kp T.format_term.b .nil pass0 (pa_cons (pv 5) pa_nil)))
      (pss_cons (ps_if (PW.pt (pw_and (pt_cmpR op_eq (pv 3) pe_str (nomark _)) (pw_and (pt_cmpR op_eq (pe_ix ix_tup (pv 4) pe_int (fun _ _ => rfl)) pe_str (nomark _)) (pw_and1 (pt_cmpR op_ne (pe_ix ix_tup (pv 4) pe_int (fun _ _ => rfl)) pe_str (nomark _)))))) (pss_one (ps_set (i := 6) sc_format_term.nd rfl (Or.inl rfl) (pe_op op_add_str (pe_op op_add_str pe_str (pv 6)) pe_str))) pss_nil)
      (pss_cons (ps_if (pt_cmpR op_eq (pe_ix ix_tup (pv 5) pe_int (fun _ _ => rfl)) pe_str (nomark _)) (pss_one (ps_set (i := 7) sc_format_term.nd rfl (Or.inl rfl) (pe_op op_add_str (pe_op op_add_str pe_str (pv 7)) pe_str))) pss_nil)
      (pss_one (ps_ret (pe_op op_add_str (pe_op op_add_str (pe_op op_add_str (pe_op op_add_str (pv 6) pe_str) (pv 3)) pe_str) (pv 7))))))))) pss_nil)
      (pss_one (ps_ret (pe_callTy call_strE (by rfl) T.zstr (by decide +kernel) (pa_cons (pe_ix ix_tup (pv 0) pe_int (fun _ _ => rfl)) pa_nil)))))), ?_⟩
  cases x with
  | int n =>
    obtain ⟨a, x0, x1, rfl, ha, q0, q1⟩ := hR.tup2
    rw [q0.of_str, q1.of_int] at ha
    refine ⟨_, rfl, a, _, _, _, rfl, rfl, SqT.of ha, atI_nat (j := 0) rfl, ?_⟩
    refine ⟨_, rfl, rfl, _, rfl, iF (by decide +kernel) ?_⟩
    refine ⟨_, rfl, a, _, _, _, rfl, rfl, SqT.of ha, atI_nat (j := 1) rfl, .inl ⟨n, rfl, ?_, ?_⟩⟩
    · exact i4_log (by cases j <;> exact hx)
    · have e := q H (Same.refl H)
      rw [show pT (.int n) = [.tk "int" (dg n)] from rfl, tx_tk] at e
      exact e
  | sym n =>
    obtain ⟨a, x0, x1, rfl, ha, q0, q1⟩ := hR.tup2
    rw [q0.of_str, q1.of_str] at ha
    refine ⟨_, rfl, a, _, _, _, rfl, rfl, SqT.of ha, atI_nat (j := 0) rfl, ?_⟩
    refine ⟨_, rfl, rfl, _, rfl, iF (by decide +kernel) ?_⟩
    refine ⟨_, rfl, a, _, _, _, rfl, rfl, SqT.of ha, atI_nat (j := 1) rfl, .inr ⟨n, rfl, ?_⟩⟩
    have e := q H (Same.refl H)
    rw [show pT (.sym n) = [.tk "name" n] from rfl, tx_tk] at e
    exact e
  | var n =>
    obtain ⟨a, x0, x1, rfl, ha, q0, q1⟩ := hR.tup2
    rw [q0.of_str, q1.of_str] at ha
    refine ⟨_, rfl, a, _, _, _, rfl, rfl, SqT.of ha, atI_nat (j := 0) rfl, ?_⟩
    refine ⟨_, rfl, rfl, _, rfl, iF (by decide +kernel) ?_⟩
    refine ⟨_, rfl, a, _, _, _, rfl, rfl, SqT.of ha, atI_nat (j := 1) rfl, .inr ⟨n, rfl, ?_⟩⟩
    have e := q H (Same.refl H)
    rw [show pT (.var n) = [.tk "var" n] from rfl, tx_tk] at e
    exact e
  | op g l r =>
    obtain ⟨d, rfl⟩ : ∃ d, j = d + 1 := by
      cases j with
      | zero => exact hx.elim
      | succ d => exact ⟨d, rfl⟩
    obtain ⟨hg, hl, hrr⟩ := hx
    obtain ⟨a, x0, x1, x2, x3, rfl, ha, q0, q1, q2, q3⟩ := hR.tup4
    rw [q0.of_str, q1.of_str] at ha
    -- the two sides' pieces
    generalize hp1 : (if decide (g = "*") && l.isSum then par (pT l) else pT l) = p1
    generalize hp2 : (if r.isOp then par (pT r) else pT r) = p2
    have hpc : pT (.op g l r) = p1 ++ [.sp] ++ [sg g] ++ [.sp] ++ p2 := by
      rw [← hp1, ← hp2]
      rfl
    have htx : tx (pT (.op g l r)) = tx p1 ++ (" " : Str) ++ g ++ (" " : Str) ++ tx p2 := by
      rw [hpc, tx_app, tx_app, tx_app, tx_app, tx_sp, tx_tk]
    rw [htx] at hz q
    have hz' := hz
    simp only [len_app] at hz'
    have hl1 : (tx (pT l)).length ≤ (tx p1).length := by
      rw [← hp1]
      split
      · rw [tx_par, len_app, len_app]; omega
      · exact Nat.le_refl _
    have hl2 : (tx (pT r)).length ≤ (tx p2).length := by
      rw [← hp2]
      split
      · rw [tx_par, len_app, len_app]; omega
      · exact Nat.le_refl _
    obtain ⟨al, xl, rfl, hal, hk0, hk1⟩ := q2.tm
    obtain ⟨ar, xr, rfl, har, hr0, _⟩ := q3.tm
    refine ⟨_, rfl, a, _, _, _, rfl, rfl, SqT.of ha, atI_nat (j := 0) rfl, ?_⟩
    refine ⟨_, rfl, rfl, _, rfl, iT (decide_eq_true rfl) ?_⟩
    refine ⟨_, rfl, a, _, rfl, SqT.of ha, rfl, _, _, rfl, _, _, rfl, _, _, rfl, _, _, rfl, rfl, ?_⟩
    refine ⟨_, rfl, _, l, rfl, q2, hl, by omega, fun H1 s1 => ?_⟩
    refine ⟨_, rfl, _, r, rfl, q3.same s1, hrr, by omega, fun H2 s2 => ?_⟩
    have s12 := s1.trans s2
    -- the last row
    have c3 : ∀ (E : Ends), E.rt = Q → tRet (tOp rAS (tOp rAS (tOp rAS (tOp rAS (tVar 6) (tC (.str " "))) (tVar 3)) (tC (.str " "))) (tVar 7)) E [some (.ref a), some (.str "op"), some (.str "op"), some (.str g), some (.ref al), some (.ref ar), some (.str (tx p1)), some (.str (tx p2))] H2 := by
      intro E eE
      subst eE
      refine ⟨_, rfl, _, _, rfl, rfl, szM (by omega), _, rfl, _, _, rfl, rfl, szM (by rw [len_app]; omega), _, _, rfl, rfl, szM (by rw [len_app, len_app]; omega), _, rfl, _, _, rfl, rfl, szM (by rw [len_app, len_app, len_app]; omega), q _ s12⟩
    -- from the right side's test on
    have c2 : ∀ (E : Ends), E.rt = Q → tSeq (tIfS (tTest (tOp rEq (tOp (rIxT K) (tVar 5) (tC (.int 0))) (tC (.str "op")))) (tAsg (tOp rAS (tOp rAS (tC (.str "(")) (tVar 7)) (tC (.str ")"))) (gName 7)) tNext) (tRet (tOp rAS (tOp rAS (tOp rAS (tOp rAS (tVar 6) (tC (.str " "))) (tVar 3)) (tC (.str " "))) (tVar 7))) E
        [some (.ref a), some (.str "op"), some (.str "op"), some (.str g), some (.ref al), some (.ref ar), some (.str (tx p1)), some (.str (tx (pT r)))] H2 := by
      intro E eE
      refine ⟨_, rfl, ar, _, _, _, rfl, rfl, SqT.of (s12 _ _ har), atI_nat hr0, rfl, _, rfl, ?_⟩
      rw [r.kd_op]
      cases ho : r.isOp with
      | true =>
        refine iteT ?_
        have e : tx p2 = ("(" : Str) ++ tx (pT r) ++ (")" : Str) := by rw [← hp2, ho, if_pos rfl, tx_par]
        have hzz : (tx p2).length = (("(" : Str) ++ tx (pT r) ++ (")" : Str)).length := by rw [e]
        rw [len_app, len_app] at hzz
        refine ⟨_, rfl, _, _, rfl, rfl, szM (by omega), _, _, rfl, rfl, szM (by rw [len_app]; omega), ?_⟩
        rw [← e]
        exact c3 E eE
      | false =>
        refine iteF ?_
        have e : p2 = pT r := by rw [← hp2, ho]; rfl
        rw [← e]
        exact c3 E eE
    -- from the left side's test on
    refine ⟨_, rfl, rfl, _, rfl, ?_⟩
    rw [dec_v]
    have keep : (decide (g = "*") && l.isSum) = false → p1 = pT l := fun e => by rw [← hp1, e]; rfl
    by_cases hgs : g = "*"
    · refine iT (decide_eq_true hgs) ?_
      refine ⟨_, rfl, al, _, _, _, rfl, rfl, SqT.of (s12 _ _ hal), atI_nat hk0, rfl, _, rfl, ?_⟩
      rw [l.kd_op]
      cases ho : l.isOp with
      | true =>
        refine iteT ?_
        refine ⟨_, rfl, al, _, _, _, rfl, rfl, SqT.of (s12 _ _ hal), atI_nat (hk1 ho), rfl, _, rfl, ?_⟩
        rw [dec_vn]
        by_cases hs : l.sn = "*"
        · refine iF (by rw [decide_eq_true hs]; rfl) ?_
          have e := keep (by rw [l.isSum_eq, ho, decide_eq_true hs]; simp)
          rw [← e]
          exact c2 _ rfl
        · refine iT (by rw [decide_eq_false hs]; rfl) ?_
          have e : tx p1 = ("(" : Str) ++ tx (pT l) ++ (")" : Str) := by
            rw [← hp1, l.isSum_eq, ho, decide_eq_false hs, decide_eq_true hgs]
            exact tx_par _
          have hzz : (tx p1).length = (("(" : Str) ++ tx (pT l) ++ (")" : Str)).length := by rw [e]
          rw [len_app, len_app] at hzz
          refine ⟨_, rfl, _, _, rfl, rfl, szM (by omega), _, _, rfl, rfl, szM (by rw [len_app]; omega), ?_⟩
          rw [← e]
          exact c2 _ rfl
      | false =>
        refine iteF (iteF ?_)
        have e := keep (by rw [l.isSum_eq, ho]; simp)
        rw [← e]
        exact c2 _ rfl
    · refine iF (decide_eq_false hgs) (iteF ?_)
      have e := keep (by rw [decide_eq_false hgs]; rfl)
      rw [← e]
      exact c2 _ rfl
theorem all_format_term : ∀ j : Nat, FnOk P w K mg base CX0 j T.format_term.f T.format_term.fd P_format_term (spFT j)
  | 0 => ⟨fun vs H Q E h => h.elim, fun A outer s H args us vs Q E _ _ _ _ h => h.elim⟩
  | j + 1 => ok_format_term T (all_format_term j)
end
end Kt
/-! K16: the written forms of atoms, conditions, members  -/
namespace Kt
open PySem L2
theorem join_le (sep : Str) : ∀ sl : List Str, (sl.map (·.length)).sum + sl.length * sep.length ≤ (Str.join sep sl).length + sep.length
  | [] => by simp
  | [x] => by
    show ([x].map (·.length)).sum + 1 * sep.length ≤ x.length + sep.length
    simp
  | x :: y :: r => by
    have ih := join_le sep (y :: r)
    show ((x :: y :: r).map (·.length)).sum + (r.length + 1 + 1) * sep.length ≤ (x ++ sep ++ Str.join sep (y :: r)).length + sep.length
    rw [len_app, len_app, List.map_cons, List.sum_cons, Nat.succ_mul]
    rw [List.length_cons] at ih
    omega
theorem join_mem {sep x : Str} : ∀ {sl : List Str}, x ∈ sl → x.length ≤ (Str.join sep sl).length
  | [], h => by cases h
  | [y], h => by
    have e : x = y := by simpa using h
    rw [e]
    exact Nat.le_refl _
  | y :: z :: r, h => by
    show x.length ≤ (y ++ sep ++ Str.join sep (z :: r)).length
    rw [len_app, len_app]
    rcases List.mem_cons.mp h with e | h
    · rw [e]; omega
    · have ih := join_mem (sep := sep) h
      omega
theorem tx_cs : tx [sg ",", .sp] = (", " : Str) := by decide +kernel
theorem tx_ss : tx [sg ";", .sp] = ("; " : Str) := by decide +kernel
theorem tx_nots : tx [.tk "name" "not", .sp] = ("not " : Str) := by decide +kernel
theorem tx_col : tx [.sp, sg ":", .sp] = (" : " : Str) := by decide +kernel
theorem pW_le (p : List Pc) (cs : List Cd) : (tx p).length ≤ (tx (pW p cs)).length := by
  unfold pW
  split
  · exact Nat.le_refl _
  · rw [tx_app, tx_app, len_app, len_app]; omega
/-- _with_conditions -/
def spWc : Sp := fun vs H Q _ => ∃ (p : List Pc) (v : V) (cs : List Cd), vs = [.str (tx p), v] ∧ Rp M0 H v (.list (cs.map Cd.enc)) ∧ csOk 1 cs ∧ (tx (pW p cs)).length ≤ 1000000 ∧ ∀ H', Same H H' → Q (.str (tx (pW p cs))) H'
section
variable {P : Program} {w : World} {K : PySem.W.Frag} {mg : Str → Option Value} {base : Heap} (T : Txt K mg)
include T
theorem ok_format_atom (G_format_term : FnOk P w K mg base CX0 4 T.format_term.f T.format_term.fd P_format_term (spFT 4)) : FnOk P w K mg base CX0 5 T.format_atom.f T.format_atom.fd P_format_atom (spF Am.enc pA Am.ok) := by
  refine T.format_atom.F.ok sc_format_atom (fun vs H Q E h => ?_) (fun cdv A outer s H vs Q E hr h => ?_)
  · obtain ⟨v, x, rfl, _⟩ := h
    rfl
  obtain ⟨v, x, rfl, hR, hx, hz, q⟩ := h
  refine ⟨_, (pss_cons (ps_asg (pv 0) (pg_tup rfl (pgs_cons (pg_name (i := 1) sc_format_atom.nd rfl (Or.inl rfl)) (pgs_cons (pg_name (i := 2) sc_format_atom.nd rfl (Or.inl rfl)) (pgs_cons (pg_name (i := 3) sc_format_atom.nd rfl (Or.inl rfl)) pgs_nil)))))
      (pss_cons (ps_if (pt_cmpR op_eq (pe_callB call_len_seq (by rfl) T.zlen PySem.boot_len (pa_cons (pv 3) pa_nil)) pe_int (nomark _)) (pss_one (ps_ret (pv 2))) pss_nil)
      (pss_one (ps_ret (pe_op op_add_str (pe_op op_add_str (pe_op op_add_str (pv 2) pe_str) (pe_join pe_str (pe_lc (own := [("term", 4)]) (g := gName 4) (by rfl) sc_format_atom.nd (pi_list (pv 3)) (blkOk_by (own := [("term", 4)]) (N := N_format_atom) (sc := defScope s_format_atom) (by decide +kernel)) (fun _ _ _ _ _ => pg_name (i := 4) sc_format_atom.nd rfl (Or.inl rfl)) (fun _ _ _ _ _ => pts_nil) (fun _ _ _ _ _ => (pe_call G_format_term (hr.mono (by omega)) (by rfl) T.format_term.m T.format_term.F.kp T.format_term.b .nil pass0 (pa_cons (pv 4) pa_nil)))))) pe_str))))), ?_⟩
  obtain ⟨a, x0, x1, x2, rfl, ha, q0, q1, q2⟩ := hR.tup3
  rw [q0.of_str, q1.of_str] at ha
  obtain ⟨L, xs, rfl, hL, _, hX⟩ := q2.of_lst
  obtain ⟨hn, h2, hts⟩ := hx
  have hlen : xs.length = x.ts.length := by rw [hX.1, List.length_map]
  refine ⟨_, rfl, a, _, rfl, SqT.of ha, rfl, _, _, rfl, _, _, rfl, _, _, rfl, rfl, ?_⟩
  refine ⟨_, rfl, L, xs, rfl, .inl (SqL.of hL), rfl, _, rfl, ?_⟩
  rw [dec_int]
  by_cases h0 : x.ts.length = 0
  · refine iT (by rw [hlen, h0]; rfl) ?_
    have e := q H (Same.refl H)
    unfold pA at e
    rw [if_pos h0, tx_tk] at e
    exact ⟨_, rfl, e⟩
  · refine iF (by rw [beq_eq_false_iff_ne]; omega) ?_
    have htx : tx (pA x) = x.nm ++ ("(" : Str) ++ Str.join ", " ((x.ts.map pT).map tx) ++ (")" : Str) := by
      unfold pA
      rw [if_neg h0, tx_app, tx_app, tx_app, tx_tk, tx_tk, tx_tk, tx_jn, tx_cs]
    rw [htx] at hz q
    have hz' := hz
    simp only [len_app] at hz'
    have hj := join_le ", " ((x.ts.map pT).map tx)
    have hsep : ((", " : Str)).length = 2 := by decide +kernel
    refine ⟨_, rfl, _, _, rfl, rfl, szM (by omega), ⟨_, rfl⟩, _, rfl, L, rfl, ⟨_, SqL.of hL⟩, fun D hD => ?_⟩
    refine lc_str (sl := (x.ts.map pT).map tx) (by simp [hlen]) (by omega) (SqL.of hL) hD (fun i y s Hc Q' hi hs s1 k => ?_) fun H' s' hD' => ?_
    · rw [List.getElem?_map, List.getElem?_map] at hs
      cases ht : x.ts[i]? with
      | none => rw [ht] at hs; cases hs
      | some t =>
        rw [ht] at hs
        cases hs
        have htm := List.mem_of_getElem? ht
        have hRt := hX.2 i y t.enc hi (by rw [List.getElem?_map, ht]; rfl)
        have hle := join_mem (sep := ", ") (List.mem_map_of_mem (f := tx) (List.mem_map_of_mem (f := pT) htm))
        exact ⟨_, rfl, y, t, rfl, hRt.same s1, Tm.ok_mono (by decide) (hts t htm), by omega, k⟩
    · refine ⟨_, D, _, rfl, rfl, .inl (SqL.of hD'), szM2 (by rw [hsep] at hj ⊢; omega), ?_⟩
      rw [TL.join_eq]
      exact ⟨_, _, rfl, rfl, szM (by rw [len_app]; omega), _, _, rfl, rfl, szM (by rw [len_app, len_app]; omega), q H' s'⟩
theorem ok_format_condition (G_format_term : FnOk P w K mg base CX0 4 T.format_term.f T.format_term.fd P_format_term (spFT 4)) (G_format_atom : FnOk P w K mg base CX0 5 T.format_atom.f T.format_atom.fd P_format_atom (spF Am.enc pA Am.ok)) : FnOk P w K mg base CX0 6 T.format_condition.f T.format_condition.fd P_format_condition (spF Cd.enc pC Cd.ok) := by
  refine T.format_condition.F.ok sc_format_condition (fun vs H Q E h => ?_) (fun cdv A outer s H vs Q E hr h => ?_)
  · obtain ⟨v, x, rfl, _⟩ := h
    rfl
  obtain ⟨v, x, rfl, hR, hx, hz, q⟩ := h
  refine ⟨_, (pss_cons (ps_if (pt_cmpR op_eq (pe_ix ix_tup (pv 0) pe_int (fun _ _ => rfl)) pe_str (nomark _)) (pss_one (ps_ret (pe_call G_format_atom (hr.mono (by omega)) (by rfl) T.format_atom.m T.format_atom.F.kp T.format_atom.b .nil pass0 (pa_cons (pe_ix ix_tup (pv 0) pe_int (fun _ _ => rfl)) pa_nil)))) pss_nil)
      (pss_cons (ps_if (pt_cmpR op_eq (pe_ix ix_tup (pv 0) pe_int (fun _ _ => rfl)) pe_str (nomark _)) (pss_one (ps_ret (pe_op op_add_str pe_str (pe_call G_format_atom (hr.mono (by omega)) (by rfl) T.format_atom.m T.format_atom.F.kp T.format_atom.b .nil pass0 (pa_cons (pe_ix ix_tup (pv 0) pe_int (fun _ _ => rfl)) pa_nil))))) pss_nil)
      (pss_cons (ps_asg (pv 0) (pg_tup rfl (pgs_cons (pg_name (i := 1) sc_format_condition.nd rfl (Or.inl rfl)) (pgs_cons (pg_name (i := 2) sc_format_condition.nd rfl (Or.inl rfl)) (pgs_cons (pg_name (i := 3) sc_format_condition.nd rfl (Or.inl rfl)) (pgs_cons (pg_name (i := 4) sc_format_condition.nd rfl (Or.inl rfl)) pgs_nil))))))
      (pss_one (ps_ret (pe_op op_add_str (pe_op op_add_str (pe_op op_add_str (pe_op op_add_str (pe_call G_format_term (hr.mono (by omega)) (by rfl) T.format_term.m T.format_term.F.kp T.format_term.b .nil pass0 (pa_cons (pv 3) pa_nil)) pe_str) (pv 2)) pe_str) (pe_call G_format_term (hr.mono (by omega)) (by rfl) T.format_term.m T.format_term.F.kp T.format_term.b .nil pass0 (pa_cons (pv 4) pa_nil)))))))), ?_⟩
  cases x with
  | yes a =>
    obtain ⟨b, x0, x1, rfl, hb, q0, q1⟩ := hR.tup2
    rw [q0.of_str] at hb
    refine ⟨_, rfl, b, _, _, _, rfl, rfl, SqT.of hb, atI_nat (j := 0) rfl, rfl, _, rfl, iT (decide_eq_true rfl) ?_⟩
    exact ⟨_, rfl, b, _, _, _, rfl, rfl, SqT.of hb, atI_nat (j := 1) rfl, _, a, rfl, q1, hx, hz, q⟩
  | no a =>
    obtain ⟨b, x0, x1, rfl, hb, q0, q1⟩ := hR.tup2
    rw [q0.of_str] at hb
    have htx : tx (pC (.no a)) = ("not " : Str) ++ tx (pA a) := by
      rw [show pC (.no a) = [.tk "name" "not", .sp] ++ pA a from rfl, tx_app, tx_nots]
    rw [htx] at hz q
    have hz' := hz
    simp only [len_app] at hz'
    refine ⟨_, rfl, b, _, _, _, rfl, rfl, SqT.of hb, atI_nat (j := 0) rfl, rfl, _, rfl, iF (by decide +kernel) ?_⟩
    refine ⟨_, rfl, b, _, _, _, rfl, rfl, SqT.of hb, atI_nat (j := 0) rfl, rfl, _, rfl, iT (decide_eq_true rfl) ?_⟩
    exact ⟨_, rfl, b, _, _, _, rfl, rfl, SqT.of hb, atI_nat (j := 1) rfl, _, a, rfl, q1, hx, by omega, fun H1 s1 => ⟨_, _, rfl, rfl, szM (by omega), q H1 s1⟩⟩
  | cmp g l r =>
    obtain ⟨b, x0, x1, x2, x3, rfl, hb, q0, q1, q2, q3⟩ := hR.tup4
    rw [q0.of_str, q1.of_str] at hb
    have htx : tx (pC (.cmp g l r)) = tx (pT l) ++ (" " : Str) ++ g ++ (" " : Str) ++ tx (pT r) := by
      rw [show pC (.cmp g l r) = pT l ++ [.sp] ++ [sg g] ++ [.sp] ++ pT r from rfl, tx_app, tx_app, tx_app, tx_app, tx_sp, tx_tk]
    rw [htx] at hz q
    have hz' := hz
    simp only [len_app] at hz'
    obtain ⟨hg, hl, hr2⟩ := hx
    refine ⟨_, rfl, b, _, _, _, rfl, rfl, SqT.of hb, atI_nat (j := 0) rfl, rfl, _, rfl, iF (by decide +kernel) ?_⟩
    refine ⟨_, rfl, b, _, _, _, rfl, rfl, SqT.of hb, atI_nat (j := 0) rfl, rfl, _, rfl, iF (by decide +kernel) ?_⟩
    refine ⟨_, rfl, b, _, rfl, SqT.of hb, rfl, _, _, rfl, _, _, rfl, _, _, rfl, _, _, rfl, rfl, ?_⟩
    refine ⟨_, rfl, _, l, rfl, q2, Tm.ok_mono (by decide) hl, by omega, fun H1 s1 => ?_⟩
    refine ⟨_, _, rfl, rfl, szM (by omega), _, rfl, _, _, rfl, rfl, szM (by rw [len_app]; omega), _, _, rfl, rfl, szM (by rw [len_app, len_app]; omega), ?_⟩
    exact ⟨_, rfl, _, r, rfl, q3.same s1, Tm.ok_mono (by decide) hr2, by omega, fun H2 s2 => ⟨_, _, rfl, rfl, szM (by rw [len_app, len_app, len_app]; omega), q H2 (s1.trans s2)⟩⟩
theorem ok_with_conditions (G_format_condition : FnOk P w K mg base CX0 6 T.format_condition.f T.format_condition.fd P_format_condition (spF Cd.enc pC Cd.ok)) : FnOk P w K mg base CX0 7 T.with_conditions.f T.with_conditions.fd P_with_conditions (spWc) := by
  refine T.with_conditions.F.ok sc_with_conditions (fun vs H Q E h => ?_) (fun cdv A outer s H vs Q E hr h => ?_)
  · obtain ⟨p, v, cs, rfl, _⟩ := h
    rfl
  obtain ⟨p, v, cs, rfl, hR, hx, hz, q⟩ := h
  refine ⟨_, (pss_cons (ps_if (pt_cmpR op_eq (pe_callB call_len_seq (by rfl) T.zlen PySem.boot_len (pa_cons (pv 1) pa_nil)) pe_int (nomark _)) (pss_one (ps_ret (pv 0))) pss_nil)
      (pss_one (ps_ret (pe_op op_add_str (pe_op op_add_str (pv 0) pe_str) (pe_join pe_str (pe_lc (own := [("condition", 2)]) (g := gName 2) (by rfl) sc_with_conditions.nd (pi_list (pv 1)) (blkOk_by (own := [("condition", 2)]) (N := N_with_conditions) (sc := defScope s_with_conditions) (by decide +kernel)) (fun _ _ _ _ _ => pg_name (i := 2) sc_with_conditions.nd rfl (Or.inl rfl)) (fun _ _ _ _ _ => pts_nil) (fun _ _ _ _ _ => (pe_call G_format_condition (hr.mono (by omega)) (by rfl) T.format_condition.m T.format_condition.F.kp T.format_condition.b .nil pass0 (pa_cons (pv 2) pa_nil))))))))), ?_⟩
  obtain ⟨L, xs, rfl, hL, _, hX⟩ := hR.of_lst
  have hlen : xs.length = cs.length := by rw [hX.1, List.length_map]
  have hc1 := hx.1
  refine ⟨_, rfl, L, xs, rfl, .inl (SqL.of hL), rfl, _, rfl, ?_⟩
  rw [dec_int]
  by_cases h0 : cs.length = 0
  · refine iT (by rw [hlen, h0]; rfl) ?_
    have e := q H (Same.refl H)
    unfold pW at e
    rw [if_pos h0] at e
    exact ⟨_, rfl, e⟩
  · refine iF (by rw [beq_eq_false_iff_ne]; omega) ?_
    have htx : tx (pW p cs) = tx p ++ (" : " : Str) ++ Str.join ", " ((cs.map (fun y => pC y)).map tx) := by
      unfold pW
      rw [if_neg h0, tx_app, tx_app, tx_col, tx_jn, tx_cs]
    rw [htx] at hz q
    have hz' := hz
    simp only [len_app] at hz'
    have hj := join_le ", " ((cs.map (fun y => pC y)).map tx)
    have hsep : ((", " : Str)).length = 2 := by decide +kernel
    refine ⟨_, rfl, _, _, rfl, rfl, szM (by omega), ⟨_, rfl⟩, _, rfl, L, rfl, ⟨_, SqL.of hL⟩, fun D hD => ?_⟩
    refine lc_str (sl := (cs.map (fun y => pC y)).map tx) (by simp [hlen]) (by omega) (SqL.of hL) hD (fun i y s Hc Q' hi hs s1 k => ?_) fun H' s' hD' => ?_
    · rw [List.getElem?_map, List.getElem?_map] at hs
      cases ht : cs[i]? with
      | none => rw [ht] at hs; cases hs
      | some t =>
        rw [ht] at hs
        cases hs
        have htm := List.mem_of_getElem? ht
        have hRt := hX.2 i y t.enc hi (by rw [List.getElem?_map, ht]; rfl)
        have hle := join_mem (sep := ", ") (List.mem_map_of_mem (f := tx) (List.mem_map_of_mem (f := fun y => pC y) htm))
        exact ⟨_, rfl, y, t, rfl, hRt.same s1, hx.2 t htm, by omega, k⟩
    · refine ⟨_, D, _, rfl, rfl, .inl (SqL.of hD'), szM2 (by rw [hsep] at hj ⊢; omega), ?_⟩
      rw [TL.join_eq]
      exact ⟨_, _, rfl, rfl, szM (by rw [len_app]; omega), q H' s'⟩
theorem ok_format_members (G_format_term : FnOk P w K mg base CX0 4 T.format_term.f T.format_term.fd P_format_term (spFT 4)) (G_with_conditions : FnOk P w K mg base CX0 7 T.with_conditions.f T.with_conditions.fd P_with_conditions (spWc)) : FnOk P w K mg base CX0 8 T.format_members.f T.format_members.fd P_format_members (spF (fun ms : List Mb => .list (ms.map Mb.enc)) pMs msOk) := by
  refine T.format_members.F.ok sc_format_members (fun vs H Q E h => ?_) (fun cdv A outer s H vs Q E hr h => ?_)
  · obtain ⟨v, x, rfl, _⟩ := h
    rfl
  obtain ⟨v, x, rfl, hR, hx, hz, q⟩ := h
  refine ⟨_, (pss_cons (ps_setLc (i := 1) (own := [("member", 2)]) (g := gName 2) (by rfl) sc_format_members.nd rfl rfl (sw_true rfl rfl rfl (by decide +kernel)) (pi_list (pv 0)) (blkOk_by (own := [("member", 2)]) (N := N_format_members) (sc := defScope s_format_members) (by decide +kernel)) (fun _ _ _ _ _ => pg_name (i := 2) sc_format_members.nd rfl (Or.inl rfl)) (fun _ _ _ _ _ => pts_nil) (fun _ _ _ _ _ => (pe_call G_with_conditions (hr.mono (by omega)) (by rfl) T.with_conditions.m T.with_conditions.F.kp T.with_conditions.b .nil pass0 (pa_cons (pe_call G_format_term (hr.mono (by omega)) (by rfl) T.format_term.m T.format_term.F.kp T.format_term.b .nil pass0 (pa_cons (pe_ix (show IxR _ (rIxT K) from ix_tup) (pv 2) pe_int (fun _ _ => rfl)) pa_nil)) (pa_cons (pe_ix (show IxR _ (rIxT K) from ix_tup) (pv 2) pe_int (fun _ _ => rfl)) pa_nil)))))
      (pss_one (ps_ret (pe_op op_add_str (pe_op op_add_str pe_str (pe_join pe_str (pv 1))) pe_str)))), ?_⟩
  obtain ⟨L, xs, rfl, hL, _, hX⟩ := hR.of_lst
  have hlen : xs.length = x.length := by rw [hX.1, List.length_map]
  obtain ⟨h1, h2, hms⟩ := hx
  have htx : tx (pMs x) = ("{" : Str) ++ Str.join "; " ((x.map (fun y => pW (pT y.t) y.cs)).map tx) ++ ("}" : Str) := by
    unfold pMs
    rw [tx_app, tx_app, tx_tk, tx_tk, tx_jn, tx_ss]
  rw [htx] at hz q
  have hz' := hz
  simp only [len_app] at hz'
  have hj := join_le "; " ((x.map (fun y => pW (pT y.t) y.cs)).map tx)
  have hsep : (("; " : Str)).length = 2 := by decide +kernel
  refine ⟨_, rfl, L, rfl, ⟨_, SqL.of hL⟩, fun D hD => ?_⟩
  refine lc_str (sl := (x.map (fun y => pW (pT y.t) y.cs)).map tx) (by simp [hlen]) (by omega) (SqL.of hL) hD (fun i y s Hc Q' hi hs s1 k => ?_) fun H' s' hD' => ?_
  · rw [List.getElem?_map, List.getElem?_map] at hs
    cases ht : x[i]? with
    | none => rw [ht] at hs; cases hs
    | some t =>
      rw [ht] at hs
      cases hs
      have htm := List.mem_of_getElem? ht
      have hRt := hX.2 i y t.enc hi (by rw [List.getElem?_map, ht]; rfl)
      have hle := join_mem (sep := "; ") (List.mem_map_of_mem (f := tx) (List.mem_map_of_mem (f := fun y => pW (pT y.t) y.cs) htm))
      have hle1 : (tx (pT t.t)).length ≤ (tx (pW (pT t.t) t.cs)).length := pW_le _ _
      obtain ⟨b, y0, y1, y2, rfl, hb, p0, p1, p2⟩ := (hRt.same s1).tup3
      obtain ⟨ht1, ht2⟩ := hms t htm
      refine ⟨_, rfl, b, _, _, _, rfl, rfl, SqT.of hb, atI_nat (j := 1) rfl, _, t.t, rfl, p1, Tm.ok_mono (by decide) ht1, by omega, fun H1 s2 => ?_⟩
      exact ⟨_, rfl, b, _, _, _, rfl, rfl, SqT.of (s2 _ _ hb), atI_nat (j := 2) rfl, _, _, t.cs, rfl, p2.same s2, ht2, by omega, fun H2 s3 => k H2 (s2.trans s3)⟩
  · refine ⟨⟨_, rfl⟩, _, rfl, _, D, _, rfl, rfl, .inl (SqL.of hD'), szM2 (by rw [hsep] at hj ⊢; omega), ?_⟩
    rw [TL.join_eq]
    exact ⟨_, _, rfl, rfl, szM (by omega), _, _, rfl, rfl, szM (by rw [len_app]; omega), q H' s'⟩
end
end Kt
/-! K17: the written forms of parts, statements, texts -/
namespace Kt
open PySem L2
theorem tx_sums : tx [.tk "name" "sum", .sp] = ("sum " : Str) := by decide +kernel
theorem tx_ifs : tx [.sp, sg ":-", .sp] = (" :- " : Str) := by decide +kernel
theorem tx_ifs2 : tx [sg ":-", .sp] = (":- " : Str) := by decide +kernel
theorem tx_rng : tx [.tk "name" "range", .sp] = ("range " : Str) := by decide +kernel
theorem tx_min : tx [.tk "name" "minimize", .sp] = ("minimize " : Str) := by decide +kernel
theorem pHb_le (h : List Pc) (b : List Pt) : (tx h).length ≤ (tx (pHb h b)).length := by
  unfold pHb
  split
  · rw [tx_app, len_app]; omega
  · rw [tx_app, tx_app, tx_app, len_app, len_app, len_app]; omega
theorem tx_all : ∀ ss : List Sm, tx (pAll ss) = Str.join "" ((ss.map (fun y => pSm y ++ [.nl])).map tx)
  | [] => by show tx [] = Str.empty; decide +kernel
  | [s] => by
    show tx (pSm s ++ [.nl] ++ []) = tx (pSm s ++ [.nl])
    rw [List.append_nil]
  | s :: u :: r => by
    have ih := tx_all (u :: r)
    show tx (pSm s ++ [.nl] ++ pAll (u :: r)) = tx (pSm s ++ [.nl]) ++ "" ++ Str.join "" (((u :: r).map (fun y => pSm y ++ [.nl])).map tx)
    rw [tx_app, ih, str_app_nil]
def ssOk (ss : List Sm) : Prop := ss.length ≤ 1000 ∧ ∀ s ∈ ss, Sm.ok s
/-- _head -/
def spHd : Sp := fun vs H Q _ => ∃ (v : V) (lo : Option Int) (cs : List Ch) (hi : Option Int) (b : List Pt), vs = [v] ∧ Rp M0 H v (Sm.choose lo cs hi b).enc ∧ oOk lo ∧ chOk cs ∧ oOk hi ∧ (tx (pH lo cs hi)).length ≤ 1000000 ∧ ∀ H', Same H H' → Q (.str (tx (pH lo cs hi))) H'
section
variable {P : Program} {w : World} {K : PySem.W.Frag} {mg : Str → Option Value} {base : Heap} (T : Txt K mg)
include T
theorem ok_format_part (G_format_term : FnOk P w K mg base CX0 4 T.format_term.f T.format_term.fd P_format_term (spFT 4)) (G_format_condition : FnOk P w K mg base CX0 6 T.format_condition.f T.format_condition.fd P_format_condition (spF Cd.enc pC Cd.ok)) (G_format_members : FnOk P w K mg base CX0 8 T.format_members.f T.format_members.fd P_format_members (spF (fun ms : List Mb => .list (ms.map Mb.enc)) pMs msOk)) : FnOk P w K mg base CX0 9 T.format_part.f T.format_part.fd P_format_part (spF Pt.enc pP Pt.ok) := by
  refine T.format_part.F.ok sc_format_part (fun vs H Q E h => ?_) (fun cdv A outer s H vs Q E hr h => ?_)
  · obtain ⟨v, x, rfl, _⟩ := h
    rfl
  obtain ⟨v, x, rfl, hR, hx, hz, q⟩ := h
  refine ⟨_, (pss_cons (ps_if (pt_cmpR op_eq (pe_ix ix_tup (pv 0) pe_int (fun _ _ => rfl)) pe_str (nomark _)) (pss_cons (ps_asg (pv 0) (pg_tup rfl (pgs_cons (pg_name (i := 1) sc_format_part.nd rfl (Or.inl rfl)) (pgs_cons (pg_name (i := 2) sc_format_part.nd rfl (Or.inl rfl)) (pgs_cons (pg_name (i := 3) sc_format_part.nd rfl (Or.inl rfl)) (pgs_cons (pg_name (i := 4) sc_format_part.nd rfl (Or.inl rfl)) pgs_nil))))))
      (pss_one (ps_ret (pe_op op_add_str (pe_op op_add_str (pe_op op_add_str (pe_op op_add_str (pe_op op_add_str pe_str (pe_call G_format_members (hr.mono (by omega)) (by rfl) T.format_members.m T.format_members.F.kp T.format_members.b .nil pass0 (pa_cons (pv 3) pa_nil))) pe_str) (pv 2)) pe_str) (pe_call G_format_term (hr.mono (by omega)) (by rfl) T.format_term.m T.format_term.F.kp T.format_term.b .nil pass0 (pa_cons (pv 4) pa_nil)))))) pss_nil)
      (pss_one (ps_ret (pe_call G_format_condition (hr.mono (by omega)) (by rfl) T.format_condition.m T.format_condition.F.kp T.format_condition.b .nil pass0 (pa_cons (pv 0) pa_nil))))), ?_⟩
  cases x with
  | cd c =>
    have hk : ∃ b xs k, v = .ref b ∧ H b = some (.tup xs) ∧ xs[0]? = some (.str k) ∧ decide (V.str k = V.str "sum") = false := by
      cases c with
      | yes a =>
        obtain ⟨b, x0, x1, rfl, hb, q0, q1⟩ := Rp.tup2 hR
        exact ⟨b, _, "yes", rfl, hb, by rw [q0.of_str]; rfl, by decide +kernel⟩
      | no a =>
        obtain ⟨b, x0, x1, rfl, hb, q0, q1⟩ := Rp.tup2 hR
        exact ⟨b, _, "no", rfl, hb, by rw [q0.of_str]; rfl, by decide +kernel⟩
      | cmp g l r =>
        obtain ⟨b, x0, x1, x2, x3, rfl, hb, q0, q1, q2, q3⟩ := Rp.tup4 hR
        exact ⟨b, _, "compare", rfl, hb, by rw [q0.of_str]; rfl, by decide +kernel⟩
    obtain ⟨b, xs, k, rfl, hb, h0, hd⟩ := hk
    refine ⟨_, rfl, b, _, _, _, rfl, rfl, SqT.of hb, atI_nat h0, rfl, _, rfl, iF hd ?_⟩
    exact ⟨_, rfl, _, c, rfl, hR, hx, hz, q⟩
  | sum g ms t =>
    obtain ⟨b, x0, x1, x2, x3, rfl, hb, q0, q1, q2, q3⟩ := hR.tup4
    rw [q0.of_str, q1.of_str] at hb
    obtain ⟨hg, hms, ht⟩ := hx
    have htx : tx (pP (.sum g ms t)) = ("sum " : Str) ++ tx (pMs ms) ++ (" " : Str) ++ g ++ (" " : Str) ++ tx (pT t) := by
      rw [show pP (.sum g ms t) = [.tk "name" "sum", .sp] ++ pMs ms ++ [.sp] ++ [sg g] ++ [.sp] ++ pT t from rfl, tx_app, tx_app, tx_app, tx_app, tx_app, tx_sp, tx_tk, tx_sums]
    rw [htx] at hz q
    have hz' := hz
    simp only [len_app] at hz'
    refine ⟨_, rfl, b, _, _, _, rfl, rfl, SqT.of hb, atI_nat (j := 0) rfl, rfl, _, rfl, iT (decide_eq_true rfl) ?_⟩
    refine ⟨_, rfl, b, _, rfl, SqT.of hb, rfl, _, _, rfl, _, _, rfl, _, _, rfl, _, _, rfl, rfl, ?_⟩
    refine ⟨_, rfl, _, ms, rfl, q2, hms, by omega, fun H1 s1 => ?_⟩
    refine ⟨_, _, rfl, rfl, szM (by omega), _, _, rfl, rfl, szM (by rw [len_app]; omega), _, rfl, _, _, rfl, rfl, szM (by rw [len_app, len_app]; omega), _, _, rfl, rfl, szM (by rw [len_app, len_app, len_app]; omega), ?_⟩
    exact ⟨_, rfl, _, t, rfl, q3.same s1, Tm.ok_mono (by decide) ht, by omega, fun H2 s2 => ⟨_, _, rfl, rfl, szM (by rw [len_app, len_app, len_app, len_app]; omega), q H2 (s1.trans s2)⟩⟩
theorem ok_wbody (G_format_part : FnOk P w K mg base CX0 9 T.format_part.f T.format_part.fd P_format_part (spF Pt.enc pP Pt.ok)) : FnOk P w K mg base CX0 10 T.body.f T.body.fd P_body (spF (fun b : List Pt => .list (b.map Pt.enc)) pB (bOk 4)) := by
  refine T.body.F.ok sc_body (fun vs H Q E h => ?_) (fun cdv A outer s H vs Q E hr h => ?_)
  · obtain ⟨v, x, rfl, _⟩ := h
    rfl
  obtain ⟨v, x, rfl, hR, hx, hz, q⟩ := h
  refine ⟨_, (pss_one (ps_ret (pe_join pe_str (pe_lc (own := [("part", 1)]) (g := gName 1) (by rfl) sc_body.nd (pi_list (pv 0)) (blkOk_by (own := [("part", 1)]) (N := N_body) (sc := defScope s_body) (by decide +kernel)) (fun _ _ _ _ _ => pg_name (i := 1) sc_body.nd rfl (Or.inl rfl)) (fun _ _ _ _ _ => pts_nil) (fun _ _ _ _ _ => (pe_call G_format_part (hr.mono (by omega)) (by rfl) T.format_part.m T.format_part.F.kp T.format_part.b .nil pass0 (pa_cons (pv 1) pa_nil))))))), ?_⟩
  obtain ⟨L, xs, rfl, hL, _, hX⟩ := hR.of_lst
  have hlen : xs.length = x.length := by rw [hX.1, List.length_map]
  have hx1 := hx.1
  have htx : tx (pB x) = Str.join ", " ((x.map (fun y => pP y)).map tx) := by
    unfold pB
    rw [tx_jn, tx_cs]
  rw [htx] at hz q
  have hj := join_le ", " ((x.map (fun y => pP y)).map tx)
  have hsep : ((", " : Str)).length = 2 := by decide +kernel
  refine ⟨⟨_, rfl⟩, _, rfl, L, rfl, ⟨_, SqL.of hL⟩, fun D hD => ?_⟩
  refine lc_str (sl := (x.map (fun y => pP y)).map tx) (by simp [hlen]) (by omega) (SqL.of hL) hD (fun i y s Hc Q' hi hs s1 k => ?_) fun H' s' hD' => ?_
  · rw [List.getElem?_map, List.getElem?_map] at hs
    cases ht : x[i]? with
    | none => rw [ht] at hs; cases hs
    | some t =>
      rw [ht] at hs
      cases hs
      have htm := List.mem_of_getElem? ht
      have hRt := hX.2 i y t.enc hi (by rw [List.getElem?_map, ht]; rfl)
      have hle := join_mem (sep := ", ") (List.mem_map_of_mem (f := tx) (List.mem_map_of_mem (f := fun y => pP y) htm))
      exact ⟨_, rfl, y, t, rfl, hRt.same s1, hx.2 t htm, by omega, k⟩
  · refine ⟨_, D, _, rfl, rfl, .inl (SqL.of hD'), szM2 (by rw [hsep] at hj ⊢; omega), ?_⟩
    rw [TL.join_eq]
    exact q H' s'
theorem ok_head (G_format_atom : FnOk P w K mg base CX0 5 T.format_atom.f T.format_atom.fd P_format_atom (spF Am.enc pA Am.ok)) (G_with_conditions : FnOk P w K mg base CX0 7 T.with_conditions.f T.with_conditions.fd P_with_conditions (spWc)) : FnOk P w K mg base CX0 8 T.head.f T.head.fd P_head (spHd) := by
  refine T.head.F.ok sc_head (fun vs H Q E h => ?_) (fun cdv A outer s H vs Q E hr h => ?_)
  · obtain ⟨v, lo, x, hi, b, rfl, _⟩ := h
    rfl
  obtain ⟨v, lo, x, hi, b, rfl, hR, hlo, hx, hhi, hz, q⟩ := h
  refine ⟨_, (pss_cons (ps_asg (pv 0) (pg_tup rfl (pgs_cons (pg_name (i := 1) sc_head.nd rfl (Or.inl rfl)) (pgs_cons (pg_name (i := 2) sc_head.nd rfl (Or.inl rfl)) (pgs_cons (pg_name (i := 3) sc_head.nd rfl (Or.inl rfl)) (pgs_cons (pg_name (i := 4) sc_head.nd rfl (Or.inl rfl)) (pgs_cons (pg_name (i := 1) sc_head.nd rfl (Or.inl rfl)) pgs_nil)))))))
      (pss_cons (ps_setLc (i := 5) (own := [("choice", 7)]) (g := gName 7) (by rfl) sc_head.nd rfl rfl (sw_true rfl rfl rfl (by decide +kernel)) (pi_list (pv 3)) (blkOk_by (own := [("choice", 7)]) (N := N_head) (sc := defScope s_head) (by decide +kernel)) (fun _ _ _ _ _ => pg_name (i := 7) sc_head.nd rfl (Or.inl rfl)) (fun _ _ _ _ _ => pts_nil) (fun _ _ _ _ _ => (pe_call G_with_conditions (hr.mono (by omega)) (by rfl) T.with_conditions.m T.with_conditions.F.kp T.with_conditions.b .nil pass0 (pa_cons (pe_call G_format_atom (hr.mono (by omega)) (by rfl) T.format_atom.m T.format_atom.F.kp T.format_atom.b .nil pass0 (pa_cons (pe_ix (show IxR _ (rIxT K) from ix_tup) (pv 7) pe_int (fun _ _ => rfl)) pa_nil)) (pa_cons (pe_ix (show IxR _ (rIxT K) from ix_tup) (pv 7) pe_int (fun _ _ => rfl)) pa_nil)))))
      (pss_cons (ps_set (i := 6) sc_head.nd rfl (Or.inl rfl) (pe_op op_add_str (pe_op op_add_str pe_str (pe_join pe_str (pv 5))) pe_str))
      (pss_cons (ps_if (pt_cmpR op_notN (pv 2) pe_non (nomark _)) (pss_one (ps_set (i := 6) sc_head.nd rfl (Or.inl rfl) (pe_op op_add_str (pe_op op_add_str (pe_callTy call_str_int (by rfl) T.zstr (by decide +kernel) (pa_cons (pv 2) pa_nil)) pe_str) (pv 6)))) pss_nil)
      (pss_cons (ps_if (pt_cmpR op_notN (pv 4) pe_non (nomark _)) (pss_one (ps_set (i := 6) sc_head.nd rfl (Or.inl rfl) (pe_op op_add_str (pe_op op_add_str (pv 6) pe_str) (pe_callTy call_str_int (by rfl) T.zstr (by decide +kernel) (pa_cons (pv 4) pa_nil))))) pss_nil)
      (pss_one (ps_ret (pv 6)))))))), ?_⟩
  obtain ⟨a, x0, x1, x2, x3, x4, rfl, ha, q0, q1, q2, q3, q4⟩ := hR.tup5
  obtain ⟨L, xs, rfl, hL, _, hX⟩ := q2.of_lst
  have hlen : xs.length = x.length := by rw [hX.1, List.length_map]
  obtain ⟨h1, h2, hcs⟩ := hx
  have htc : tx (pCs x) = ("{" : Str) ++ Str.join "; " ((x.map (fun y => pW (pA y.a) y.cs)).map tx) ++ ("}" : Str) := by
    unfold pCs
    rw [tx_app, tx_app, tx_tk, tx_tk, tx_jn, tx_ss]
  have htx : tx (pH lo x hi) = tx (pLo lo) ++ tx (pCs x) ++ tx (pHi hi) := by
    unfold pH
    rw [tx_app, tx_app]
  rw [htx] at hz q
  have hz' := hz
  simp only [len_app] at hz'
  have hzc : (tx (pCs x)).length ≤ 1000000 := by omega
  have hzc' := hzc
  rw [htc, len_app, len_app] at hzc'
  have hj := join_le "; " ((x.map (fun y => pW (pA y.a) y.cs)).map tx)
  have hsep : (("; " : Str)).length = 2 := by decide +kernel
  have elo : x1 = oV lo := by cases lo with | none => exact q1.of_non | some n => exact q1.of_int
  have ehi : x3 = oV hi := by cases hi with | none => exact q3.of_non | some n => exact q3.of_int
  subst elo ehi
  refine ⟨_, rfl, a, _, rfl, SqT.of ha, rfl, _, _, rfl, _, _, rfl, _, _, rfl, _, _, rfl, _, _, rfl, rfl, ?_⟩
  refine ⟨_, rfl, L, rfl, ⟨_, SqL.of hL⟩, fun D hD => ?_⟩
  refine lc_str (sl := (x.map (fun y => pW (pA y.a) y.cs)).map tx) (by simp [hlen]) (by omega) (SqL.of hL) hD (fun i y s Hc Q' hi hs s1 k => ?_) fun H' s' hD' => ?_
  · rw [List.getElem?_map, List.getElem?_map] at hs
    cases ht : x[i]? with
    | none => rw [ht] at hs; cases hs
    | some t =>
      rw [ht] at hs
      cases hs
      have htm := List.mem_of_getElem? ht
      have hRt := hX.2 i y t.enc hi (by rw [List.getElem?_map, ht]; rfl)
      have hle := join_mem (sep := "; ") (List.mem_map_of_mem (f := tx) (List.mem_map_of_mem (f := fun y => pW (pA y.a) y.cs) htm))
      have hle1 : (tx (pA t.a)).length ≤ (tx (pW (pA t.a) t.cs)).length := pW_le _ _
      obtain ⟨b, y0, y1, y2, rfl, hb, p0, p1, p2⟩ := (hRt.same s1).tup3
      obtain ⟨ht1, ht2⟩ := hcs t htm
      refine ⟨_, rfl, b, _, _, _, rfl, rfl, SqT.of hb, atI_nat (j := 1) rfl, _, t.a, rfl, p1, ht1, by omega, fun H1 s2 => ?_⟩
      exact ⟨_, rfl, b, _, _, _, rfl, rfl, SqT.of (s2 _ _ hb), atI_nat (j := 2) rfl, _, _, t.cs, rfl, p2.same s2, ht2, by omega, fun H2 s3 => k H2 (s2.trans s3)⟩
  · refine ⟨⟨_, rfl⟩, _, rfl, _, D, _, rfl, rfl, .inl (SqL.of hD'), szM2 (by rw [hsep] at hj ⊢; omega), ?_⟩
    rw [TL.join_eq]
    refine ⟨_, _, rfl, rfl, szM (by omega), _, _, rfl, rfl, szM (by rw [len_app]; omega), ?_⟩
    rw [← htc]
    have c2 : ∀ (E : Ends) t2 w5, E.rt = Q → t2 = tx (pLo lo) ++ tx (pCs x) → tSeq (tIfS (tTest (tOp (fun x y H Q => y = .non ∧ Q (.bl (!decide (x = .non))) H) (tVar 4) (tC .non))) (tAsg (tOp rAS (tOp rAS (tVar 6) (tC (.str " "))) (tCB (fun xs H Q => ∃ i, xs = [.int i] ∧ i.natAbs.log2 < 1920 ∧ Q (.str (toString i)) H) (tCons (tVar 4) tNil))) (gName 6)) tNext) (tRet (tVar 6)) E
        [some (.ref a), some x4, some (oV lo), some (.ref L), some (oV hi), w5, some (.str t2), none] H' := by
      intro E t2 w5 eE et
      subst eE
      cases hi with
      | none =>
        refine ⟨_, rfl, rfl, _, rfl, iF (by decide) ?_⟩
        have e : tx (pLo lo) ++ tx (pCs x) ++ tx (pHi none) = t2 := by
          rw [et, show pHi none = [] from rfl, tx_nil, str_app_nil]
        rw [e] at q
        exact ⟨_, rfl, q H' s'⟩
      | some n =>
        have e : tx (pLo lo) ++ tx (pCs x) ++ tx (pHi (some n)) = t2 ++ (" " : Str) ++ dg n := by
          rw [et, show pHi (some n) = [.sp] ++ [.tk "int" (dg n)] from rfl, tx_app, tx_sp, tx_tk, str_app_assoc, str_app_assoc, str_app_assoc]
        rw [e] at q hz
        simp only [len_app] at hz
        have hz2 : t2.length + (" " : Str).length + (dg n).length ≤ 1000000 := hz
        refine ⟨_, rfl, rfl, _, rfl, iT (by rw [decide_eq_false (by intro z; cases z)]; rfl) ?_⟩
        exact ⟨_, rfl, _, _, rfl, rfl, szM (by omega), _, rfl, n, rfl, i4_log hhi, _, _, rfl, rfl, szM (by rw [len_app]; exact hz2), _, rfl, q H' s'⟩
    cases lo with
    | none =>
      refine ⟨_, rfl, rfl, _, rfl, iF (by decide) ?_⟩
      exact c2 _ _ _ rfl (by rw [show pLo none = [] from rfl, tx_nil, str_nil_app])
    | some n =>
      have e : tx (pLo (some n)) = dg n ++ (" " : Str) := by
        rw [show pLo (some n) = [.tk "int" (dg n)] ++ [.sp] from rfl, tx_app, tx_sp, tx_tk]
      have hz2 : (dg n).length + (" " : Str).length + (tx (pCs x)).length ≤ 1000000 := by
        rw [e, len_app] at hz'
        omega
      refine ⟨_, rfl, rfl, _, rfl, iT (by rw [decide_eq_false (by intro z; cases z)]; rfl) ?_⟩
      refine ⟨_, rfl, n, rfl, i4_log hlo, _, _, rfl, rfl, szM (show (dg n).length + _ ≤ _ by omega), _, rfl, _, _, rfl, rfl, szM (by rw [len_app]; exact hz2), ?_⟩
      exact c2 _ _ _ rfl (by rw [e]; rfl)
theorem ok_format_statement (G_format_atom : FnOk P w K mg base CX0 5 T.format_atom.f T.format_atom.fd P_format_atom (spF Am.enc pA Am.ok)) (G_format_members : FnOk P w K mg base CX0 8 T.format_members.f T.format_members.fd P_format_members (spF (fun ms : List Mb => .list (ms.map Mb.enc)) pMs msOk)) (G_body : FnOk P w K mg base CX0 10 T.body.f T.body.fd P_body (spF (fun b : List Pt => .list (b.map Pt.enc)) pB (bOk 4))) (G_head : FnOk P w K mg base CX0 8 T.head.f T.head.fd P_head (spHd)) : FnOk P w K mg base CX0 11 T.format_statement.f T.format_statement.fd P_format_statement (spF Sm.enc pSm Sm.ok) := by
  refine T.format_statement.F.ok sc_format_statement (fun vs H Q E h => ?_) (fun cdv A outer s H vs Q E hr h => ?_)
  · obtain ⟨v, x, rfl, _⟩ := h
    rfl
  obtain ⟨v, x, rfl, hR, hx, hz, q⟩ := h
  refine ⟨_, (pss_cons (ps_set (i := 1) sc_format_statement.nd rfl (Or.inl rfl) (pe_ix ix_tup (pv 0) pe_int (fun _ _ => rfl)))
      (pss_cons (ps_if (pt_cmpR op_eq (pv 1) pe_str (nomark _)) (pss_one (ps_ret (pe_op op_add_str (pe_op op_add_str (pe_op op_add_str (pe_op op_add_str pe_str (pe_callTy call_str_int (by rfl) T.zstr (by decide +kernel) (pa_cons (pe_ix ix_tup (pv 0) pe_int (fun _ _ => rfl)) pa_nil))) pe_str) (pe_callTy call_str_int (by rfl) T.zstr (by decide +kernel) (pa_cons (pe_ix ix_tup (pv 0) pe_int (fun _ _ => rfl)) pa_nil))) pe_str))) pss_nil)
      (pss_cons (ps_if (pt_cmpR op_eq (pv 1) pe_str (nomark _)) (pss_one (ps_ret (pe_op op_add_str (pe_op op_add_str pe_str (pe_call G_format_members (hr.mono (by omega)) (by rfl) T.format_members.m T.format_members.F.kp T.format_members.b .nil pass0 (pa_cons (pe_ix ix_tup (pv 0) pe_int (fun _ _ => rfl)) pa_nil))) pe_str))) pss_nil)
      (pss_cons (ps_if (pt_cmpR op_eq (pv 1) pe_str (nomark _)) (pss_one (ps_ret (pe_op op_add_str (pe_op op_add_str pe_str (pe_call G_body (hr.mono (by omega)) (by rfl) T.body.m T.body.F.kp T.body.b .nil pass0 (pa_cons (pe_ix ix_tup (pv 0) pe_int (fun _ _ => rfl)) pa_nil))) pe_str))) pss_nil)
      (pss_cons (ps_if (pt_cmpR op_eq (pv 1) pe_str (nomark _)) (pss_one (ps_par (i := 2) (j := 3) (by rfl) sc_format_statement.nd rfl rfl (by decide) rfl rfl (pa_cons (pe_call G_format_atom (hr.mono (by omega)) (by rfl) T.format_atom.m T.format_atom.F.kp T.format_atom.b .nil pass0 (pa_cons (pe_ix ix_tup (pv 0) pe_int (fun _ _ => rfl)) pa_nil)) (pa_cons (pe_ix ix_tup (pv 0) pe_int (fun _ _ => rfl)) pa_nil)) (by rfl))) (pss_one (ps_par (i := 2) (j := 3) (by rfl) sc_format_statement.nd rfl rfl (by decide) rfl rfl (pa_cons (pe_call G_head (hr.mono (by omega)) (by rfl) T.head.m T.head.F.kp T.head.b .nil pass0 (pa_cons (pv 0) pa_nil)) (pa_cons (pe_ix ix_tup (pv 0) pe_int (fun _ _ => rfl)) pa_nil)) (by rfl))))
      (pss_cons (ps_if (pt_cmpR op_eq (pe_callB call_len_seq (by rfl) T.zlen PySem.boot_len (pa_cons (pv 3) pa_nil)) pe_int (nomark _)) (pss_one (ps_ret (pe_op op_add_str (pv 2) pe_str))) pss_nil)
      (pss_one (ps_ret (pe_op op_add_str (pe_op op_add_str (pe_op op_add_str (pv 2) pe_str) (pe_call G_body (hr.mono (by omega)) (by rfl) T.body.m T.body.F.kp T.body.b .nil pass0 (pa_cons (pv 3) pa_nil))) pe_str))))))))), ?_⟩
  -- head and body written
  have c2 : ∀ (E : Ends) H1 a p L xs (b : List Pt) k0, E.rt = Q → Same H H1 → H1 L = some (.lst xs) → RpL M0 H1 xs (b.map Pt.enc) → bOk 4 b → pSm x = pHb p b →
      tSeq (tIfS (tTest (tOp rEq (tCB (fun xs H Q => ∃ p ys, xs = [.ref p] ∧ (SqL K H p ys ∨ SqT K H p ys) ∧ Q (.int ys.length) H) (tCons (tVar 3) tNil)) (tC (.int 0)))) (tRet (tOp rAS (tVar 2) (tC (.str ".")))) tNext)
        (tRet (tOp rAS (tOp rAS (tOp rAS (tVar 2) (tC (.str " :- "))) (tCall (spF (fun b : List Pt => .list (b.map Pt.enc)) pB (bOk 4)) [] E0 (tCons (tVar 3) tNil))) (tC (.str ".")))) E [some a, k0, some (.str (tx p)), some (.ref L)] H1 := by
    intro E H1 a p L xs b k0 eE s1 hL hX hb ep
    subst eE
    have hlen : xs.length = b.length := by rw [hX.1, List.length_map]
    refine ⟨_, rfl, L, xs, rfl, .inl (SqL.of hL), rfl, _, rfl, ?_⟩
    rw [dec_int]
    rw [ep] at hz q
    by_cases h0 : b.length = 0
    · refine iT (by rw [hlen, h0]; rfl) ?_
      unfold pHb at hz q
      rw [if_pos h0, tx_app, tx_tk] at hz q
      rw [len_app] at hz
      exact ⟨_, rfl, _, _, rfl, rfl, szM hz, q H1 s1⟩
    · refine iF (by rw [beq_eq_false_iff_ne]; omega) ?_
      unfold pHb at hz q
      rw [if_neg h0, tx_app, tx_app, tx_app, tx_tk, tx_ifs] at hz q
      simp only [len_app] at hz
      refine ⟨_, rfl, _, _, rfl, rfl, szM (by omega), _, rfl, _, b, rfl, hX.lst' hL (fun z => z), hb, by omega, fun H2 s2 => ?_⟩
      exact ⟨_, _, rfl, rfl, szM (by rw [len_app]; omega), _, _, rfl, rfl, szM (by rw [len_app, len_app]; omega), q H2 (s1.trans s2)⟩
  cases x with
  | rule a b =>
    obtain ⟨c, x0, x1, x2, rfl, hc, q0, q1, q2⟩ := hR.tup3
    rw [q0.of_str] at hc
    obtain ⟨L, xs, rfl, hL, _, hX⟩ := q2.of_lst
    have hle : (tx (pA a)).length ≤ 1000000 := by
      have e : (tx (pA a)).length ≤ (tx (pHb (pA a) b)).length := pHb_le _ _
      exact Nat.le_trans e hz
    refine ⟨_, rfl, c, _, _, _, rfl, rfl, SqT.of hc, atI_nat (j := 0) rfl, ?_⟩
    refine ⟨_, rfl, rfl, _, rfl, iF (by decide +kernel) ?_⟩
    refine ⟨_, rfl, rfl, _, rfl, iF (by decide +kernel) ?_⟩
    refine ⟨_, rfl, rfl, _, rfl, iF (by decide +kernel) ?_⟩
    refine ⟨_, rfl, rfl, _, rfl, iT (decide_eq_true rfl) ?_⟩
    refine ⟨_, rfl, c, _, _, _, rfl, rfl, SqT.of hc, atI_nat (j := 1) rfl, _, a, rfl, q1, hx.1, hle, fun H1 s1 => ?_⟩
    refine ⟨_, rfl, c, _, _, _, rfl, rfl, SqT.of (s1 _ _ hc), atI_nat (j := 2) rfl, _, _, rfl, ?_⟩
    exact c2 _ H1 _ (pA a) L xs b _ rfl s1 (s1 _ _ hL) (hX.same s1) ⟨Nat.le_trans hx.2.1 (by decide), hx.2.2⟩ rfl
  | choose lo cs hi b =>
    have hR0 := hR
    obtain ⟨c, x0, x1, x2, x3, x4, rfl, hc, q0, q1, q2, q3, q4⟩ := hR.tup5
    rw [q0.of_str] at hc
    obtain ⟨L, xs, rfl, hL, _, hX⟩ := q4.of_lst
    obtain ⟨hlo, hcs, hhi, hb⟩ := hx
    have hle : (tx (pH lo cs hi)).length ≤ 1000000 := by
      have e : (tx (pH lo cs hi)).length ≤ (tx (pHb (pH lo cs hi) b)).length := pHb_le _ _
      exact Nat.le_trans e hz
    refine ⟨_, rfl, c, _, _, _, rfl, rfl, SqT.of hc, atI_nat (j := 0) rfl, ?_⟩
    refine ⟨_, rfl, rfl, _, rfl, iF (by decide +kernel) ?_⟩
    refine ⟨_, rfl, rfl, _, rfl, iF (by decide +kernel) ?_⟩
    refine ⟨_, rfl, rfl, _, rfl, iF (by decide +kernel) ?_⟩
    refine ⟨_, rfl, rfl, _, rfl, iF (by decide +kernel) ?_⟩
    refine ⟨_, rfl, _, lo, cs, hi, b, rfl, hR0, hlo, hcs, hhi, hle, fun H1 s1 => ?_⟩
    refine ⟨_, rfl, c, _, _, _, rfl, rfl, SqT.of (s1 _ _ hc), atI_nat (j := 4) rfl, _, _, rfl, ?_⟩
    exact c2 _ H1 _ (pH lo cs hi) L xs b _ rfl s1 (s1 _ _ hL) (hX.same s1) ⟨Nat.le_trans hb.1 (by decide), hb.2⟩ rfl
  | deny b =>
    obtain ⟨c, x0, x1, rfl, hc, q0, q1⟩ := hR.tup2
    rw [q0.of_str] at hc
    have htx : tx (pSm (.deny b)) = (":- " : Str) ++ tx (pB b) ++ ("." : Str) := by
      rw [show pSm (.deny b) = [sg ":-", .sp] ++ pB b ++ [sg "."] from rfl, tx_app, tx_app, tx_tk, tx_ifs2]
    rw [htx] at hz q
    have hz' := hz
    simp only [len_app] at hz'
    refine ⟨_, rfl, c, _, _, _, rfl, rfl, SqT.of hc, atI_nat (j := 0) rfl, ?_⟩
    refine ⟨_, rfl, rfl, _, rfl, iF (by decide +kernel) ?_⟩
    refine ⟨_, rfl, rfl, _, rfl, iF (by decide +kernel) ?_⟩
    refine ⟨_, rfl, rfl, _, rfl, iT (decide_eq_true rfl) ?_⟩
    exact ⟨_, rfl, c, _, _, _, rfl, rfl, SqT.of hc, atI_nat (j := 1) rfl, _, b, rfl, q1, hx.2, by omega, fun H1 s1 => ⟨_, _, rfl, rfl, szM (by omega), _, _, rfl, rfl, szM (by rw [len_app]; omega), q H1 s1⟩⟩
  | range lo hi =>
    obtain ⟨c, x0, x1, x2, rfl, hc, q0, q1, q2⟩ := hR.tup3
    rw [q0.of_str, q1.of_int, q2.of_int] at hc
    have htx : tx (pSm (.range lo hi)) = ("range " : Str) ++ dg lo ++ (" " : Str) ++ dg hi ++ ("." : Str) := by
      rw [show pSm (.range lo hi) = [.tk "name" "range", .sp] ++ [.tk "int" (dg lo)] ++ [.sp] ++ [.tk "int" (dg hi)] ++ [sg "."] from rfl, tx_app, tx_app, tx_app, tx_app, tx_tk, tx_tk, tx_tk, tx_sp, tx_rng]
    rw [htx] at hz q
    have hz' := hz
    simp only [len_app] at hz'
    have e1 : (toString lo : Str) = dg lo := rfl
    have e2 : (toString hi : Str) = dg hi := rfl
    refine ⟨_, rfl, c, _, _, _, rfl, rfl, SqT.of hc, atI_nat (j := 0) rfl, ?_⟩
    refine ⟨_, rfl, rfl, _, rfl, iT (decide_eq_true rfl) ?_⟩
    refine ⟨_, rfl, c, _, _, _, rfl, rfl, SqT.of hc, atI_nat (j := 1) rfl, lo, rfl, i4_log hx.1, ?_⟩
    rw [e1]
    refine ⟨_, _, rfl, rfl, szM (by omega), _, _, rfl, rfl, szM (by rw [len_app]; omega), ?_⟩
    refine ⟨_, rfl, c, _, _, _, rfl, rfl, SqT.of hc, atI_nat (j := 2) rfl, hi, rfl, i4_log hx.2, ?_⟩
    rw [e2]
    exact ⟨_, _, rfl, rfl, szM (by rw [len_app, len_app]; omega), _, _, rfl, rfl, szM (by rw [len_app, len_app, len_app]; omega), q H (Same.refl H)⟩
  | mini ms =>
    obtain ⟨c, x0, x1, rfl, hc, q0, q1⟩ := hR.tup2
    rw [q0.of_str] at hc
    have htx : tx (pSm (.mini ms)) = ("minimize " : Str) ++ tx (pMs ms) ++ ("." : Str) := by
      rw [show pSm (.mini ms) = [.tk "name" "minimize", .sp] ++ pMs ms ++ [sg "."] from rfl, tx_app, tx_app, tx_tk, tx_min]
    rw [htx] at hz q
    have hz' := hz
    simp only [len_app] at hz'
    refine ⟨_, rfl, c, _, _, _, rfl, rfl, SqT.of hc, atI_nat (j := 0) rfl, ?_⟩
    refine ⟨_, rfl, rfl, _, rfl, iF (by decide +kernel) ?_⟩
    refine ⟨_, rfl, rfl, _, rfl, iT (decide_eq_true rfl) ?_⟩
    exact ⟨_, rfl, c, _, _, _, rfl, rfl, SqT.of hc, atI_nat (j := 1) rfl, _, ms, rfl, q1, hx, by omega, fun H1 s1 => ⟨_, _, rfl, rfl, szM (by omega), _, _, rfl, rfl, szM (by rw [len_app]; omega), q H1 s1⟩⟩
theorem ok_format_text (G_format_statement : FnOk P w K mg base CX0 11 T.format_statement.f T.format_statement.fd P_format_statement (spF Sm.enc pSm Sm.ok)) : FnOk P w K mg base CX0 12 T.format_text.f T.format_text.fd P_format_text (spF (fun ss : List Sm => .list (ss.map Sm.enc)) pAll ssOk) := by
  refine T.format_text.F.ok sc_format_text (fun vs H Q E h => ?_) (fun cdv A outer s H vs Q E hr h => ?_)
  · obtain ⟨v, x, rfl, _⟩ := h
    rfl
  obtain ⟨v, x, rfl, hR, hx, hz, q⟩ := h
  refine ⟨_, (pss_one (ps_ret (pe_join pe_str (pe_lc (own := [("statement", 1)]) (g := gName 1) (by rfl) sc_format_text.nd (pi_list (pv 0)) (blkOk_by (own := [("statement", 1)]) (N := N_format_text) (sc := defScope s_format_text) (by decide +kernel)) (fun _ _ _ _ _ => pg_name (i := 1) sc_format_text.nd rfl (Or.inl rfl)) (fun _ _ _ _ _ => pts_nil) (fun _ _ _ _ _ => (pe_op op_add_str (pe_call G_format_statement (hr.mono (by omega)) (by rfl) T.format_statement.m T.format_statement.F.kp T.format_statement.b .nil pass0 (pa_cons (pv 1) pa_nil)) pe_str)))))), ?_⟩
  obtain ⟨L, xs, rfl, hL, _, hX⟩ := hR.of_lst
  have hlen : xs.length = x.length := by rw [hX.1, List.length_map]
  have hx1 := hx.1
  rw [tx_all] at hz q
  have hj := join_le "" ((x.map (fun y => pSm y ++ [.nl])).map tx)
  have hsep : (("" : Str)).length = 0 := by decide +kernel
  refine ⟨⟨_, rfl⟩, _, rfl, L, rfl, ⟨_, SqL.of hL⟩, fun D hD => ?_⟩
  refine lc_str (sl := (x.map (fun y => pSm y ++ [.nl])).map tx) (by simp [hlen]) (by omega) (SqL.of hL) hD (fun i y s Hc Q' hi hs s1 k => ?_) fun H' s' hD' => ?_
  · rw [List.getElem?_map, List.getElem?_map] at hs
    cases ht : x[i]? with
    | none => rw [ht] at hs; cases hs
    | some t =>
      rw [ht] at hs
      cases hs
      have htm := List.mem_of_getElem? ht
      have hRt := hX.2 i y t.enc hi (by rw [List.getElem?_map, ht]; rfl)
      have hle := join_mem (sep := "") (List.mem_map_of_mem (f := tx) (List.mem_map_of_mem (f := fun y => pSm y ++ [.nl]) htm))
      rw [tx_app, tx_nl] at hle k
      rw [len_app] at hle
      exact ⟨_, rfl, y, t, rfl, hRt.same s1, hx.2 t htm, by omega, fun H2 s2 => ⟨_, _, rfl, rfl, szM (by omega), k H2 s2⟩⟩
  · refine ⟨_, D, _, rfl, rfl, .inl (SqL.of hD'), szM2 (by rw [hsep] at hj ⊢; omega), ?_⟩
    rw [TL.join_eq]
    exact q H' s'
end
end Kt
/-! K18: what the law draws: the state, a number, a name, a term -/
namespace Kt
open PySem L2
abbrev Msc (S C : Addr) : Addr → Prop := fun b => b = S ∨ b = C
structure StAt (H : Hp) (S C : Addr) : Prop where
  ob : ∃ (cs : List Int) (m q : Int), H S = some (.lst [.ref C, .int m, .int q]) ∧ H C = some (.lst (cs.map V.int)) ∧ (∀ c ∈ cs, 0 ≤ c) ∧ cs.length ≤ 63 ∧ 0 ≤ m ∧ m < 2147483648
theorem StAt.neS {H : Hp} {S C : Addr} (h : StAt H S C) : H S ≠ none := by
  obtain ⟨cs, m, q, e, _⟩ := h.ob
  rw [e]; simp
theorem StAt.neC {H : Hp} {S C : Addr} (h : StAt H S C) : H C ≠ none := by
  obtain ⟨cs, m, q, _, e, _⟩ := h.ob
  rw [e]; simp
theorem StAt.dm {H : Hp} {S C : Addr} (h : StAt H S C) : ∀ b, Msc S C b → H b ≠ none := fun b e => by
  rcases e with e | e
  · rw [e]; exact h.neS
  · rw [e]; exact h.neC
theorem StAt.nw {H : Hp} {S C D : Addr} {o : HO} (h : StAt H S C) (hD : H D = none) : StAt (upd H D o) S C := by
  obtain ⟨cs, m, q, e1, e2, r⟩ := h.ob
  exact ⟨cs, m, q, by rw [upd_ne (ne_of_none e1 hD)]; exact e1, by rw [upd_ne (ne_of_none e2 hD)]; exact e2, r⟩
theorem StAt.upd {H : Hp} {S C D : Addr} {o : HO} (h : StAt H S C) (h1 : D ≠ S) (h2 : D ≠ C) : StAt (L2.upd H D o) S C := by
  obtain ⟨cs, m, q, e1, e2, r⟩ := h.ob
  exact ⟨cs, m, q, by rw [upd_ne (Ne.symm h1)]; exact e1, by rw [upd_ne (Ne.symm h2)]; exact e2, r⟩
theorem nMsc {H : Hp} {S C D : Addr} (h : StAt H S C) (hD : H D = none) : ¬ Msc S C D := fun e => h.dm D e hD
def spState (K : PySem.W.Frag) : Sp := fun vs H Q _ => ∃ (a : Addr) (ns : List Int), vs = [.ref a] ∧ SqL K H a (ns.map V.int) ∧ ns.length ≤ 63 ∧ ∀ H' S C, Same H H' → H S = none → H C = none → StAt H' S C → Q (.ref S) H'
def spDraw : Sp := fun vs H Q _ => ∃ (S C : Addr) (n : Int), vs = [.ref S, .int n] ∧ StAt H S C ∧ 1 ≤ n ∧ n ≤ 10000 ∧ ∀ H' j, Kp (Msc S C) H H' → StAt H' S C → 0 ≤ j → j < n → Q (.int j) H'
def spName : Sp := fun vs H Q _ => ∃ (S C : Addr), vs = [.ref S] ∧ StAt H S C ∧ ∀ H' s, Kp (Msc S C) H H' → StAt H' S C → s ∈ nms → Q (.str s) H'
def spTm : Nat → Sp
  | 0 => fun _ _ _ _ => False
  | d + 1 => fun vs H Q _ => ∃ (S C : Addr), vs = [.ref S, .int (d : Int)] ∧ StAt H S C ∧ ∀ H' v t, Kp (Msc S C) H H' → StAt H' S C → Tm.ok d t → Rp (dom H) H' v t.enc → Q v H'
theorem pick {l : List Str} {j : Int} (h0 : 0 ≤ j) (h1 : j < l.length) : ∃ s, atI (l.map V.str) j = some (.str s) ∧ s ∈ l := by
  have hk : j.toNat < l.length := by omega
  have e : j = ((j.toNat : Nat) : Int) := by omega
  refine ⟨l[j.toNat], ?_, List.getElem_mem _⟩
  exact at_of e (by rw [List.getElem?_map, List.getElem?_eq_getElem hk]; rfl)
theorem tyes_i {te : TE} {σ : L2.St} {H : Hp} {k : VK} {N : Hp → Prop} (h : te σ H k) : tYes σ H (fun b H3 => if b = true then te σ H3 k else N H3) := by
  show (if true = true then te σ H k else N H)
  rw [if_pos rfl]
  exact h
theorem seq0 {n : Nat} (h : 0 < n) : seqIndex? 0 n = some 0 := by
  have e : ixN n 0 = some 0 := by
    unfold ixN
    rw [if_pos (Int.le_refl 0), if_pos (by omega)]
    rfl
  exact (ixN_seq e).1
theorem ixN0 {n : Nat} (h : 0 < n) : ixN n 0 = some 0 := by
  unfold ixN
  rw [if_pos (Int.le_refl 0), if_pos (by omega)]
  rfl
theorem ixN1 {n : Nat} (h : 1 < n) : ixN n 1 = some 1 := by
  unfold ixN
  rw [if_pos (by decide), if_pos (by omega)]
  rfl
section
variable {P : Program} {w : World} {K : PySem.W.Frag} {mg : Str → Option Value} {base : Heap} (T : Txt K mg)
include T
theorem ok_law_state : FnOk P w K mg base CX0 1 T.law_state.f T.law_state.fd P_law_state (spState K) := by
  refine T.law_state.F.ok sc_law_state (fun vs H Q E h => ?_) (fun cdv A outer s H vs Q E hr h => ?_)
  · obtain ⟨a, ns, rfl, _⟩ := h
    rfl
  obtain ⟨a, ns, rfl, hS, hn, q⟩ := h
  refine ⟨_, (pss_cons (ps_set (i := 1) sc_law_state.nd rfl (Or.inl rfl) pe_int)
      (pss_cons (ps_for PassesOwn.never rfl (pi_list (pv 0)) (pg_name (i := 2) sc_law_state.nd rfl (Or.inl rfl)) (pss_one (ps_set (i := 1) sc_law_state.nd rfl (Or.inl rfl) (pe_op op_mod (pe_callTy call_int1 (by rfl) T.zint (by decide +kernel) (pa_cons (pe_op op_add (pe_op op_mul (pv 1) pe_int) (pv 2)) pa_nil)) pe_int))))
      (pss_one (ps_ret (pe_lst (pa_cons (pe_lc (own := [("_law_cell", 2)]) (g := gName 2) (by rfl) sc_law_state.nd (pi_list (pv 0)) (blkOk_by (own := [("_law_cell", 2)]) (N := N_law_state) (sc := defScope s_law_state) (by decide +kernel)) (fun _ _ _ _ _ => pg_name (i := 2) sc_law_state.nd rfl (Or.inl rfl)) (fun _ _ _ _ _ => pts_nil) (fun _ _ _ _ _ => (pe_callB call_abs (by rfl) T.zabs (by decide +kernel) (pa_cons (pv 2) pa_nil)))) (pa_cons (pe_op op_add (pv 1) pe_int) (pa_cons (pe_op op_mod (pe_callTy call_int1 (by rfl) T.zint (by decide +kernel) (pa_cons (pv 1) pa_nil)) pe_int) pa_nil)))))))), ?_⟩
  refine ⟨_, rfl, a, rfl, ⟨_, hS⟩, for_list (K := K) (a := a) (xs := ns.map V.int) (fun i σ H2 => H2 = H ∧ ∃ (sd : Int) (u : Option V), σ = [some (.ref a), some (.int sd), u] ∧ 0 ≤ sd ∧ sd < 1000003) ⟨rfl, 11, none, rfl, by decide, by decide⟩ (fun i σ H2 _ h => by rw [h.1]; exact hS) ?_ ?_⟩
  · rintro i x σ H2 hi ⟨rfl, sd, u, rfl, h0, h1⟩
    rw [List.getElem?_map] at hi
    cases hni : ns[i]? with
    | none => rw [hni] at hi; cases hi
    | some n =>
      rw [hni] at hi
      cases hi
      refine ⟨_, rfl, _, _, rfl, rfl, .inl ⟨by omega, by omega⟩, _, rfl, _, _, rfl, rfl, .inl ⟨_, rfl, _, _, rfl, rfl, (show (0 : Int) < 1000003 by decide), rfl, _, _, rfl, ?_, ?_⟩⟩
      · exact Int.emod_nonneg _ (by decide)
      · exact Int.emod_lt_of_pos _ (by decide)
  · rintro σ H2 ⟨rfl, sd, u, rfl, h0, h1⟩
    refine ⟨_, rfl, a, rfl, ⟨_, hS⟩, fun D hD => ?_⟩
    have hlm : (ns.map V.int).length = ns.length := List.length_map _
    refine lc_list (K := K) (a := a) (xs := ns.map V.int) (fun i Hc => Hc = upd H2 D (.lst (((ns.take i).map fun n => if n < 0 then -n else n).map V.int))) rfl (fun i Hc _ h => by rw [h]; exact (same_upd (Same.refl H2) hD).seq hS) ?_ ?_
    · rintro i x Hc hi rfl
      rw [List.getElem?_map] at hi
      cases hni : ns[i]? with
      | none => rw [hni] at hi; cases hi
      | some n =>
        rw [hni] at hi
        cases hi
        have hi2 : i < ns.length := (List.getElem?_eq_some_iff.mp hni).1
        refine ⟨rfl, tyes_i ?_⟩
        refine ⟨_, rfl, n, rfl, _, upd_same, ?_, ?_⟩
        · rw [List.length_map, List.length_map, List.length_take]
          exact small1000 (by omega)
        · rw [upd_upd, List.take_add_one, hni, List.map_append, List.map_append]
          rfl
    · rintro Hc rfl
      rw [hlm, List.take_length]
      refine ⟨_, rfl, _, _, rfl, rfl, _, rfl, .inl ⟨_, rfl, _, _, rfl, rfl, (show (0 : Int) < 4 by decide), sz3, fun S hS2 => ?_⟩⟩
      have hS0 : H2 S = none := by
        by_cases e : S = D
        · rw [e]; exact hD
        · rw [upd_ne e] at hS2; exact hS2
      have nSD : S ≠ D := fun e => by rw [e, upd_same] at hS2; cases hS2
      refine q _ S D (same_upd (same_upd (Same.refl H2) hD) hS2) hS0 hD ⟨(ns.map fun n => if n < 0 then -n else n), sd + 1, _, upd_same, ?_, ?_, ?_, by omega, by omega⟩
      · rw [upd_ne (Ne.symm nSD)]
        exact upd_same
      · intro c hc
        obtain ⟨n, _, e⟩ := List.mem_map.mp hc
        rw [← e]
        split <;> omega
      · rw [List.length_map]
        exact hn
theorem ok_law_draw : FnOk P w K mg base CX0 1 T.law_draw.f T.law_draw.fd P_law_draw spDraw := by
  refine T.law_draw.F.ok sc_law_draw (fun vs H Q E h => ?_) (fun cdv A outer s H vs Q E hr h => ?_)
  · obtain ⟨S, C, n, rfl, _⟩ := h
    rfl
  obtain ⟨S, C, n, rfl, st, hn1, hn2, q⟩ := h
  obtain ⟨cs, m, r, hS, hC, hc0, hcl, hm0, hm1⟩ := id st.ob
  refine ⟨_, (pss_cons (ps_set (i := 2) sc_law_draw.nd rfl (Or.inl rfl) (pe_ix ix_list (pv 0) pe_int (fun _ _ => rfl)))
      (pss_cons (ps_for PassesOwn.never rfl (pi_range1 (by rfl) T.zrange (pa_cons (pe_callB call_len_seq (by rfl) T.zlen PySem.boot_len (pa_cons (pv 2) pa_nil)) pa_nil)) (pg_name (i := 3) sc_law_draw.nd rfl (Or.inl rfl)) (pss_one (ps_if (PW.pt (pw_and (pt_cmpR op_eq (pe_ix ix_list (pv 2) pe_int (fun _ _ => rfl)) pe_int (nomark _)) (pw_and1 (pt_cmpR op_gt (pe_callB call_len_seq (by rfl) T.zlen PySem.boot_len (pa_cons (pv 2) pa_nil)) pe_int (nomark _))))) (pss_one (ps_expr (pe_bm PySem.F.plainAttrs_list PySem.F.slot_list_pop PySem.F.type_list_pop mt_popAt (pv 2) (pa_cons pe_int pa_nil)))) pss_nil)))
      (pss_cons (ps_if (PW.pt (pw_and (pt_cmpR op_gt (pe_callB call_len_seq (by rfl) T.zlen PySem.boot_len (pa_cons (pv 2) pa_nil)) pe_int (nomark _)) (pw_and1 (pt_cmpR op_gt (pe_ix ix_list (pv 2) pe_int (fun _ _ => rfl)) pe_int (nomark _))))) (pss_cons (ps_set (i := 4) sc_law_draw.nd rfl (Or.inl rfl) (pe_ix ix_list (pv 2) pe_int (fun _ _ => rfl)))
      (pss_cons (ps_asg (pe_op op_fdiv (pv 4) (pv 1)) (pg_sub (pv 2) pe_int set_list))
      (pss_one (ps_ret (pe_op op_mod (pe_callTy call_int1 (by rfl) T.zint (by decide +kernel) (pa_cons (pv 4) pa_nil)) (pv 1)))))) pss_nil)
      (pss_cons (ps_set (i := 5) sc_law_draw.nd rfl (Or.inl rfl) (pe_op op_mod (pe_callTy call_int1 (by rfl) T.zint (by decide +kernel) (pa_cons (pe_op op_add (pe_op op_mul (pe_ix ix_list (pv 0) pe_int (fun _ _ => rfl)) pe_int) pe_int) pa_nil)) pe_int))
      (pss_cons (ps_asg (pv 5) (pg_sub (pv 0) pe_int set_list))
      (pss_one (ps_ret (pe_op op_mod (pe_callTy call_int1 (by rfl) T.zint (by decide +kernel) (pa_cons (pe_op op_fdiv (pv 5) pe_int) pa_nil)) (pv 1))))))))), ?_⟩
  refine ⟨_, rfl, S, _, _, _, rfl, rfl, SqL.of hS, atI_nat (j := 0) rfl, ?_⟩
  have hlm : (cs.map V.int).length = cs.length := List.length_map _
  refine ⟨_, rfl, C, _, rfl, .inl (SqL.of hC), _, rfl, by omega, by omega, ?_⟩
  have nSC : S ≠ C := fun e => by
    rw [e, hC] at hS
    have hS' := HO.lst.inj (Option.some.inj hS)
    cases cs with
    | nil => cases hS'
    | cons c cr =>
      rw [List.map_cons] at hS'
      injection hS' with h1 _
      cases h1
  refine for_range (lo := 0) (n := ((cs.map V.int).length : Int).toNat) (fun i σ H2 => ∃ (ds : List Int) (u : Option V), σ = [some (.ref S), some (.int n), some (.ref C), u, none, none] ∧ Kp (Msc S C) H H2 ∧ H2 S = some (.lst [.ref C, .int m, .int r]) ∧ H2 C = some (.lst (ds.map V.int)) ∧ (∀ c ∈ ds, 0 ≤ c) ∧ ds.length ≤ cs.length ∧ (0 < cs.length → 0 < ds.length))
    ⟨cs, none, rfl, Kp.refl, hS, hC, hc0, Nat.le_refl _, fun z => z⟩ ?_ ?_
  · rintro i σ H2 hi ⟨ds, u, rfl, kp, hS2, hC2, hd0, hdl, hdp⟩
    have hp : 0 < ds.length := hdp (by omega)
    obtain ⟨d, dr, rfl⟩ : ∃ d dr, ds = d :: dr := by
      cases ds with
      | nil => cases hp
      | cons d dr => exact ⟨d, dr, rfl⟩
    have same : ∀ u', ∃ (es : List Int) (u'' : Option V), [some (V.ref S), some (V.int n), some (V.ref C), u', none, none] = [some (.ref S), some (.int n), some (.ref C), u'', none, none] ∧ Kp (Msc S C) H H2 ∧ H2 S = some (.lst [.ref C, .int m, .int r]) ∧ H2 C = some (.lst (es.map V.int)) ∧ (∀ c ∈ es, 0 ≤ c) ∧ es.length ≤ cs.length ∧ (0 < cs.length → 0 < es.length) :=
      fun u' => ⟨d :: dr, u', rfl, kp, hS2, hC2, hd0, hdl, hdp⟩
    refine ⟨_, rfl, C, _, _, _, rfl, rfl, SqL.of hC2, atI_nat (j := 0) rfl, rfl, _, rfl, ?_⟩
    refine ite2 (fun c1 => ?_) (fun c1 => ?_)
    · refine ⟨_, rfl, C, _, rfl, .inl (SqL.of hC2), _, _, rfl, rfl, _, rfl, ?_⟩
      refine ite2 (fun c2 => ?_) (fun c2 => ?_)
      · have hlen : ((dr.map V.int).length : Int) + 1 > 1 := of_decide_eq_true c2
        rw [List.length_map] at hlen
        refine ⟨_, rfl, .inl ⟨rfl, _, .inl (.inl hC2)⟩, C, _, 0, 0, _, rfl, rfl, hC2, by decide, by decide, seq0 (by simp), rfl, ?_⟩
        refine ⟨dr, _, rfl, kp.mut (.inr rfl), ?_, upd_same, fun c hc => hd0 c (List.mem_cons_of_mem _ hc), ?_, fun _ => by omega⟩
        · rw [upd_ne nSC]
          exact hS2
        · rw [List.length_cons] at hdl
          omega
      · exact same _
    · exact iteF (same _)
  · rintro σ H2 ⟨ds, u, rfl, kp, hS2, hC2, hd0, hdl, hdp⟩
    have lst : ∀ (E : Ends), E.rt = Q → tSeq (tAsg (tOp (rI (fun _ j => 0 < j) fun i j => .int (i % j)) (tCB (fun xs H Q => (∃ i, xs = [.int i] ∧ Q (.int i) H) ∨ ∃ k, xs = [.bl k] ∧ Q (.int (if k then 1 else 0)) H) (tCons (tOp (rI0 fun i j => .int (i + j)) (tOp (rI CMul fun i j => .int (i * j)) (tOp (rIxL K) (tVar 0) (tC (.int 1))) (tC (.int 48271))) (tC (.int 12345))) tNil)) (tC (.int 2147483647))) (gName 5))
        (tSeq (tAsg (tVar 5) (gSub (tVar 0) (tC (.int 1)) rSetL)) (tRet (tOp (rI (fun _ j => 0 < j) fun i j => .int (i % j)) (tCB (fun xs H Q => (∃ i, xs = [.int i] ∧ Q (.int i) H) ∨ ∃ k, xs = [.bl k] ∧ Q (.int (if k then 1 else 0)) H) (tCons (tOp (rI CDiv fun i j => .int (i / j)) (tVar 5) (tC (.int 64))) tNil)) (tVar 1)))) E [some (.ref S), some (.int n), some (.ref C), u, none, none] H2 := by
      intro E eE
      subst eE
      have hx0 : 0 ≤ (m * 48271 + 12345) % 2147483647 := Int.emod_nonneg _ (by decide)
      have hx1 : (m * 48271 + 12345) % 2147483647 < 2147483647 := Int.emod_lt_of_pos _ (by decide)
      refine ⟨_, rfl, S, _, _, _, rfl, rfl, SqL.of hS2, atI_nat (j := 1) rfl, _, _, rfl, rfl, .inl ⟨by omega, by omega⟩, _, _, rfl, rfl, .inl ⟨_, rfl, _, _, rfl, rfl, (show (0 : Int) < 2147483647 by decide), ?_⟩⟩
      refine ⟨_, rfl, _, rfl, S, _, 1, 1, rfl, rfl, hS2, ixN1 (by simp), ?_⟩
      refine ⟨_, rfl, _, _, rfl, rfl, ⟨by decide, by decide⟩, .inl ⟨_, rfl, _, rfl, _, _, rfl, rfl, (show (0 : Int) < n by omega), ?_⟩⟩
      refine q _ _ (kp.mut (.inl rfl)) ⟨ds, (m * 48271 + 12345) % 2147483647, r, upd_same, ?_, hd0, by omega, hx0, by omega⟩ (Int.emod_nonneg _ (by omega)) (Int.emod_lt_of_pos _ (by omega))
      rw [upd_ne (Ne.symm nSC)]
      exact hC2
    refine ⟨_, rfl, C, _, rfl, .inl (SqL.of hC2), _, _, rfl, rfl, _, rfl, ?_⟩
    refine ite2 (fun c1 => ?_) (fun c1 => ?_)
    · have hlen : ((ds.map V.int).length : Int) > 0 := of_decide_eq_true c1
      rw [List.length_map] at hlen
      obtain ⟨d, dr, rfl⟩ : ∃ d dr, ds = d :: dr := by
        cases ds with
        | nil => exact absurd hlen (by simp)
        | cons d dr => exact ⟨d, dr, rfl⟩
      refine ⟨_, rfl, C, _, _, _, rfl, rfl, SqL.of hC2, atI_nat (j := 0) rfl, _, _, rfl, rfl, _, rfl, ?_⟩
      refine ite2 (fun c2 => ?_) (fun c2 => ?_)
      · have hd : 0 ≤ d := hd0 d List.mem_cons_self
        refine ⟨_, rfl, C, _, _, _, rfl, rfl, SqL.of hC2, atI_nat (j := 0) rfl, ?_⟩
        refine ⟨_, rfl, _, rfl, _, _, rfl, rfl, ⟨by omega, by omega⟩, _, rfl, C, _, 0, 0, rfl, rfl, hC2, ixN0 (by simp), ?_⟩
        refine ⟨_, rfl, .inl ⟨_, rfl, _, rfl, _, _, rfl, rfl, (show (0 : Int) < n by omega), ?_⟩⟩
        refine q _ _ (kp.mut (.inr rfl)) ⟨d / n :: dr, m, r, ?_, upd_same, ?_, (show dr.length + 1 ≤ 63 by rw [List.length_cons] at hdl; omega), hm0, hm1⟩ (Int.emod_nonneg _ (by omega)) (Int.emod_lt_of_pos _ (by omega))
        · rw [upd_ne nSC]
          exact hS2
        · intro c hc
          rcases List.mem_cons.mp hc with e | hc
          · rw [e]
            exact Int.ediv_nonneg hd (by omega)
          · exact hd0 c (List.mem_cons_of_mem _ hc)
      · exact lst _ rfl
    · exact iteF (lst _ rfl)
variable (G_law_draw : FnOk P w K mg base CX0 1 T.law_draw.f T.law_draw.fd P_law_draw spDraw)
include G_law_draw
theorem ok_law_name : FnOk P w K mg base CX0 2 T.law_name.f T.law_name.fd P_law_name spName := by
  refine T.law_name.F.ok sc_law_name (fun vs H Q E h => ?_) (fun cdv A outer s H vs Q E hr h => ?_)
  · obtain ⟨S, C, rfl, _⟩ := h
    rfl
  obtain ⟨S, C, rfl, st, q⟩ := h
  refine ⟨_, (pss_one (ps_ret (pe_ix ix_list (pe_lst (pa_cons pe_str (pa_cons pe_str (pa_cons pe_str (pa_cons pe_str (pa_cons pe_str (pa_cons pe_str (pa_cons pe_str pa_nil)))))))) (pe_call G_law_draw (hr.mono (by omega)) (by rfl) T.law_draw.m T.law_draw.F.kp T.law_draw.b .nil pass0 (pa_cons (pv 0) (pa_cons pe_int pa_nil))) (fun _ _ => rfl)))), ?_⟩
  refine ⟨(show 7 ≤ sizeLine by decide), fun D hD => ?_⟩
  refine ⟨_, rfl, S, C, 7, rfl, st.nw hD, by decide, by decide, fun H1 j kp st1 h0 h1 => ?_⟩
  obtain ⟨x, ha, hm⟩ := pick (l := nms) h0 h1
  refine ⟨D, nms.map V.str, j, _, rfl, rfl, SqL.of (kp.oth D _ upd_same (nMsc st hD)), ha, ?_⟩
  exact q H1 x ((Kp.refl.new hD).trans kp) st1 hm
end
end Kt
/-! K19: what the law draws: terms, atoms, conditions -/
namespace Kt
open PySem L2
theorem lc_gen {α : Type} {enc : α → PyData} {ok : α → Prop} {te : TE} {v n : Nat} {σ : L2.St} {H1 : Hp} {D S C : Addr} {Qd : Hp → Prop} (hn : n ≤ 1000) (st : StAt H1 S C) (hD : H1 D = none)
    (hE : ∀ (x : V) (Hc : Hp) (Q : VK), StAt Hc S C → (∀ H' y z, Kp (Msc S C) Hc H' → StAt H' S C → ok z → Rp (dom Hc) H' y (enc z) → Q y H') → te ((σ.set v none).set v (some x)) Hc Q)
    (hd : ∀ (H' : Hp) (vs : List V) (zs : List α), Kp (Msc S C) H1 H' → StAt H' S C → H' D = some (.lst vs) → zs.length = n → (∀ z ∈ zs, ok z) → RpL (domD H1 D) H' vs (zs.map enc) → Qd H') :
    ∃ W : Nat → Nat → Hp → Prop, (∃ m, W 0 m (upd H1 D (.lst []))) ∧ ∀ i m H, W i m H →
      ((Itr 0 n).stop i H ∧ Qd H) ∨ ((Itr 0 n).go i H ∧ ∃ Nx : Hp → Prop, (∀ H', Nx H' → ∃ m', m' < m ∧ W (i + 1) m' H') ∧ ∀ x H', (Itr 0 n).yld i H x H' → gName v x (wipe σ [v]) H' fun σ2 H2 => wipe σ2 [v] = wipe σ [v] ∧ tYes σ2 H2 fun b H3 =>
        if b = true then te σ2 H3 fun y H4 => ∃ acc, H4 D = some (.lst acc) ∧ acc.length < sizeLine ∧ Nx (upd H4 D (.lst (acc ++ [y]))) else Nx H3) := by
  refine lc_range (lo := 0) (n := n) (fun i Hc => ∃ (vs : List V) (zs : List α), Kp (Msc S C) H1 Hc ∧ StAt Hc S C ∧ Hc D = some (.lst vs) ∧ zs.length = i ∧ (∀ z ∈ zs, ok z) ∧ RpL (domD H1 D) Hc vs (zs.map enc)) ⟨[], [], Kp.refl.new hD, st.nw hD, upd_same, rfl, fun z hz => (by cases hz), RpL.nil⟩ ?_ ?_
  · rintro i Hc hi ⟨vs, zs, kp, stc, hDc, hl, hok, hR⟩
    have nM := nMsc st hD
    refine ⟨?_, tyes_i ?_⟩
    · show ((σ.set v none).set v (some _)).set v none = σ.set v none
      rw [List.set_set, List.set_set]
    · refine hE _ Hc _ stc fun H' y z kp2 st2 hz hy => ⟨vs, kp2.oth D _ hDc nM, ?_, vs ++ [y], zs ++ [z], (kp.trans kp2).loc hD, st2.upd (fun e => nM (.inl e)) (fun e => nM (.inr e)), upd_same, by rw [List.length_append, hl]; rfl, ?_, ?_⟩
      · rw [hR.1, List.length_map]
        exact small1000 (by omega)
      · intro u hu
        rcases List.mem_append.mp hu with h | h
        · exact hok u h
        · have e : u = z := by simpa using h
          rw [e]; exact hz
      · rw [List.map_append]
        refine RpL.snoc ((hR.kp kp2 fun b e => .inl (st.dm b e)).upd (.inl (.inr rfl))) ((hy.weak fun b e => ?_).upd (.inl (.inr rfl)))
        rcases e with e | e
        · exact kp.dm b e
        · rw [e]; exact some_ne hDc
  · rintro Hc ⟨vs, zs, kp, stc, hDc, hl, hok, hR⟩
    exact hd Hc vs zs kp stc hDc hl hok hR
def spAm : Sp := fun vs H Q _ => ∃ (S C : Addr), vs = [.ref S] ∧ StAt H S C ∧ ∀ H' v a, Kp (Msc S C) H H' → StAt H' S C → Am.ok a → Rp (dom H) H' v a.enc → Q v H'
def spCd : Sp := fun vs H Q _ => ∃ (S C : Addr), vs = [.ref S] ∧ StAt H S C ∧ ∀ H' v c, Kp (Msc S C) H H' → StAt H' S C → Cd.ok c → Rp (dom H) H' v c.enc → Q v H'
def spCds : Sp := fun vs H Q _ => ∃ (S C : Addr) (n : Nat), vs = [.ref S, .int (n : Int)] ∧ StAt H S C ∧ 1 ≤ n ∧ n ≤ 10 ∧
  ∀ (H' : Hp) (D : Addr) (xs : List V) (cs : List Cd), Kp (Msc S C) H H' → StAt H' S C → H D = none → H' D = some (.lst xs) → RpL (domD H D) H' xs (cs.map Cd.enc) → cs.length + 1 ≤ n → (∀ c ∈ cs, Cd.ok c) → Q (.ref D) H'
theorem pick2 {j : Int} (h0 : 0 ≤ j) (h1 : j < 2) : ∃ n : Int, atI [V.int 10, V.int 10000] j = some (.int n) ∧ 1 ≤ n ∧ n ≤ 10000 := by
  have e : j = ((0 : Nat) : Int) ∨ j = ((1 : Nat) : Int) := by omega
  rcases e with rfl | rfl
  · exact ⟨10, atI_nat rfl, by decide, by decide⟩
  · exact ⟨10000, atI_nat rfl, by decide, by decide⟩
section
variable {P : Program} {w : World} {K : PySem.W.Frag} {mg : Str → Option Value} {base : Heap} (T : Txt K mg)
variable (G_law_draw : FnOk P w K mg base CX0 1 T.law_draw.f T.law_draw.fd P_law_draw spDraw) (G_law_name : FnOk P w K mg base CX0 2 T.law_name.f T.law_name.fd P_law_name spName)
include T G_law_draw G_law_name
theorem ok_law_term {d : Nat} (G_law_term : FnOk P w K mg base CX0 (d + 2) T.law_term.f T.law_term.fd P_law_term (spTm d)) : FnOk P w K mg base CX0 (d + 3) T.law_term.f T.law_term.fd P_law_term (spTm (d + 1)) := by
  refine T.law_term.F.ok sc_law_term (fun vs H Q E h => ?_) (fun cdv A outer s H vs Q E hr h => ?_)
  · obtain ⟨S, C, rfl, _⟩ := h
    rfl
  obtain ⟨S, C, rfl, st, q⟩ := h
  refine ⟨_, (pss_cons (ps_set (i := 2) sc_law_term.nd rfl (Or.inl rfl) (pe_call G_law_draw (hr.mono (by omega)) (by rfl) T.law_draw.m T.law_draw.F.kp T.law_draw.b .nil pass0 (pa_cons (pv 0) (pa_cons pe_int pa_nil))))
      (pss_cons (ps_if (PW.pt (pw_or (pt_cmpR op_lt (pv 2) pe_int (nomark _)) (pw_or1 (pt_cmpR op_eq (pv 1) pe_int (nomark _))))) (pss_cons (ps_if (pt_cmpR op_eq (pe_call G_law_draw (hr.mono (by omega)) (by rfl) T.law_draw.m T.law_draw.F.kp T.law_draw.b .nil pass0 (pa_cons (pv 0) (pa_cons pe_int pa_nil))) pe_int (nomark _)) (pss_one (ps_ret (pe_tup (pa_cons pe_str (pa_cons (pe_ix ix_list (pe_lst (pa_cons pe_str (pa_cons pe_str (pa_cons pe_str pa_nil)))) (pe_call G_law_draw (hr.mono (by omega)) (by rfl) T.law_draw.m T.law_draw.F.kp T.law_draw.b .nil pass0 (pa_cons (pv 0) (pa_cons pe_int pa_nil))) (fun _ _ => rfl)) pa_nil))))) pss_nil)
      (pss_one (ps_ret (pe_tup (pa_cons pe_str (pa_cons (pe_call G_law_name (hr.mono (by omega)) (by rfl) T.law_name.m T.law_name.F.kp T.law_name.b .nil pass0 (pa_cons (pv 0) pa_nil)) pa_nil)))))) pss_nil)
      (pss_cons (ps_if (pt_cmpR op_lt (pv 2) pe_int (nomark _)) (pss_one (ps_ret (pe_tup (pa_cons pe_str (pa_cons (pe_call G_law_draw (hr.mono (by omega)) (by rfl) T.law_draw.m T.law_draw.F.kp T.law_draw.b .nil pass0 (pa_cons (pv 0) (pa_cons (pe_ix ix_list (pe_lst (pa_cons pe_int (pa_cons pe_int pa_nil))) (pe_call G_law_draw (hr.mono (by omega)) (by rfl) T.law_draw.m T.law_draw.F.kp T.law_draw.b .nil pass0 (pa_cons (pv 0) (pa_cons pe_int pa_nil))) (fun _ _ => rfl)) pa_nil))) pa_nil))))) pss_nil)
      (pss_cons (ps_set (i := 3) sc_law_term.nd rfl (Or.inl rfl) (pe_call G_law_term (hr.mono (by omega)) (by rfl) T.law_term.m T.law_term.F.kp T.law_term.b .nil pass0 (pa_cons (pv 0) (pa_cons (pe_op op_sub (pv 1) pe_int) pa_nil))))
      (pss_one (ps_ret (pe_tup (pa_cons pe_str (pa_cons (pe_ix ix_list (pe_lst (pa_cons pe_str (pa_cons pe_str (pa_cons pe_str pa_nil)))) (pe_call G_law_draw (hr.mono (by omega)) (by rfl) T.law_draw.m T.law_draw.F.kp T.law_draw.b .nil pass0 (pa_cons (pv 0) (pa_cons pe_int pa_nil))) (fun _ _ => rfl)) (pa_cons (pv 3) (pa_cons (pe_call G_law_term (hr.mono (by omega)) (by rfl) T.law_term.m T.law_term.F.kp T.law_term.b .nil pass0 (pa_cons (pv 0) (pa_cons (pe_op op_sub (pv 1) pe_int) pa_nil))) pa_nil))))))))))), ?_⟩
  refine ⟨_, rfl, S, C, 8, rfl, st, by decide, by decide, fun H1 j kp1 st1 j0 j8 => ?_⟩
  -- a name or a variable
  have leaf : ∀ (E : Ends), E.rt = Q → tSeq (tIfS (tTest (tOp rEq (tCall spDraw [] E0 (tCons (tVar 0) (tCons (tC (.int 2)) tNil))) (tC (.int 0)))) (tRet (tTup (tCons (tC (.str "var")) (tCons (tOp (rIxL K) (tLst (tCons (tC (.str "X")) (tCons (tC (.str "Y")) (tCons (tC (.str "Long_Name9")) tNil)))) (tCall spDraw [] E0 (tCons (tVar 0) (tCons (tC (.int 3)) tNil)))) tNil)))) tNext)
      (tRet (tTup (tCons (tC (.str "sym")) (tCons (tCall spName [] E0 (tCons (tVar 0) tNil)) tNil)))) E [some (.ref S), some (.int (d : Int)), some (.int j), none] H1 := by
    intro E eE
    subst eE
    refine ⟨_, rfl, S, C, 2, rfl, st1, by decide, by decide, fun H2 j2 kp2 st2 j20 j22 => ⟨rfl, _, rfl, ?_⟩⟩
    have kpA := kp1.trans kp2
    refine ite2 (fun c => ?_) (fun c => ?_)
    · refine ⟨sz3, fun D hD => ⟨_, rfl, S, C, 3, rfl, st2.nw hD, by decide, by decide, fun H3 j3 kp3 st3 j30 j33 => ?_⟩⟩
      obtain ⟨x, ha, hm⟩ := pick (l := vrs) j30 j33
      refine ⟨D, vrs.map V.str, j3, _, rfl, rfl, SqL.of (kp3.oth D _ upd_same (nMsc st2 hD)), ha, sz2, fun t ht => ?_⟩
      have kpB := (kpA.new hD).trans kp3
      exact q _ _ (.var x) (kpB.new ht) (st3.nw ht) (by cases d <;> exact hm) ((RpL.cons (.str _) (.cons (.str _) .nil)).mk kpB ht)
    · refine ⟨_, rfl, S, C, rfl, st2, fun H3 x kp3 st3 hm => ⟨sz2, fun t ht => ?_⟩⟩
      have kpB := kpA.trans kp3
      exact q _ _ (.sym x) (kpB.new ht) (st3.nw ht) (by cases d <;> exact hm) ((RpL.cons (.str _) (.cons (.str _) .nil)).mk kpB ht)
  refine ⟨_, rfl, _, _, rfl, rfl, _, rfl, ?_⟩
  refine ite2 (fun c1 => iteT (leaf _ rfl)) (fun c1 => ?_)
  refine ⟨_, rfl, rfl, _, rfl, ?_⟩
  refine ite2 (fun c2 => leaf _ rfl) (fun c2 => ?_)
  refine ⟨_, rfl, _, _, rfl, rfl, _, rfl, ?_⟩
  refine ite2 (fun c3 => ?_) (fun c3 => ?_)
  · -- a number
    refine ⟨_, rfl, sz2, fun D hD => ⟨_, rfl, S, C, 2, rfl, st1.nw hD, by decide, by decide, fun H2 j2 kp2 st2 j20 j22 => ?_⟩⟩
    obtain ⟨n, ha, n1, n2⟩ := pick2 j20 j22
    refine ⟨D, _, j2, _, rfl, rfl, SqL.of (kp2.oth D _ upd_same (nMsc st1 hD)), ha, S, C, n, rfl, st2, n1, n2, fun H3 j3 kp3 st3 j30 j33 => ⟨sz2, fun t ht => ?_⟩⟩
    have kpB := ((kp1.new hD).trans kp2).trans kp3
    exact q _ _ (.int j3) (kpB.new ht) (st3.nw ht) (by cases d <;> exact ⟨j30, by omega⟩) ((RpL.cons (.str _) (.cons (.int _) .nil)).mk kpB ht)
  · -- an operation
    obtain ⟨e, rfl⟩ : ∃ e, d = e + 1 := by
      cases d with
      | zero => exact (c2 (decide_eq_true rfl)).elim
      | succ e => exact ⟨e, rfl⟩
    have ev : ∀ S : Addr, [V.ref S, V.int (((e + 1 : Nat) : Int) - 1)] = [V.ref S, V.int (e : Int)] := fun S => by rw [show (((e + 1 : Nat) : Int) - 1) = (e : Int) by omega]
    refine ⟨_, rfl, _, rfl, _, _, rfl, rfl, S, C, ev S, st1, fun H2 v2 l kp2 st2 hl D2 => ?_⟩
    refine ⟨sz3, fun D hD => ⟨_, rfl, S, C, 3, rfl, st2.nw hD, by decide, by decide, fun H3 j3 kp3 st3 j30 j33 => ?_⟩⟩
    obtain ⟨g, ha, hm⟩ := pick (l := ops) j30 j33
    refine ⟨D, ops.map V.str, j3, _, rfl, rfl, SqL.of (kp3.oth D _ upd_same (nMsc st2 hD)), ha, ?_⟩
    refine ⟨_, rfl, _, rfl, _, rfl, _, _, rfl, rfl, S, C, ev S, st3, fun H4 v4 r kp4 st4 hr4 D4 => ⟨sz4, fun t ht => ?_⟩⟩
    have kpB := ((kp1.trans kp2).new hD).trans kp3
    have kpC := kpB.trans kp4
    have kp23 : Kp (Msc S C) H2 H3 := (Kp.refl.new hD).trans kp3
    exact q _ _ (.op g l r) (kpC.new ht) (st4.nw ht) ⟨hm, hl, hr4⟩ ((RpL.cons (.str _) (.cons (.str _) (.cons (((D2.dn kp1).up kp23 st.dm).up kp4 st.dm) (.cons (D4.dn kpB) .nil)))).mk kpC ht)
theorem all_law_term : ∀ d : Nat, FnOk P w K mg base CX0 (d + 2) T.law_term.f T.law_term.fd P_law_term (spTm d)
  | 0 => ⟨fun vs H Q E h => h.elim, fun A outer s H args us vs Q E _ _ _ _ h => h.elim⟩
  | d + 1 => ok_law_term T G_law_draw G_law_name (all_law_term d)
/-- a term of depth at most 3 -/
theorem law_term_at {d : Nat} : FnOk P w K mg base CX0 (d + 3) T.law_term.f T.law_term.fd P_law_term (spTm (d + 1)) := all_law_term T G_law_draw G_law_name (d + 1)
theorem ok_law_atom (G_law_term : FnOk P w K mg base CX0 5 T.law_term.f T.law_term.fd P_law_term (spTm 3)) : FnOk P w K mg base CX0 6 T.law_atom.f T.law_atom.fd P_law_atom spAm := by
  refine T.law_atom.F.ok sc_law_atom (fun vs H Q E h => ?_) (fun cdv A outer s H vs Q E hr h => ?_)
  · obtain ⟨S, C, rfl, _⟩ := h
    rfl
  obtain ⟨S, C, rfl, st, q⟩ := h
  refine ⟨_, (pss_one (ps_ret (pe_tup (pa_cons pe_str (pa_cons (pe_call G_law_name (hr.mono (by omega)) (by rfl) T.law_name.m T.law_name.F.kp T.law_name.b .nil pass0 (pa_cons (pv 0) pa_nil)) (pa_cons (pe_lc (own := [("_law_k", 1)]) (g := gName 1) (by rfl) sc_law_atom.nd (pi_range1 (by rfl) T.zrange (pa_cons (pe_call G_law_draw (hr.mono (by omega)) (by rfl) T.law_draw.m T.law_draw.F.kp T.law_draw.b .nil pass0 (pa_cons (pv 0) (pa_cons pe_int pa_nil))) pa_nil)) (blkOk_by (own := [("_law_k", 1)]) (N := N_law_atom) (sc := defScope s_law_atom) (by decide +kernel)) (fun _ _ _ _ _ => pg_name (i := 1) sc_law_atom.nd rfl (Or.inl rfl)) (fun _ _ _ _ _ => pts_nil) (fun _ _ _ _ _ => (pe_call G_law_term (hr.mono (by omega)) (by rfl) T.law_term.m T.law_term.F.kp T.law_term.b .nil pass0 (pa_cons (pv 0) (pa_cons pe_int pa_nil))))) pa_nil)))))), ?_⟩
  refine ⟨_, rfl, S, C, rfl, st, fun H1 x kp1 st1 hx => ?_⟩
  refine ⟨_, rfl, S, C, 3, rfl, st1, by decide, by decide, fun H2 j kp2 st2 j0 j3 => ⟨j, rfl, by omega, by omega, fun D hD => ?_⟩⟩
  have kpA := kp1.trans kp2
  refine lc_gen (enc := Tm.enc) (ok := Tm.ok 2) (n := j.toNat) (by omega) st2 hD (fun x Hc Q' stc k => ⟨_, rfl, S, C, rfl, stc, fun H' y z kp' st' hz hy => k H' y z kp' st' hz hy⟩) fun H3 vs zs kp3 st3 hD3 hl hok hR => ?_
  refine ⟨sz3, fun t ht => ?_⟩
  have kpB := kpA.trans kp3
  have hRD : Rp (dom H) H3 (.ref D) (.list (zs.map Tm.enc)) := ((hR.weak fun b e => .inl (kpA.dm b e))).lst' hD3 fun z => z (kpA.free hD)
  exact q _ _ ⟨x, zs⟩ (kpB.new ht) (st3.nw ht) ⟨hx, (show zs.length ≤ 2 by omega), hok⟩ ((RpL.cons (.str _) (.cons (.str _) (.cons hRD .nil))).mk kpB ht)
theorem ok_law_condition (G_law_term : FnOk P w K mg base CX0 5 T.law_term.f T.law_term.fd P_law_term (spTm 3)) (G_law_atom : FnOk P w K mg base CX0 6 T.law_atom.f T.law_atom.fd P_law_atom spAm) : FnOk P w K mg base CX0 7 T.law_condition.f T.law_condition.fd P_law_condition spCd := by
  refine T.law_condition.F.ok sc_law_condition (fun vs H Q E h => ?_) (fun cdv A outer s H vs Q E hr h => ?_)
  · obtain ⟨S, C, rfl, _⟩ := h
    rfl
  obtain ⟨S, C, rfl, st, q⟩ := h
  refine ⟨_, (pss_cons (ps_set (i := 1) sc_law_condition.nd rfl (Or.inl rfl) (pe_call G_law_draw (hr.mono (by omega)) (by rfl) T.law_draw.m T.law_draw.F.kp T.law_draw.b .nil pass0 (pa_cons (pv 0) (pa_cons pe_int pa_nil))))
      (pss_cons (ps_if (pt_cmpR op_lt (pv 1) pe_int (nomark _)) (pss_one (ps_ret (pe_tup (pa_cons (pe_ix ix_list (pe_lst (pa_cons pe_str (pa_cons pe_str pa_nil))) (pv 1) (fun _ _ => rfl)) (pa_cons (pe_call G_law_atom (hr.mono (by omega)) (by rfl) T.law_atom.m T.law_atom.F.kp T.law_atom.b .nil pass0 (pa_cons (pv 0) pa_nil)) pa_nil))))) pss_nil)
      (pss_cons (ps_set (i := 2) sc_law_condition.nd rfl (Or.inl rfl) (pe_ix ix_list (pe_lst (pa_cons pe_str (pa_cons pe_str (pa_cons pe_str (pa_cons pe_str (pa_cons pe_str (pa_cons pe_str pa_nil))))))) (pe_call G_law_draw (hr.mono (by omega)) (by rfl) T.law_draw.m T.law_draw.F.kp T.law_draw.b .nil pass0 (pa_cons (pv 0) (pa_cons pe_int pa_nil))) (fun _ _ => rfl)))
      (pss_cons (ps_set (i := 3) sc_law_condition.nd rfl (Or.inl rfl) (pe_call G_law_term (hr.mono (by omega)) (by rfl) T.law_term.m T.law_term.F.kp T.law_term.b .nil pass0 (pa_cons (pv 0) (pa_cons pe_int pa_nil))))
      (pss_one (ps_ret (pe_tup (pa_cons pe_str (pa_cons (pv 2) (pa_cons (pv 3) (pa_cons (pe_call G_law_term (hr.mono (by omega)) (by rfl) T.law_term.m T.law_term.F.kp T.law_term.b .nil pass0 (pa_cons (pv 0) (pa_cons pe_int pa_nil))) pa_nil))))))))))), ?_⟩
  refine ⟨_, rfl, S, C, 4, rfl, st, by decide, by decide, fun H1 j kp1 st1 j0 j4 => ?_⟩
  refine ⟨_, rfl, _, _, rfl, rfl, _, rfl, ?_⟩
  refine ite2 (fun c1 => ?_) (fun c1 => ?_)
  · have j2 : j < 2 := of_decide_eq_true c1
    refine ⟨sz2, fun D hD => ?_⟩
    have kpA := kp1.new hD (o := .lst [.str "yes", .str "no"])
    have st2 := st1.nw hD (o := .lst [.str "yes", .str "no"])
    have e : j = ((0 : Nat) : Int) ∨ j = ((1 : Nat) : Int) := by omega
    rcases e with rfl | rfl
    · refine ⟨_, rfl, D, _, _, _, rfl, rfl, SqL.of upd_same, atI_nat rfl, _, rfl, S, C, rfl, st2, fun H3 v a kp3 st3 ha hv => ⟨sz2, fun t ht => ?_⟩⟩
      have kpB := kpA.trans kp3
      exact q _ _ (.yes a) (kpB.new ht) (st3.nw ht) ha ((RpL.cons (.str _) (.cons (hv.dn kpA) .nil)).mk kpB ht)
    · refine ⟨_, rfl, D, _, _, _, rfl, rfl, SqL.of upd_same, atI_nat rfl, _, rfl, S, C, rfl, st2, fun H3 v a kp3 st3 ha hv => ⟨sz2, fun t ht => ?_⟩⟩
      have kpB := kpA.trans kp3
      exact q _ _ (.no a) (kpB.new ht) (st3.nw ht) ha ((RpL.cons (.str _) (.cons (hv.dn kpA) .nil)).mk kpB ht)
  · refine ⟨(show 6 ≤ sizeLine by decide), fun D hD => ⟨_, rfl, S, C, 6, rfl, st1.nw hD, by decide, by decide, fun H2 j2 kp2 st2 j20 j26 => ?_⟩⟩
    obtain ⟨g, ha, hm⟩ := pick (l := cms) j20 j26
    refine ⟨D, cms.map V.str, j2, _, rfl, rfl, SqL.of (kp2.oth D _ upd_same (nMsc st1 hD)), ha, ?_⟩
    have kpA := (kp1.new hD).trans kp2
    refine ⟨_, rfl, S, C, rfl, st2, fun H3 v3 l kp3 st3 hl D3 => ?_⟩
    refine ⟨_, rfl, _, rfl, _, rfl, S, C, rfl, st3, fun H4 v4 r kp4 st4 hr4 D4 => ⟨sz4, fun t ht => ?_⟩⟩
    have kpB := kpA.trans kp3
    have kpC := kpB.trans kp4
    exact q _ _ (.cmp g l r) (kpC.new ht) (st4.nw ht) ⟨hm, hl, hr4⟩ ((RpL.cons (.str _) (.cons (.str _) (.cons ((D3.dn kpA).up kp4 st.dm) (.cons (D4.dn kpB) .nil)))).mk kpC ht)
theorem ok_law_conditions (G_law_condition : FnOk P w K mg base CX0 7 T.law_condition.f T.law_condition.fd P_law_condition spCd) : FnOk P w K mg base CX0 8 T.law_conditions.f T.law_conditions.fd P_law_conditions spCds := by
  refine T.law_conditions.F.ok sc_law_conditions (fun vs H Q E h => ?_) (fun cdv A outer s H vs Q E hr h => ?_)
  · obtain ⟨S, C, n, rfl, _⟩ := h
    rfl
  obtain ⟨S, C, n, rfl, st, n1, n2, q⟩ := h
  refine ⟨_, (pss_one (ps_ret (pe_lc (own := [("_law_k", 2)]) (g := gName 2) (by rfl) sc_law_conditions.nd (pi_range1 (by rfl) T.zrange (pa_cons (pe_call G_law_draw (hr.mono (by omega)) (by rfl) T.law_draw.m T.law_draw.F.kp T.law_draw.b .nil pass0 (pa_cons (pv 0) (pa_cons (pv 1) pa_nil))) pa_nil)) (blkOk_by (own := [("_law_k", 2)]) (N := N_law_conditions) (sc := defScope s_law_conditions) (by decide +kernel)) (fun _ _ _ _ _ => pg_name (i := 2) sc_law_conditions.nd rfl (Or.inl rfl)) (fun _ _ _ _ _ => pts_nil) (fun _ _ _ _ _ => (pe_call G_law_condition (hr.mono (by omega)) (by rfl) T.law_condition.m T.law_condition.F.kp T.law_condition.b .nil pass0 (pa_cons (pv 0) pa_nil)))))), ?_⟩
  refine ⟨_, rfl, _, rfl, S, C, (n : Int), rfl, st, by omega, by omega, fun H1 j kp1 st1 j0 jn => ⟨j, rfl, by omega, by omega, fun D hD => ?_⟩⟩
  refine lc_gen (enc := Cd.enc) (ok := Cd.ok) (n := j.toNat) (by omega) st1 hD (fun x Hc Q' stc k => ⟨_, rfl, S, C, rfl, stc, fun H' y z kp' st' hz hy => k H' y z kp' st' hz hy⟩) fun H3 vs zs kp3 st3 hD3 hl hok hR => ?_
  exact q H3 D vs zs (kp1.trans kp3) st3 (kp1.free hD) hD3 (hR.weak fun b e => e.elim (fun y => .inl (kp1.dm b y)) .inr) (by omega) hok
end
end Kt
/-! K20: what the law draws: members, bodies, statements -/
namespace Kt
open PySem L2
section
variable {B : Addr → Prop} {H : Hp} {xs ys : List V} {ds es : List PyData}
theorem RpL.append (h : RpL B H xs ds) (g : RpL B H ys es) : RpL B H (xs ++ ys) (ds ++ es) := ⟨by rw [List.length_append, List.length_append, h.1, g.1], fun i x d e1 e2 => by
  by_cases hi : i < xs.length
  · rw [List.getElem?_append_left hi] at e1
    rw [List.getElem?_append_left (by rw [← h.1]; exact hi)] at e2
    exact h.2 i x d e1 e2
  · rw [List.getElem?_append_right (by omega)] at e1
    rw [List.getElem?_append_right (by rw [← h.1]; omega), ← h.1] at e2
    exact g.2 _ x d e1 e2⟩
theorem RpL.take (h : RpL B H xs ds) (n : Nat) : RpL B H (xs.take n) (ds.take n) := ⟨by rw [List.length_take, List.length_take, h.1], fun i x d e1 e2 => by
  rw [List.getElem?_take] at e1 e2
  split at e1
  · rename_i hi
    rw [if_pos hi] at e2
    exact h.2 i x d e1 e2
  · cases e1⟩
theorem RpL.drop (h : RpL B H xs ds) (n : Nat) : RpL B H (xs.drop n) (ds.drop n) := ⟨by rw [List.length_drop, List.length_drop, h.1], fun i x d e1 e2 => by
  rw [List.getElem?_drop] at e1 e2
  exact h.2 _ x d e1 e2⟩
end
def spMm : Sp := fun vs H Q _ => ∃ (S C : Addr), vs = [.ref S] ∧ StAt H S C ∧ ∀ H' v ms, Kp (Msc S C) H H' → StAt H' S C → msOk ms → Rp (dom H) H' v (.list (ms.map Mb.enc)) → Q v H'
def spBd : Sp := fun vs H Q _ => ∃ (S C : Addr), vs = [.ref S] ∧ StAt H S C ∧
  ∀ (H' : Hp) (D : Addr) (xs : List V) (b : List Pt), Kp (Msc S C) H H' → StAt H' S C → H D = none → H' D = some (.lst xs) → RpL (dom H) H' xs (b.map Pt.enc) → bOk 3 b → Q (.ref D) H'
/-- a denial opens with a condition -/
def Sm.fst : Sm → Prop
  | .deny b => ∃ c r, b = .cd c :: r
  | _ => True
def spSm : Sp := fun vs H Q _ => ∃ (S C : Addr), vs = [.ref S] ∧ StAt H S C ∧ ∀ H' v s, Kp (Msc S C) H H' → StAt H' S C → (Sm.ok s ∧ Sm.fst s) → Rp (dom H) H' v s.enc → Q v H'
theorem pickO {j n : Int} (h0 : 0 ≤ j) (h1 : j < 2) (hn : i4 n) : ∃ o : Option Int, atI [V.non, V.int n] j = some (oV o) ∧ oOk o := by
  have e : j = ((0 : Nat) : Int) ∨ j = ((1 : Nat) : Int) := by omega
  rcases e with rfl | rfl
  · exact ⟨none, atI_nat rfl, trivial⟩
  · exact ⟨some n, atI_nat rfl, hn⟩
theorem oV_of {B : Addr → Prop} {H : Hp} {v : V} {o : Option Int} (h : Rp B H v (oI o)) : v = oV o := by
  cases o with
  | none => exact h.of_non
  | some n => exact h.of_int
section
variable {P : Program} {w : World} {K : PySem.W.Frag} {mg : Str → Option Value} {base : Heap} (T : Txt K mg)
variable (G_law_draw : FnOk P w K mg base CX0 1 T.law_draw.f T.law_draw.fd P_law_draw spDraw)
include T G_law_draw
theorem ok_law_members (G_law_term : FnOk P w K mg base CX0 4 T.law_term.f T.law_term.fd P_law_term (spTm 2)) (G_law_conditions : FnOk P w K mg base CX0 8 T.law_conditions.f T.law_conditions.fd P_law_conditions spCds) : FnOk P w K mg base CX0 9 T.law_members.f T.law_members.fd P_law_members spMm := by
  refine T.law_members.F.ok sc_law_members (fun vs H Q E h => ?_) (fun cdv A outer s H vs Q E hr h => ?_)
  · obtain ⟨S, C, rfl, _⟩ := h
    rfl
  obtain ⟨S, C, rfl, st, q⟩ := h
  refine ⟨_, (pss_one (ps_ret (pe_lc (own := [("_law_k", 1)]) (g := gName 1) (by rfl) sc_law_members.nd (pi_range1 (by rfl) T.zrange (pa_cons (pe_op op_add pe_int (pe_call G_law_draw (hr.mono (by omega)) (by rfl) T.law_draw.m T.law_draw.F.kp T.law_draw.b .nil pass0 (pa_cons (pv 0) (pa_cons pe_int pa_nil)))) pa_nil)) (blkOk_by (own := [("_law_k", 1)]) (N := N_law_members) (sc := defScope s_law_members) (by decide +kernel)) (fun _ _ _ _ _ => pg_name (i := 1) sc_law_members.nd rfl (Or.inl rfl)) (fun _ _ _ _ _ => pts_nil) (fun _ _ _ _ _ => (pe_tup (pa_cons pe_str (pa_cons (pe_call G_law_term (hr.mono (by omega)) (by rfl) T.law_term.m T.law_term.F.kp T.law_term.b .nil pass0 (pa_cons (pv 0) (pa_cons pe_int pa_nil))) (pa_cons (pe_call G_law_conditions (hr.mono (by omega)) (by rfl) T.law_conditions.m T.law_conditions.F.kp T.law_conditions.b .nil pass0 (pa_cons (pv 0) (pa_cons pe_int pa_nil))) pa_nil)))))))), ?_⟩
  refine ⟨_, rfl, S, C, 2, rfl, st, by decide, by decide, fun H1 j kp1 st1 j0 j2 => ⟨_, _, rfl, rfl, 1 + j, rfl, by omega, by omega, fun D hD => ?_⟩⟩
  refine lc_gen (enc := Mb.enc) (ok := Mb.ok) (n := (1 + j).toNat) (by omega) st1 hD (fun x Hc Q' stc k => ?_) fun H3 vs zs kp3 st3 hD3 hl hok hR => ?_
  · refine ⟨_, rfl, S, C, rfl, stc, fun H2 v2 t kp2 st2 ht D2 => ?_⟩
    refine ⟨_, rfl, S, C, 2, rfl, st2, by decide, by decide, fun H3 D3 xs cs kp3 st3 hD3 hL3 hR3 hl3 hc3 => ⟨sz3, fun u hu => ?_⟩⟩
    have kpB := kp2.trans kp3
    have hRD : Rp (dom Hc) H3 (.ref D3) (.list (cs.map Cd.enc)) := (hR3.weak fun b e => .inl (kp2.dm b e)).lst' hL3 fun z => z (kp2.free hD3)
    exact k _ _ ⟨t, cs⟩ (kpB.new hu) (st3.nw hu) ⟨ht, (show cs.length ≤ 1 by omega), hc3⟩ ((RpL.cons (.str _) (.cons (D2.up kp3 stc.dm) (.cons hRD .nil))).mk kpB hu)
  · exact q H3 _ zs (kp1.trans kp3) st3 ⟨by omega, by omega, hok⟩ ((hR.weak fun b e => .inl (kp1.dm b e)).lst' hD3 fun z => z (kp1.free hD))
theorem ok_law_body (G_law_term : FnOk P w K mg base CX0 4 T.law_term.f T.law_term.fd P_law_term (spTm 2)) (G_law_conditions : FnOk P w K mg base CX0 8 T.law_conditions.f T.law_conditions.fd P_law_conditions spCds) (G_law_members : FnOk P w K mg base CX0 9 T.law_members.f T.law_members.fd P_law_members spMm) :
    FnOk P w K mg base CX0 10 T.law_body.f T.law_body.fd P_law_body spBd := by
  refine T.law_body.F.ok sc_law_body (fun vs H Q E h => ?_) (fun cdv A outer s H vs Q E hr h => ?_)
  · obtain ⟨S, C, rfl, _⟩ := h
    rfl
  obtain ⟨S, C, rfl, st, q⟩ := h
  refine ⟨_, (pss_cons (ps_set (i := 1) sc_law_body.nd rfl (Or.inl rfl) (pe_call G_law_conditions (hr.mono (by omega)) (by rfl) T.law_conditions.m T.law_conditions.F.kp T.law_conditions.b .nil pass0 (pa_cons (pv 0) (pa_cons pe_int pa_nil))))
      (pss_cons (ps_if (pt_cmpR op_eq (pe_call G_law_draw (hr.mono (by omega)) (by rfl) T.law_draw.m T.law_draw.F.kp T.law_draw.b .nil pass0 (pa_cons (pv 0) (pa_cons pe_int pa_nil))) pe_int (nomark _)) (pss_cons (ps_set (i := 2) sc_law_body.nd rfl (Or.inl rfl) (pe_tup (pa_cons pe_str (pa_cons (pe_ix ix_list (pe_lst (pa_cons pe_str (pa_cons pe_str pa_nil))) (pe_call G_law_draw (hr.mono (by omega)) (by rfl) T.law_draw.m T.law_draw.F.kp T.law_draw.b .nil pass0 (pa_cons (pv 0) (pa_cons pe_int pa_nil))) (fun _ _ => rfl)) (pa_cons (pe_call G_law_members (hr.mono (by omega)) (by rfl) T.law_members.m T.law_members.F.kp T.law_members.b .nil pass0 (pa_cons (pv 0) pa_nil)) (pa_cons (pe_call G_law_term (hr.mono (by omega)) (by rfl) T.law_term.m T.law_term.F.kp T.law_term.b .nil pass0 (pa_cons (pv 0) (pa_cons pe_int pa_nil))) pa_nil))))))
      (pss_one (ps_expr (pe_bm PySem.F.plainAttrs_list PySem.F.slot_list_insert PySem.F.type_list_insert mt_insert (pv 1) (pa_cons (pe_call G_law_draw (hr.mono (by omega)) (by rfl) T.law_draw.m T.law_draw.F.kp T.law_draw.b .nil pass0 (pa_cons (pv 0) (pa_cons (pe_op op_add (pe_callB call_len_seq (by rfl) T.zlen PySem.boot_len (pa_cons (pv 1) pa_nil)) pe_int) pa_nil))) (pa_cons (pv 2) pa_nil)))))) pss_nil)
      (pss_one (ps_ret (pv 1))))), ?_⟩
  refine ⟨_, rfl, S, C, 3, rfl, st, by decide, by decide, fun H1 D xs cs kp1 st1 hD hL1 hR1 hl hc => ?_⟩
  have nM := nMsc st hD
  have mD : ∀ b, Msc S C b → domD H D b := fun b e => .inl (st.dm b e)
  have ecs : (cs.map Pt.cd).map Pt.enc = cs.map Cd.enc := by rw [List.map_map]; rfl
  refine ⟨_, rfl, S, C, 4, rfl, st1, by decide, by decide, fun H2 j kp2 st2 j0 j4 => ⟨rfl, _, rfl, ?_⟩⟩
  have kpA := kp1.trans kp2
  have hL2 := kp2.oth D _ hL1 nM
  have hR2 := hR1.kp kp2 mD
  refine ite2 (fun c => ?_) (fun c => ?_)
  · -- a sum
    refine ⟨sz2, fun N hN => ⟨_, rfl, S, C, 2, rfl, st2.nw hN, by decide, by decide, fun H3 j2 kp3 st3 j20 j22 => ?_⟩⟩
    obtain ⟨g, ha, hm⟩ := pick (l := [">=", "<="]) j20 j22
    refine ⟨N, _, j2, _, rfl, rfl, SqL.of (kp3.oth N _ upd_same (nMsc st2 hN)), ha, ?_⟩
    have kp23 : Kp (Msc S C) H2 H3 := (Kp.refl.new hN).trans kp3
    refine ⟨_, rfl, S, C, rfl, st3, fun H4 v4 ms kp4 st4 hms D4 => ?_⟩
    refine ⟨_, rfl, S, C, rfl, st4, fun H5 v5 t kp5 st5 ht D5 => ⟨sz4, fun u hu => ?_⟩⟩
    have kp2u : Kp (Msc S C) H2 (upd H5 u (.tup [.str "sum", .str g, v4, v5])) := ((kp23.trans kp4).trans kp5).new hu
    have hL6 := kp2u.oth D _ hL2 nM
    have hR6 := hR2.kp kp2u mD
    have st6 := st5.nw hu (o := .tup [.str "sum", .str g, v4, v5])
    -- the part: none of its objects is D
    have hP0 : Rp (dom H2) (upd H5 u (.tup [.str "sum", .str g, v4, v5])) (.ref u) (Pt.sum g ms t).enc :=
      (RpL.cons (.str _) (.cons (.str _) (.cons ((D4.dn kp23).up kp5 st2.dm) (.cons (D5.dn (kp23.trans kp4)) .nil)))).mk ((kp23.trans kp4).trans kp5) hu
    have hP : Rp (domD H D) (upd H5 u (.tup [.str "sum", .str g, v4, v5])) (.ref u) (Pt.sum g ms t).enc := hP0.weak fun b e => by
      rcases e with e | e
      · exact kpA.dm b e
      · rw [e]; exact some_ne hL2
    generalize (upd H5 u (.tup [.str "sum", .str g, v4, v5])) = H6 at kp2u hL6 hR6 st6 hP
    have hlx : xs.length = cs.length := by rw [hR1.1, List.length_map]
    refine ⟨_, rfl, .inl ⟨rfl, _, .inl (.inl hL6)⟩, _, rfl, _, rfl, D, xs, rfl, .inl (SqL.of hL6), _, _, rfl, rfl, S, C, _, rfl, st6, by omega, by omega, fun H7 j7 kp7 st7 j70 j71 => ?_⟩
    have hL7 := kp7.oth D _ hL6 nM
    refine ⟨_, rfl, D, xs, j7, _, rfl, rfl, hL7, small1000 (by omega), j70, by omega, ?_⟩
    have kpZ : Kp (Msc S C) H (upd H7 D (.lst (xs.take j7.toNat ++ [.ref u] ++ xs.drop j7.toNat))) := ((kpA.trans kp2u).trans kp7).loc hD
    have hR7 := (hR6.kp kp7 mD).upd (p := D) (o := .lst (xs.take j7.toNat ++ [.ref u] ++ xs.drop j7.toNat)) (.inl (.inr rfl))
    have hP7 := (hP.kp kp7 mD).upd (p := D) (o := .lst (xs.take j7.toNat ++ [.ref u] ++ xs.drop j7.toNat)) (.inl (.inr rfl))
    refine ⟨_, rfl, q _ D _ ((cs.map Pt.cd).take j7.toNat ++ [.sum g ms t] ++ (cs.map Pt.cd).drop j7.toNat) kpZ (st7.upd (fun e => nM (.inl e)) (fun e => nM (.inr e))) hD upd_same ?_ ?_⟩
    · rw [List.map_append, List.map_append, List.map_take, List.map_drop, ecs]
      exact ((((hR7.take _).append (RpL.cons hP7 .nil)).append (hR7.drop _))).weak fun b e => .inl e
    · refine ⟨?_, fun p hp => ?_⟩
      · rw [List.length_append, List.length_append, List.length_take, List.length_drop, List.length_map, List.length_singleton]
        omega
      · rcases List.mem_append.mp hp with hp | hp
        · rcases List.mem_append.mp hp with hp | hp
          · obtain ⟨c, hcm, e⟩ := List.mem_map.mp (List.mem_of_mem_take hp)
            rw [← e]
            exact hc c hcm
          · have e : p = .sum g ms t := by simpa using hp
            rw [e]
            refine ⟨?_, hms, ht⟩
            simpa using hm
        · obtain ⟨c, hcm, e⟩ := List.mem_map.mp (List.mem_of_mem_drop hp)
          rw [← e]
          exact hc c hcm
  · refine ⟨_, rfl, q H2 D xs (cs.map Pt.cd) kpA st2 hD hL2 ?_ ?_⟩
    · rw [ecs]
      exact hR2.weak fun b e => .inl e
    · refine ⟨by rw [List.length_map]; omega, fun p hp => ?_⟩
      obtain ⟨c, hcm, e⟩ := List.mem_map.mp hp
      rw [← e]
      exact hc c hcm
end
end Kt
/-! K21: what the law draws: statements; how it counts words -/
namespace Kt
open PySem L2
/-- counting words: a word's sign opens one where none is open -/
def wst (s : Nat × Bool) (c : Nat) : Nat × Bool := (if decide (c ∈ cd wcS) && !s.2 then s.1 + 1 else s.1, decide (c ∈ cd wcS))
def wcnt (l : List Nat) : Nat := (l.foldl wst (0, false)).1
def spSize : Sp := fun vs H Q _ => ∃ (z : Str), vs = [.str z] ∧ (∀ c ∈ cd z, c < 128) ∧ Q (.int ((wcnt (cd z) : Nat) : Int)) H
theorem alnum_wc : ∀ c, c < 128 → (Txt.isalnum ⟨#[c]⟩ || decide (c = 95)) = decide (c ∈ cd wcS) := by decide +kernel
theorem str1_us (c : Nat) : decide (V.str ⟨#[c]⟩ = V.str "_") = decide (c = 95) := by
  rw [dec_v]
  have e : ("_" : Str) = ⟨#[95]⟩ := by decide +kernel
  rw [e]
  by_cases h : c = 95
  · subst h; rfl
  · rw [decide_eq_false h, decide_eq_false fun z => h ?_]
    have z2 := congrArg cd z
    have z3 : [c] = [95] := z2
    exact List.head_eq_of_cons_eq z3
theorem szM15 {n : Nat} (h : n ≤ 1000000) : n ≤ sizeLine := szM h
section
variable {P : Program} {w : World} {K : PySem.W.Frag} {mg : Str → Option Value} {base : Heap} (T : Txt K mg)
include T
theorem ok_law_size : FnOk P w K mg base CX0 1 T.law_size.f T.law_size.fd P_law_size spSize := by
  refine T.law_size.F.ok sc_law_size (fun vs H Q E h => ?_) (fun cdv A outer s H vs Q E hr h => ?_)
  · obtain ⟨z, rfl, _⟩ := h
    rfl
  obtain ⟨z, rfl, hz, q⟩ := h
  refine ⟨_, (pss_cons (ps_set (i := 1) sc_law_size.nd rfl (Or.inl rfl) pe_int)
      (pss_cons (ps_set (i := 2) sc_law_size.nd rfl (Or.inl rfl) pe_bl)
      (pss_cons (ps_for PassesOwn.never rfl (pi_str (pv 0)) (pg_name (i := 3) sc_law_size.nd rfl (Or.inl rfl)) (pss_cons (ps_set (i := 4) sc_law_size.nd rfl (Or.inl rfl) (pe_or (pe_m0 PySem.F.slot_str_isalnum PySem.F.type_str_isalnum mt_isalnum (pv 3)) (pe_one (pe_cmpR op_eq (pv 3) pe_str (nomark _)))))
      (pss_cons (ps_if (PW.pt (pw_and (pt_val (pv 4)) (pw_and1 (pt_not (pt_val (pv 2)))))) (pss_one (ps_set (i := 1) sc_law_size.nd rfl (Or.inl rfl) (pe_op op_add (pv 1) pe_int))) pss_nil)
      (pss_one (ps_set (i := 2) sc_law_size.nd rfl (Or.inl rfl) (pv 4))))))
      (pss_one (ps_ret (pv 1)))))), ?_⟩
  have hzs : z.cps.size = (cd z).length := by simp [cd]
  refine ⟨_, rfl, z, rfl, fun i m σ H2 => H2 = H ∧ i + m = (cd z).length ∧ ∃ (u3 u4 : Option V), σ = [some (.str z), some (.int ((((cd z).take i).foldl wst (0, false)).1 : Nat)), some (.bl (((cd z).take i).foldl wst (0, false)).2), u3, u4], ⟨(cd z).length, rfl, by omega, none, none, rfl⟩, ?_⟩
  rintro i m σ H2 ⟨rfl, him, u3, u4, rfl⟩
  by_cases hi : i < (cd z).length
  · refine .inr ⟨(show i < z.cps.size by omega), _, fun σ' H' y => y, ?_⟩
    rintro x H3 ⟨rfl, c, hc, rfl⟩
    have hci : (cd z)[i]? = some c := by
      show z.cps.toList[i]? = some c
      rw [Array.getElem?_toList]
      exact hc
    have hc128 : c < 128 := hz c (List.mem_of_getElem? hci)
    have hal := alnum_wc c hc128
    have hnext : ((cd z).take (i + 1)).foldl wst (0, false) = wst (((cd z).take i).foldl wst (0, false)) c := by
      rw [List.take_add_one, hci, List.foldl_append]
      rfl
    generalize hst : ((cd z).take i).foldl wst (0, false) = s0 at hnext
    obtain ⟨n, ins⟩ := s0
    have rest : ∀ (E : Ends) (b : Bool), b = decide (c ∈ cd wcS) → E.nx = (fun σ' H' => ∃ m', m' < m ∧ H' = H3 ∧ i + 1 + m' = (cd z).length ∧ ∃ (u3 u4 : Option V), σ' = [some (.str z), some (.int ((((cd z).take (i + 1)).foldl wst (0, false)).1 : Nat)), some (.bl (((cd z).take (i + 1)).foldl wst (0, false)).2), u3, u4]) →
        tSeq (tIfS (tAnd (tB (tVar 4)) (tNot (tB (tVar 2)))) (tAsg (tOp (rI0 fun i j => .int (i + j)) (tVar 1) (tC (.int 1))) (gName 1)) tNext) (tAsg (tVar 4) (gName 2)) E [some (.str z), some (.int (n : Int)), some (.bl ins), some (.str ⟨#[c]⟩), some (.bl b)] H3 := by
      intro E b hb eE
      have fin : ∀ k : Nat, k = (if decide (c ∈ cd wcS) && !ins then n + 1 else n) → E.nx [some (.str z), some (.int (k : Int)), some (.bl b), some (.str ⟨#[c]⟩), some (.bl b)] H3 := fun k hk => by
        rw [eE]
        refine ⟨m - 1, by omega, rfl, by omega, some (.str ⟨#[c]⟩), some (.bl b), ?_⟩
        rw [hnext]
        unfold wst
        rw [hk, hb]
      refine ⟨_, rfl, b, rfl, ?_⟩
      cases b with
      | true =>
        refine iteT ⟨_, rfl, ins, rfl, ?_⟩
        cases ins with
        | true =>
          refine iteF ⟨_, rfl, fin n ?_⟩
          rw [← hb]; rfl
        | false =>
          refine iteT ⟨_, rfl, _, _, rfl, rfl, _, rfl, fin (n + 1) ?_⟩
          rw [← hb]; rfl
      | false =>
        refine iteF (iteF ⟨_, rfl, fin n ?_⟩)
        rw [← hb]; rfl
    refine ⟨_, rfl, ⟨_, rfl⟩, _, rfl, rfl, trivial, _, rfl, ?_⟩
    cases hA : Txt.isalnum ⟨#[c]⟩ with
    | true =>
      rw [hA, Bool.true_or] at hal
      exact iteT (rest _ _ hal rfl)
    | false =>
      rw [hA, Bool.false_or] at hal
      refine iteF ⟨_, rfl, rfl, ?_⟩
      rw [str1_us]
      exact rest _ _ hal rfl
  · refine .inl ⟨(show z.cps.size ≤ i by omega), ?_⟩
    have e : (cd z).take i = cd z := List.take_of_length_le (by omega)
    rw [e]
    exact ⟨_, rfl, q⟩
variable (G_law_draw : FnOk P w K mg base CX0 1 T.law_draw.f T.law_draw.fd P_law_draw spDraw)
include G_law_draw
theorem ok_law_statement (G_law_atom : FnOk P w K mg base CX0 6 T.law_atom.f T.law_atom.fd P_law_atom spAm) (G_law_condition : FnOk P w K mg base CX0 7 T.law_condition.f T.law_condition.fd P_law_condition spCd) (G_law_conditions : FnOk P w K mg base CX0 8 T.law_conditions.f T.law_conditions.fd P_law_conditions spCds)
    (G_law_members : FnOk P w K mg base CX0 9 T.law_members.f T.law_members.fd P_law_members spMm) (G_law_body : FnOk P w K mg base CX0 10 T.law_body.f T.law_body.fd P_law_body spBd) : FnOk P w K mg base CX0 11 T.law_statement.f T.law_statement.fd P_law_statement spSm := by
  refine T.law_statement.F.ok sc_law_statement (fun vs H Q E h => ?_) (fun cdv A outer s H vs Q E hr h => ?_)
  · obtain ⟨S, C, rfl, _⟩ := h
    rfl
  obtain ⟨S, C, rfl, st, q⟩ := h
  refine ⟨_, (pss_cons (ps_set (i := 1) sc_law_statement.nd rfl (Or.inl rfl) (pe_call G_law_draw (hr.mono (by omega)) (by rfl) T.law_draw.m T.law_draw.F.kp T.law_draw.b .nil pass0 (pa_cons (pv 0) (pa_cons pe_int pa_nil))))
      (pss_cons (ps_if (pt_cmpR op_lt (pv 1) pe_int (nomark _)) (pss_one (ps_ret (pe_tup (pa_cons pe_str (pa_cons (pe_call G_law_atom (hr.mono (by omega)) (by rfl) T.law_atom.m T.law_atom.F.kp T.law_atom.b .nil pass0 (pa_cons (pv 0) pa_nil)) (pa_cons (pe_call G_law_body (hr.mono (by omega)) (by rfl) T.law_body.m T.law_body.F.kp T.law_body.b .nil pass0 (pa_cons (pv 0) pa_nil)) pa_nil)))))) pss_nil)
      (pss_cons (ps_if (pt_cmpR op_lt (pv 1) pe_int (nomark _)) (pss_cons (ps_setLc (i := 2) (own := [("_law_k", 4)]) (g := gName 4) (by rfl) sc_law_statement.nd rfl rfl (sw_true rfl rfl rfl (by decide +kernel)) (pi_range1 (by rfl) T.zrange (pa_cons (pe_op op_add pe_int (pe_call G_law_draw (hr.mono (by omega)) (by rfl) T.law_draw.m T.law_draw.F.kp T.law_draw.b .nil pass0 (pa_cons (pv 0) (pa_cons pe_int pa_nil)))) pa_nil)) (blkOk_by (own := [("_law_k", 4)]) (N := N_law_statement) (sc := defScope s_law_statement) (by decide +kernel)) (fun _ _ _ _ _ => pg_name (i := 4) sc_law_statement.nd rfl (Or.inl rfl)) (fun _ _ _ _ _ => pts_nil) (fun _ _ _ _ _ => (pe_tup (pa_cons pe_str (pa_cons (pe_call G_law_atom (hr.mono (by omega)) (by rfl) T.law_atom.m T.law_atom.F.kp T.law_atom.b .nil pass0 (pa_cons (pv 0) pa_nil)) (pa_cons (pe_call G_law_conditions (hr.mono (by omega)) (by rfl) T.law_conditions.m T.law_conditions.F.kp T.law_conditions.b .nil pass0 (pa_cons (pv 0) (pa_cons pe_int pa_nil))) pa_nil))))))
      (pss_cons (ps_setLc (i := 3) (own := [("_law_k", 4)]) (g := gName 4) (by rfl) sc_law_statement.nd rfl rfl (sw_true rfl rfl rfl (by decide +kernel)) (pi_range1 (by rfl) T.zrange (pa_cons pe_int pa_nil)) (blkOk_by (own := [("_law_k", 4)]) (N := N_law_statement) (sc := defScope s_law_statement) (by decide +kernel)) (fun _ _ _ _ _ => pg_name (i := 4) sc_law_statement.nd rfl (Or.inl rfl)) (fun _ _ _ _ _ => pts_nil) (fun _ _ _ _ _ => (pe_ix (show IxR _ (rIxL K) from ix_list) (pe_lst (pa_cons pe_non (pa_cons (pe_call G_law_draw (hr.mono (by omega)) (by rfl) T.law_draw.m T.law_draw.F.kp T.law_draw.b .nil pass0 (pa_cons (pv 0) (pa_cons pe_int pa_nil))) pa_nil))) (pe_call G_law_draw (hr.mono (by omega)) (by rfl) T.law_draw.m T.law_draw.F.kp T.law_draw.b .nil pass0 (pa_cons (pv 0) (pa_cons pe_int pa_nil))) (fun _ _ => rfl))))
      (pss_one (ps_ret (pe_tup (pa_cons pe_str (pa_cons (pe_ix ix_list (pv 3) pe_int (fun _ _ => rfl)) (pa_cons (pv 2) (pa_cons (pe_ix ix_list (pv 3) pe_int (fun _ _ => rfl)) (pa_cons (pe_call G_law_body (hr.mono (by omega)) (by rfl) T.law_body.m T.law_body.F.kp T.law_body.b .nil pass0 (pa_cons (pv 0) pa_nil)) pa_nil)))))))))) pss_nil)
      (pss_cons (ps_if (pt_cmpR op_eq (pv 1) pe_int (nomark _)) (pss_one (ps_ret (pe_tup (pa_cons pe_str (pa_cons (pe_op op_cat (pe_lst (pa_cons (pe_call G_law_condition (hr.mono (by omega)) (by rfl) T.law_condition.m T.law_condition.F.kp T.law_condition.b .nil pass0 (pa_cons (pv 0) pa_nil)) pa_nil)) (pe_call G_law_body (hr.mono (by omega)) (by rfl) T.law_body.m T.law_body.F.kp T.law_body.b .nil pass0 (pa_cons (pv 0) pa_nil))) pa_nil))))) pss_nil)
      (pss_cons (ps_if (pt_cmpR op_eq (pv 1) pe_int (nomark _)) (pss_one (ps_ret (pe_tup (pa_cons pe_str (pa_cons (pe_call G_law_draw (hr.mono (by omega)) (by rfl) T.law_draw.m T.law_draw.F.kp T.law_draw.b .nil pass0 (pa_cons (pv 0) (pa_cons pe_int pa_nil))) (pa_cons (pe_call G_law_draw (hr.mono (by omega)) (by rfl) T.law_draw.m T.law_draw.F.kp T.law_draw.b .nil pass0 (pa_cons (pv 0) (pa_cons pe_int pa_nil))) pa_nil)))))) pss_nil)
      (pss_one (ps_ret (pe_tup (pa_cons pe_str (pa_cons (pe_call G_law_members (hr.mono (by omega)) (by rfl) T.law_members.m T.law_members.F.kp T.law_members.b .nil pass0 (pa_cons (pv 0) pa_nil)) pa_nil)))))))))), ?_⟩
  refine ⟨_, rfl, S, C, 9, rfl, st, by decide, by decide, fun H1 j kp1 st1 j0 j9 => ?_⟩
  refine ⟨_, rfl, _, _, rfl, rfl, _, rfl, ?_⟩
  refine ite2 (fun c1 => ?_) (fun c1 => ?_)
  · -- a rule
    refine ⟨_, rfl, S, C, rfl, st1, fun H2 v2 a kp2 st2 ha D2 => ?_⟩
    refine ⟨_, rfl, S, C, rfl, st2, fun H3 D xs b kp3 st3 hD hL hR hb => ⟨sz3, fun t ht => ?_⟩⟩
    have kpA := kp1.trans kp2
    have kpB := kpA.trans kp3
    have hRD : Rp (dom H) H3 (.ref D) (.list (b.map Pt.enc)) := (hR.weak fun b e => kpA.dm b e).lst' hL fun z => z (kpA.free hD)
    exact q _ _ (.rule a b) (kpB.new ht) (st3.nw ht) ⟨⟨ha, hb⟩, trivial⟩ ((RpL.cons (.str _) (.cons ((D2.dn kp1).up kp3 st.dm) (.cons hRD .nil))).mk kpB ht)
  refine ⟨_, rfl, _, _, rfl, rfl, _, rfl, ?_⟩
  refine ite2 (fun c2 => ?_) (fun c2 => ?_)
  · -- a choice
    refine ⟨_, rfl, S, C, 2, rfl, st1, by decide, by decide, fun H2 j2 kp2 st2 j20 j22 => ⟨_, _, rfl, rfl, 1 + j2, rfl, by omega, by omega, fun D hD => ?_⟩⟩
    have kpA := kp1.trans kp2
    refine lc_gen (enc := Ch.enc) (ok := Ch.ok) (n := (1 + j2).toNat) (by omega) st2 hD (fun x Hc Q' stc k => ?_) fun H3 vs zs kp3 st3 hD3 hl hok hR => ?_
    · refine ⟨_, rfl, S, C, rfl, stc, fun H2 v2 a kp2 st2 ha D2 => ?_⟩
      refine ⟨_, rfl, S, C, 2, rfl, st2, by decide, by decide, fun H3 D3 xs cs kp3 st3 hD3 hL3 hR3 hl3 hc3 => ⟨sz3, fun u hu => ?_⟩⟩
      have kpB := kp2.trans kp3
      have hRD : Rp (dom Hc) H3 (.ref D3) (.list (cs.map Cd.enc)) := (hR3.weak fun b e => .inl (kp2.dm b e)).lst' hL3 fun z => z (kp2.free hD3)
      exact k _ _ ⟨a, cs⟩ (kpB.new hu) (st3.nw hu) ⟨ha, (show cs.length ≤ 1 by omega), hc3⟩ ((RpL.cons (.str _) (.cons (D2.up kp3 stc.dm) (.cons hRD .nil))).mk kpB hu)
    have kpB := kpA.trans kp3
    have hRows : Rp (dom H) H3 (.ref D) (.list (zs.map Ch.enc)) := (hR.weak fun b e => .inl (kpA.dm b e)).lst' hD3 fun z => z (kpA.free hD)
    -- the bounds
    refine ⟨2, rfl, by decide, by decide, fun N hN => ?_⟩
    refine lc_gen (enc := oI) (ok := oOk) (n := (2 : Int).toNat) (by decide) st3 hN (fun x Hc Q' stc k => ?_) fun H4 ws os kp4 st4 hN4 hl4 hok4 hR4 => ?_
    · refine ⟨_, rfl, S, C, 10000, rfl, stc, by decide, by decide, fun H5 j5 kp5 st5 j50 j51 => ⟨sz2, fun M hM => ?_⟩⟩
      refine ⟨_, rfl, S, C, 2, rfl, st5.nw hM, by decide, by decide, fun H6 j6 kp6 st6 j60 j62 => ?_⟩
      obtain ⟨o, ha, ho⟩ := pickO j60 j62 (show i4 j5 from ⟨j50, j51⟩)
      refine ⟨M, _, j6, _, rfl, rfl, SqL.of (kp6.oth M _ upd_same (nMsc st5 hM)), ha, ?_⟩
      exact k _ _ o ((kp5.new hM).trans kp6) st6 ho (oV_rp o)
    obtain ⟨o0, o1, rfl⟩ : ∃ o0 o1, os = [o0, o1] := by
      match os, hl4 with
      | [o0, o1], _ => exact ⟨o0, o1, rfl⟩
    obtain ⟨w0, ws', rfl, q0, hR5⟩ := hR4.uncons
    obtain ⟨w1, ws'', rfl, q1, hR6⟩ := hR5.uncons
    obtain rfl := hR6.unnil
    obtain rfl := oV_of q0
    obtain rfl := oV_of q1
    refine ⟨_, rfl, N, _, _, _, rfl, rfl, SqL.of hN4, atI_nat (j := 0) rfl, _, rfl, _, rfl, N, _, _, _, rfl, rfl, SqL.of hN4, atI_nat (j := 1) rfl, ?_⟩
    refine ⟨_, rfl, S, C, rfl, st4, fun H5 D5 xs b kp5 st5 hD5 hL5 hRb hb => ⟨sz5, fun t ht => ?_⟩⟩
    have kpC := kpB.trans kp4
    have kpD := kpC.trans kp5
    have hRD : Rp (dom H) H5 (.ref D5) (.list (b.map Pt.enc)) := (hRb.weak fun b e => kpC.dm b e).lst' hL5 fun z => z (kpC.free hD5)
    exact q _ _ (.choose o0 zs o1 b) (kpD.new ht) (st5.nw ht) ⟨⟨hok4 o0 List.mem_cons_self, ⟨by omega, by omega, hok⟩, hok4 o1 (List.mem_cons_of_mem _ List.mem_cons_self), hb⟩, trivial⟩
      ((RpL.cons (.str _) (.cons (oV_rp o0) (.cons ((hRows.up kp4 st.dm).up kp5 st.dm) (.cons (oV_rp o1) (.cons hRD .nil))))).mk kpD ht)
  refine ⟨_, rfl, rfl, _, rfl, ?_⟩
  refine ite2 (fun c3 => ?_) (fun c3 => ?_)
  · -- a denial
    refine ⟨_, rfl, S, C, rfl, st1, fun H2 v2 c kp2 st2 hc D2 => ⟨sz1, fun D hD => ?_⟩⟩
    have kpA := kp1.trans kp2
    refine ⟨_, rfl, S, C, rfl, st2.nw hD, fun H3 D3 xs b kp3 st3 hD3 hL3 hR3 hb => ?_⟩
    have hLD := kp3.oth D _ upd_same (nMsc st2 hD)
    have lx : xs.length = b.length := by rw [hR3.1, List.length_map]
    have hb1 := hb.1
    refine ⟨D, D3, _, _, rfl, rfl, hLD, hL3, (show 1 + xs.length ≤ sizeLine from szM15 (by omega)), fun N hN => ⟨sz2, fun t ht => ?_⟩⟩
    have kp23 : Kp (Msc S C) H2 H3 := (Kp.refl.new hD).trans kp3
    have kpB := kpA.trans kp23
    have kpC := kpB.new hN (o := .lst ([v2] ++ xs))
    have hRL : RpL (dom H) H3 ([v2] ++ xs) ((Pt.cd c :: b).map Pt.enc) := RpL.cons ((D2.dn kp1).up kp23 st.dm) (hR3.weak fun b e => (kpA.new hD (o := .lst [v2])).dm b e)
    have hRN : Rp (dom H) (upd H3 N (.lst ([v2] ++ xs))) (.ref N) (.list ((Pt.cd c :: b).map Pt.enc)) := hRL.lst (.inr hN) fun z => z (kpB.free hN)
    exact q _ _ (.deny (.cd c :: b)) (kpC.new ht) ((st3.nw hN).nw ht) ⟨⟨(show 1 ≤ b.length + 1 by omega), (show b.length + 1 ≤ 4 by omega), fun p hp => (by
      rcases List.mem_cons.mp hp with e | hp
      · rw [e]; exact hc
      · exact hb.2 p hp)⟩, c, b, rfl⟩ ((RpL.cons (.str _) (.cons hRN .nil)).mk kpC ht)
  refine ⟨_, rfl, rfl, _, rfl, ?_⟩
  refine ite2 (fun c4 => ?_) (fun c4 => ?_)
  · refine ⟨_, rfl, S, C, 10000, rfl, st1, by decide, by decide, fun H2 j2 kp2 st2 j20 j22 => ?_⟩
    refine ⟨_, rfl, S, C, 10000, rfl, st2, by decide, by decide, fun H3 j3 kp3 st3 j30 j33 => ⟨sz3, fun t ht => ?_⟩⟩
    have kpB := (kp1.trans kp2).trans kp3
    exact q _ _ (.range j2 j3) (kpB.new ht) (st3.nw ht) ⟨⟨⟨j20, j22⟩, ⟨j30, j33⟩⟩, trivial⟩ ((RpL.cons (.str _) (.cons (.int _) (.cons (.int _) .nil))).mk kpB ht)
  · refine ⟨_, rfl, S, C, rfl, st1, fun H2 v2 ms kp2 st2 hms D2 => ⟨sz2, fun t ht => ?_⟩⟩
    have kpB := kp1.trans kp2
    exact q _ _ (.mini ms) (kpB.new ht) (st2.nw ht) ⟨hms, trivial⟩ ((RpL.cons (.str _) (.cons (D2.dn kp1) .nil)).mk kpB ht)
end
end Kt
/-! K22: rules that the layer lacks: repr of data, a text's replace by an item of a written list, a token that is out behind a store -/
namespace Kt
open PySem L2 PySem.Spec PyProof.Rows
/-- repr of data, where no repr runs yet -/
theorem call_reprD {X : Cx} (hg : X.A.guards = some []) (hu : X.A.units + 64 < cLine) : CallR X (.builtin "repr") (fun xs H Q => ∃ (a : Addr) (d : PyData), xs = [.ref a] ∧ Dp X.K H (.ref a) d ∧ d.showable = true ∧ d.hasDict = false ∧ d.depth ≤ 60 ∧ d.shown.length ≤ sizeLine ∧ Q (.str d.shown) H) := by
  intro pins s σ H xs us Q I r h
  obtain ⟨a, d, rfl, hd, hs, hn, hp, hz, q⟩ := h
  have eu : us = [Value.ref a] := Vals.ref1 r
  subst eu
  obtain ⟨as, hr⟩ := Dp.reads I d (.ref a) (.ref a) hd rfl
  exact repr_of_reads' hr hs (fun z => by rw [hn] at z; cases z) hg (by omega) (fun _ _ e => e) (fun h' u tk kk => ⟨.str d.shown, H, I.kept kk, ⟨u, rfl⟩, q⟩) hz
section
variable {X : Cx}
/-- the invariant behind a store to a local name, whatever number of tokens is out -/
theorem inv_asg {pins : List (Addr × Obj)} {σ : L2.St} {H : Hp} {s : Shared} {i : Nat} {x : Str} {y : V} {u : Value} {m : Str → Option Value} {g : Heap} (n : Nat) (J : Inv X pins σ H s) (hN : X.N.Nodup) (hi : X.N[i]? = some x)
    (hx : X.env.scope.names.lookup x = some .local) (r : RelV y u) (hm : s.heap.Ns X.env.locals m) (look : ∀ (j : Nat) z w, X.N[j]? = some z → σ[j]? = some (some w) → Vis X.env.scope z → ∃ w', RelV w w' ∧ Look X.env s.heap m z w')
    (hg : g.Ns X.env.locals (fun z => if z = x then some u else m z)) (sb : Heap.SameBut X.env.locals s.heap g) : Inv X pins (σ.set i (some y)) H { s with heap := g, toks := n } := by
  have low : ∀ {b : Addr} {o : Obj}, X.s_0.heap.get? b = some o → g.get? b = s.heap.get? b := fun {b o} q => sb.2 b (Nat.ne_of_lt (Nat.lt_of_lt_of_le (Heap.lt_size q) J.ok.above))
  obtain ⟨ob, _, _, hob, _⟩ := id hm
  have long : i < σ.length := by
    have := (List.getElem?_eq_some_iff.mp hi).1
    rw [J.len]; exact this
  constructor
  case ok => exact J.ok
  case os => exact J.os
  case bare => exact J.bare
  case free => exact J.free
  case freeC => exact J.freeC
  case len => rw [List.length_set]; exact J.len
  case base =>
    constructor
    case keep => intro b o q nH nf nx; rw [low q]; exact J.base.keep b o q nH nf nx
    case slot => intro b o q nH nf nx; rw [low q]; exact J.base.slot b o q nH nf nx
    case free => exact J.base.free
    case there => intro b o q nx; rw [low q]; exact J.base.there b o q nx
    case tups => exact J.base.tups
    case frzs => exact J.base.frzs
    case tbls => exact J.base.tbls
  case cell =>
    intro z c q
    obtain ⟨w, hw⟩ := J.cell z c q
    exact ⟨w, hw.sameBut sb (J.cne z c q)⟩
  case pin =>
    intro p hp
    obtain ⟨q1, q2, q3, q4⟩ := J.pin p hp
    exact ⟨by rw [sb.2 p.1 q3]; exact q1, q2, q3, q4⟩
  case hok =>
    intro b o q
    have far : ∀ c, (c = b ∨ H c = some (.own b)) → c ≠ X.env.locals := by
      intro c hc z
      rw [z] at hc
      have nf := J.free
      rcases hc with hc | hc
      · rw [hc, q] at nf; cases nf
      · rw [hc] at nf; cases nf
    exact (J.hok b o q).stay (fun c w hc e => by rw [sb.2 c (far c hc)]; exact e) (fun _ e => e) (fun _ _ e => e)
  case loc =>
    refine ⟨_, hg, ?_⟩
    intro j z w q1 q2 q3
    by_cases same : j = i
    · subst same
      have ez : z = x := by rw [hi] at q1; exact (Option.some.inj q1).symm
      have ew : w = y := by rw [List.getElem?_set_self long] at q2; exact (Option.some.inj (Option.some.inj q2)).symm
      subst ez; subst ew
      exact ⟨u, r, Or.inl ⟨hx, if_pos rfl⟩⟩
    · rw [List.getElem?_set_ne fun e => same e.symm] at q2
      obtain ⟨w', rw', l⟩ := look j z w q1 q2 q3
      refine ⟨w', rw', ?_⟩
      rcases l with ⟨k, l⟩ | ⟨k, c, l1, l2⟩
      · have ne : z ≠ x := fun e => same (nodup_ix hN q1 (by rw [e]; exact hi))
        exact Or.inl ⟨k, (if_neg ne).trans l⟩
      · exact Or.inr ⟨k, c, l1, l2.sameBut sb (J.cne z c l1)⟩
/-- behind a store to a local name a token is out -/
theorem pss_setT {i : Nat} {x : Str} {e : Expr} {te : TE} {pos' pos : Pos} {rest : List Stmt} {u : TS} (hN : X.N.Nodup) (hi : X.N[i]? = some x) (hx : X.env.scope.names.lookup x = some .local) (he : PE X e te) (h2 : PSsT X rest u) (hs : swapsWith e (some (.Name x pos')) pos.line X.env = pure false := by rfl) :
    PSs X (.Assign [.Name x pos'] e pos :: rest) (tSeq (tAsg te (gName i)) u) := by
  refine ⟨fun pins s σ H D I h => ?_⟩
  refine wpAny_execs_cons (wpAny_Assign_Name (thn (he.run pins s σ H _ I h) fun v s1 ⟨y, H1, I1, r1, q1⟩ => ?_) hs)
  obtain ⟨m, hn, look⟩ := id I1.loc
  have hcls : (X.env.scope.kind == .class || (X.env.scope.kind == .module && X.env.locals != X.env.globals)) = false := by rw [I1.ok.kind]; rfl
  refine wpAny_storeName_local hx hn (fun g hg sb => ?_) hcls
  exact h2 pins _ _ H1 D (by show 1 ≤ s1.toks + 1; omega) (inv_asg (s1.toks + 1) I1 hN hi hx r1 hn look hg sb) q1
/-- a store, a token being out -/
theorem pst_set {i : Nat} {x : Str} {e : Expr} {te : TE} {pos' pos : Pos} (hN : X.N.Nodup) (hi : X.N[i]? = some x) (hx : Loc X.env.scope x) (he : PET X e te) (hs : swapsWith e (some (.Name x pos')) pos.line X.env = pure false := by rfl)
    (hf : X.fn x = true ∨ X.env.scope.names.lookup x = some .local := by first | exact .inl rfl | exact .inr rfl | assumption) :
    PST X (.Assign [.Name x pos'] e pos) (tAsg te (gName i)) := by
  intro pins s σ H D h0 I h
  refine wpAny_Assign_Name (thn (he pins s σ H _ h0 I h) fun v s1 ⟨y, H1, I1, r1, q1⟩ => ?_) hs
  exact store_ok (v := y) (u := v) I1 hN hi hx r1 (fun s2 I2 => ⟨_, H1, I2, q1⟩) hf
/-- e.replace(y, [z1, z2, z3][j]): what it reads -/
def tRep3 (to td : TE) (y z1 z2 z3 : Str) : TE := fun σ H Q => to σ H fun v H1 => ∃ x, v = .str x ∧ ∀ (D : Addr) (ob : Obj), H1 D = none →
  td σ (upd H1 D (.frz ob (.lst [.str z1, .str z2, .str z3]))) fun jv H2 => ∃ (i : Nat) (z : Str), jv = .int (i : Int) ∧ [z1, z2, z3][i]? = some z ∧ H2 D = some (.frz ob (.lst [.str z1, .str z2, .str z3])) ∧ x.length + (x.length + 1) * z.length ≤ 16777216 ∧ Q (.str (Txt.replace x y z)) H2
theorem pet_rep3 {o dr : Expr} {to td : TE} {y z1 z2 z3 : Str} {j0 j1 j2 j3 : Nat} {c0 c1 c2 c3 lp sp apos pos : Pos} (ho : PE X o to) (hd : PE X dr td) (n1 : (y == z1) = false := by decide) (n2 : (y == z2) = false := by decide) (n3 : (y == z3) = false := by decide)
    (hpl : PlainIx dr := by exact fun _ _ => rfl) (hst : starEach [.Constant (.str y) j0 c0, .Subscript (.List [.Constant (.str z1) j1 c1, .Constant (.str z2) j2 c2, .Constant (.str z3) j3 c3] lp) dr sp] X.env =
      [(false, eval (.Constant (.str y) j0 c0) X.env), (false, eval (.Subscript (.List [.Constant (.str z1) j1 c1, .Constant (.str z2) j2 c2, .Constant (.str z3) j3 c3] lp) dr sp) X.env)] := by rfl)
    (hbase : attributeBase o "replace" X.env (eval o X.env) = eval o X.env := by rfl) (hline : (apos.endLine == pos.line) = true := by rfl) :
    PET X (.Call (.Attribute o "replace" apos) [.Constant (.str y) j0 c0, .Subscript (.List [.Constant (.str z1) j1 c1, .Constant (.str z2) j2 c2, .Constant (.str z3) j3 c3] lp) dr sp] [] pos) (tRep3 to td y z1 z2 z3) := by
  intro pins s σ H Q h0 I h
  refine PySem.Call_method2 hbase hst hline (wpAny_mono (PySem.wpAny_toks (ho.run pins s σ H _ I h)) (fun v s1 got => ?_) fun _ _ e => e.2)
  obtain ⟨mono, v', H1, I1, r1, x, rfl, next⟩ := got
  obtain ⟨tx, rfl⟩ := r1
  refine ⟨"str", _, PySem.F.plainAttrs_str, PySem.F.slot_str_replace, PySem.F.type_str_replace, typeIs_str _ _ _, (fun _ e => nomatch e), Calls.callWith_builtin rfl (Calls.evalArgs_plain (Calls.spliced_cons ?_))⟩
  refine Calls.Constant_str (Calls.spliced_cons ?_)
  refine Subscript_ (wpAny_List_spliced ?_)
  show wpAny _ _ (spliced ((false, eval (.Constant (.str z1) j1 c1) X.env) :: (false, eval (.Constant (.str z2) j2 c2) X.env) :: (false, eval (.Constant (.str z3) j3 c3) X.env) :: [])) _ _ _
  refine Calls.spliced_cons (Calls.Constant_str (Calls.spliced_cons (Calls.Constant_str (Calls.spliced_cons (Calls.Constant_str (Calls.spliced_nil ?_))))))
  refine ⟨(by decide : (3 : Nat) ≤ sizeLine), ?_⟩
  let D := s1.heap.objs.size
  let ob : Obj := { cls := .type "list", data := .seq #[.str z1 (s1.toks + 1), .str z2 (s1.toks + 1 + 1), .str z3 (s1.toks + 1 + 1 + 1)] 0 }
  have fresh : H1 D = none := I1.hok.fresh (Nat.le_refl _)
  have J : Inv X pins σ (upd H1 D (.frz ob (.lst [.str z1, .str z2, .str z3]))) { s1 with heap := s1.heap.push ob, toks := s1.toks + 1 + 1 + 1 + 1 } :=
    I1.laid (t' := s1.toks + 1 + 1 + 1 + 1) (fun b u e => Heap.get?_push_of_some _ e) (Nat.le_refl _) ⟨Heap.get?_push_size _ rfl, (by decide : (3 : Nat) ≤ sizeLine), [.str z1 (s1.toks + 1), .str z2 (s1.toks + 1 + 1), .str z3 (s1.toks + 1 + 1 + 1)], 0, .cons ⟨_, rfl⟩ (.cons ⟨_, rfl⟩ (.cons ⟨_, rfl⟩ .nil)), Heap.get?_push_size _ rfl⟩
  refine thn (hd.run pins _ σ _ _ J (next D ob fresh)) fun iv s2 ⟨jv, H2, I2, r2, i, z, e1, e2, e3, e4, q⟩ => ?_
  subst e1
  obtain ⟨ti, rfl⟩ := r2
  have at2 : s2.heap.get? D = some ob := (I2.hok D _ e3).1
  have lst2 : s2.heap.IsList D #[.str z1 (s1.toks + 1), .str z2 (s1.toks + 1 + 1), .str z3 (s1.toks + 1 + 1 + 1)] := ⟨ob, at2, rfl, 0, rfl⟩
  have fin : ∀ (tz : Tok), tz ≠ 0 → tz ≠ s1.toks → (y == z) = false → wpAny (model X.prog X.w) X.A (call (.builtin "str.replace") [.str x tx, .str y s1.toks, .str z tz]) (EP X pins σ Q) X.xe s2 := fun tz t0 t1 yz =>
    PySem.SC.replace (by show s1.toks ≠ 0; omega) t0 (Ne.symm t1) yz e4 fun t' k => ⟨.str (Txt.replace x y z), H2, I2.tok k, ⟨t', rfl⟩, q⟩
  have le3 : i < 3 := (List.getElem?_eq_some_iff.mp e2).1
  have fits : (i : Int) < 2 ^ 63 := by omega
  have cs : i = 0 ∧ z = z1 ∨ i = 1 ∧ z = z2 ∨ i = 2 ∧ z = z3 := by
    rcases i with _ | _ | _ | i
    · exact .inl ⟨rfl, (Option.some.inj e2).symm⟩
    · exact .inr (.inl ⟨rfl, (Option.some.inj e2).symm⟩)
    · exact .inr (.inr ⟨rfl, (Option.some.inj e2).symm⟩)
    · omega
  rcases cs with ⟨rfl, rfl⟩ | ⟨rfl, rfl⟩ | ⟨rfl, rfl⟩
  · exact item_listR lst2 (Int.natCast_nonneg 0) fits rfl (Calls.spliced_nil (fin (s1.toks + 1) (by show s1.toks + 1 ≠ 0; omega) (by show s1.toks + 1 ≠ s1.toks; omega) n1)) (hpl _ _)
  · exact item_listR lst2 (Int.natCast_nonneg 1) fits rfl (Calls.spliced_nil (fin (s1.toks + 1 + 1) (by show s1.toks + 1 + 1 ≠ 0; omega) (by show s1.toks + 1 + 1 ≠ s1.toks; omega) n2)) (hpl _ _)
  · exact item_listR lst2 (Int.natCast_nonneg 2) fits rfl (Calls.spliced_nil (fin (s1.toks + 1 + 1 + 1) (by show s1.toks + 1 + 1 + 1 ≠ 0; omega) (by show s1.toks + 1 + 1 + 1 ≠ s1.toks; omega) n3)) (hpl _ _)
end
end Kt
/-! K23: the law's own call, at the caller's place alone (there no repr runs yet: its guards are known) -/
namespace Kt
open PySem L2 PySem.Spec PyProof.Rows
/-- a def's call where its body is known at this one place -/
theorem call_here {P : Program} {w : World} {K : PySem.W.Frag} {mg : Str → Option Value} {base : Heap} {x qual : Str} {st : Stmt} {f : Addr} {fd : FuncData} {N ps : List Str} {k : Nat} (F : Fun K x qual st f fd) (S : FnScope N ps (defScope st))
    {A : Around} {outer : List Env} {s : Shared} {H : Hp} {args : Args} {us : List Value} {vs : List V} {Q : VK} {E : XK} (hl : vs.length = ps.length) (hr : Room (k + 1) A) (e0 : Env0 P w K mg base A outer s H) (hb : BindsTo s fd args (ps.zip us)) (r : Vals vs us)
    (go : ∀ cdv, Room k (A.deeper (envOfC qual (defScope st) s.heap.objs.size f cdv)) → ∃ t, PSs (cxOf CX0 P w K mg base N qual (defScope st) f cdv A outer s H E).nox (defBody st) t ∧ t { nx := fun _ H' => Q .non H', rt := Q } (start N vs) H) :
    codeAny (model P w) A (.call (.ref f) args) (CR CX0 outer P w H s Q E) s := by
  obtain ⟨oc, od, kV, doc, pm, an, cdv, ct, osl, rfl, lk, cin⟩ := F.ex
  have inK : K.In s.heap := e0.mod.kin.keeps fun b o q => (e0.bs b o q).1
  obtain ⟨t, run, now⟩ := go cdv (hr.deeper _)
  refine codeAny_call_function hr.depth (inK _ _ lk) rfl S.co S.gen rfl (PySem.W.codeRec_of inK cin) (hb _ _ _ _ ?_)
  refine wpAny_newFunctionEnv_cells S.kind ?names ?fin
  case names =>
    intro y hy
    have hp := S.par y.1 (List.of_mem_zip (show (y.1, y.2) ∈ ps.zip us from hy)).1
    exact hp.imp id fun c => ⟨c, PySem.W.cellsFrom_some _ _ _ (.inl c)⟩
  case fin =>
    intro env he s1 inC
    subst he
    refine ⟨(e0.mod.nolimit.keeps fun b o q => (e0.bs b o q).1).keeps inC.toInCall.keep, codeAny_func ?_⟩
    have I0 : Inv (cxOf CX0 P w K mg base N qual (defScope st) f cdv A outer s H E) [] (start N vs) H s1 := inv_start S hr.hd e0 hl r inC
    refine wpAny_mono (run.nox.run [] s1 (start N vs) H _ I0 now) ?good fun e s' bad => bad
    case good =>
      intro fl s' got
      cases fl with
      | ret u =>
        obtain ⟨v, σ', H', J, rv, q⟩ := got
        exact ⟨v, H', J.os, J.bare, J.base, J.hok, rv, q⟩
      | next =>
        obtain ⟨σ', H', J, q⟩ := got
        exact ⟨V.non, H', J.os, J.bare, J.base, J.hok, (rfl : Value.none = Value.none), q⟩
      | brk => exact False.elim got.choose_spec.choose_spec.2
      | cont => exact False.elim got.choose_spec.choose_spec.2
/-- what the law's call promises from a state -/
abbrev Told (s₁ : Shared) (r : Result) (s' : Shared) : Prop := r = .ok (.ret (.bool true)) ∧ OldK s₁.heap s'.heap ∧ s'.os = s₁.os ∧ AllBare s'.gens
/-- the head: from a promise at the caller's own place -/
theorem told_of {P : Program} {w : World} {K : PySem.W.Frag} {mg mb : Str → Option Value} {a : Addr} {s₁ : Shared} {vs : List Value} {ns : List Int} {c : Code} (inK : K.In s₁.heap) (glob : s₁.heap.Ns mainGlobals mg) (bl : s₁.heap.Ns builtinsNs mb)
    (bb : ∀ x : Str, x ≠ "__name__" → mb x = bootBuiltins x) (lim : s₁.heap.NoLimit) (noGen : s₁.gens = #[]) (ha : s₁.heap.get? a = some { cls := .type "list", data := .seq vs.toArray }) (isI : IntsAre vs ns) (short : ns.length ≤ sizeLine)
    (go : ∀ (base : Heap) (H : Hp), K.In base → base.Ns mainGlobals mg → Only H → SqL K H a (ns.map V.int) → Env0 P w K mg base callerA [] s₁ H → codeAny (model P w) callerA c (CR CX0 [] P w H s₁ (fun v _ => v = .bl true) fun _ _ _ => False) s₁) :
    codeAny (model P w) callerA c (Told s₁) s₁ := by
  have nn : ∀ {p : Prop} {b : Addr}, b ∈ ([] : List Addr) → p := fun z => nomatch z
  -- H tracks at most the script
  have main : ∀ H : Hp, (∀ b, H b ≠ none → b = a ∧ K.lookup a = none ∧ H b = some (.frz { cls := .type "list", data := .seq vs.toArray } (.lst (ns.map V.int)))) → SqL K H a (ns.map V.int) → HOk P w H s₁.heap → codeAny (model P w) callerA c (Told s₁) s₁ := by
    intro H own hS hok
    have onlyH : Only H := fun b => by
      by_cases z : H b = none
      · exact .inl z
      · exact .inr ⟨_, _, (own b z).2.2⟩
    have apart : ∀ {b : Addr} {o : Obj}, s₁.heap.get? b = some o → (b ≠ a ∨ ∃ o', K.lookup b = some o') → H b = none := by
      intro b o _ hb
      by_cases z : H b = none
      · exact z
      · obtain ⟨e, e2, _⟩ := own b z
        rcases hb with hb | ⟨o', hb⟩
        · exact absurd e hb
        · rw [e, e2] at hb; cases hb
    have space : ∀ {b : Addr} {m : Str → Option Value}, s₁.heap.Ns b m → (hidT s₁.heap H).Ns b m := by
      rintro b m ⟨o, es, ep, e, d, rest⟩
      refine ⟨o, es, ep, hidT_get e (apart e (.inl fun z => ?_)), d, rest⟩
      rw [z, ha] at e
      obtain rfl := Option.some.inj e
      exact Data.noConfusion d
    have inB : K.In (hidT s₁.heap H) := fun b o e => hidT_get (inK b o e) (apart (inK b o e) (.inr ⟨o, e⟩))
    obtain ⟨mc, l1, l2⟩ := lim
    have e0 : Env0 P w K mg (hidT s₁.heap H) callerA [] s₁ H :=
      { frames := rfl, mod := ⟨inB, space glob, ⟨mb, space bl, bb⟩, ⟨mc, space l1, l2⟩⟩, bs := fun b o e => of_hidT e, bsz := Nat.le_of_eq (hidT_size _ _), funs := trivial, frf := fun b hb => nn hb, hok := hok, bare := .of_eq noGen }
    refine codeAny_mono (go _ H inB (space glob) onlyH hS e0) fun r s' got => ?_
    cases r with
    | error e => exact False.elim got
    | ok fl =>
      cases fl with
      | next => exact False.elim got
      | brk => exact False.elim got
      | cont => exact False.elim got
      | ret u =>
        obtain ⟨v, H', os, bare, un, hok', rv, hv⟩ := got
        obtain rfl : v = .bl true := hv
        obtain rfl : u = Value.bool true := rv
        refine ⟨rfl, OldK.of_keep fun b o e => ?_, os, bare⟩
        by_cases z : H b = none
        · exact un.keep b o e z (fun m => nn m) (fun m => nn m)
        · have h1 := (own b z).2.2
          have o1 := (hok b _ h1).1
          have o2 := (hok' b _ (un.frzs b _ _ h1)).1
          rw [e] at o1
          rw [o2, o1]
  have sz : (ns.map V.int).length ≤ sizeLine := by rw [List.length_map]; exact short
  have rv := vals_ints isI
  cases hk : K.lookup a with
  | some o =>
    have e := inK a o hk
    rw [ha] at e
    obtain rfl := Option.some.inj e
    exact main (fun _ => none) (fun b z => absurd rfl z) (.inr ⟨_, vs.toArray, _, hk, rfl, rfl, rfl, by rw [List.size_toArray, isI.length]; exact short, by simpa using rv⟩) (fun b u z => by cases (show (none : Option HO) = some u from z))
  | none =>
    let ob : Obj := { cls := .type "list", data := .seq vs.toArray }
    let H : Hp := fun b => if b = a then some (.frz ob (.lst (ns.map V.int))) else none
    have h1 : H a = some (.frz ob (.lst (ns.map V.int))) := if_pos rfl
    have h2 : ∀ b, b ≠ a → H b = none := fun b n => if_neg n
    refine main H (fun b z => ?_) (.inl (.inr ⟨ob, h1⟩)) (fun b u z => ?_)
    · by_cases e : b = a
      · exact ⟨e, hk, by rw [e]; exact h1⟩
      · exact absurd (h2 b e) z
    · by_cases e : b = a
      · subst e
        rw [h1] at z
        obtain rfl := Option.some.inj z
        exact ⟨ha, sz, vs, _, rv, ha⟩
      · rw [h2 b e] at z; cases z
end Kt
/-! K24: plain: the tokens of a statement are read back as that statement -/
namespace Kt
open PySem

/-! ### numbers -/
theorem cd_dg (n : Nat) : cd (dg (n : Int)) = TL.numL n := TL.tl_num n
theorem i4_nat {n : Int} (h : i4 n) : ∃ m : Nat, n = (m : Int) ∧ m < 10000 := by
  obtain ⟨h0, h1⟩ := h
  exact ⟨n.toNat, by omega, by omega⟩
theorem numL_zero (n : Nat) : ∀ ws, TL.numL n = 48 :: ws → ws = [] := by
  induction n using Nat.strongRecOn with
  | ind n ih =>
    intro ws e
    by_cases h : n < 10
    · rw [TL.numL_lt h] at e
      exact (List.cons.inj e).2.symm
    · rw [TL.numL_step (by omega)] at e
      cases e1 : TL.numL (n / 10) with
      | nil => exact absurd e1 (TL.numL_ne _)
      | cons c r =>
        rw [e1] at e
        have ec : c = 48 := (List.cons.inj e).1
        subst ec
        have er := ih (n / 10) (by omega) r e1
        subst er
        have v := TL.numL_val (n / 10)
        rw [e1] at v
        have z : NumText.digitsVal [48] = 0 := by decide
        omega
theorem dg_facts {n : Int} (h : i4 n) : PySem.intText? (dg n) = some n ∧ (∀ c ∈ cd (dg n), 48 ≤ c ∧ c ≤ 57) ∧ cd (dg n) ≠ [] ∧ (cd (dg n)).length ≤ 4 ∧ ∀ ws, cd (dg n) = 48 :: ws → ws = [] := by
  obtain ⟨m, rfl, hm⟩ := i4_nat h
  have l4 : (TL.numL m).length ≤ 4 := TL.numL_len (by omega) (by omega)
  refine ⟨TL.int_num (by omega), ?_, ?_, ?_, ?_⟩
  · rw [cd_dg]; exact TL.numL_digits m
  · rw [cd_dg]; exact TL.numL_ne m
  · rw [cd_dg]; exact l4
  · rw [cd_dg]; exact numL_zero m
theorem dg_len {n : Int} (h : i4 n) : (dg n).length ≤ 640 := by
  rw [len_cd]
  have := (dg_facts h).2.2.2.1
  omega

/-! ### what may follow -/
theorem nSg_tk {s : Str} {t : Tk} {r : Ts} (h : t ≠ (("sign" : Str), s)) : nSg s (t :: r) := ⟨t, r, rfl, h⟩
theorem nSg_tS {s g : Str} {r : Ts} (h : g ≠ s) : nSg s (tS g :: r) := ⟨_, r, rfl, fun e => h (congrArg Prod.snd e)⟩
structure FolT (r : Ts) : Prop where
  m : nSg "*" r
  p : nSg "+" r
  n : nSg "-" r
theorem FolT.sg {g : Str} {r : Ts} (h : g ≠ "*" ∧ g ≠ "+" ∧ g ≠ "-") : FolT (tS g :: r) := ⟨nSg_tS h.1, nSg_tS h.2.1, nSg_tS h.2.2⟩
def FolC (r : Ts) : Prop := ∃ (t : Tk) (r' : Ts), r = t :: r' ∧ t.2 ∉ nons ∧ t ≠ tS "("
theorem FolC.sg {g : Str} {r : Ts} (h : g ∉ nons ∧ g ≠ "(") : FolC (tS g :: r) := ⟨_, r, rfl, h.1, fun e => h.2 (congrArg Prod.snd e)⟩
theorem FolC.ns {s : Str} {r : Ts} (h : FolC r) (hs : s ∈ nons) : nSg s r := by
  obtain ⟨t, r', rfl, h1, _⟩ := h
  exact nSg_tk fun e => h1 (by rw [e]; exact hs)
theorem FolC.t {r : Ts} (h : FolC r) : FolT r := ⟨h.ns (by decide), h.ns (by decide), h.ns (by decide)⟩
theorem FolC.a {r : Ts} (h : FolC r) : nSg "(" r := by
  obtain ⟨t, r', rfl, _, h2⟩ := h
  exact nSg_tk h2

/-! ### terms -/
theorem nms_kws : ∀ s ∈ nms, s ∉ kws := by decide
theorem toks_sg (w : Str) (p : List Pc) : toks (sg w :: p) = tS w :: toks p := rfl
theorem toks_par (x : List Pc) : toks (par x) = tS "(" :: (toks x ++ [tS ")"]) := by
  show toks ([sg "("] ++ x ++ [sg ")"]) = _
  rw [toks_app, toks_app]
  rfl
def pL (g : Str) (l : Tm) : List Pc := if decide (g = "*") && l.isSum then par (pT l) else pT l
def pR (r : Tm) : List Pc := if r.isOp then par (pT r) else pT r
theorem toks_op (g : Str) (l r : Tm) (k : Ts) : toks (pT (.op g l r)) ++ k = toks (pL g l) ++ (tS g :: (toks (pR r) ++ k)) := by
  show toks (pL g l ++ [.sp] ++ [sg g] ++ [.sp] ++ pR r) ++ k = _
  simp only [toks_app]
  simp [toks, sg]
section
variable {PT : Ts → Tm → Ts → Prop}
theorem fac_atom {d : Nat} {t : Tm} (h : Tm.ok d t) (ha : t.isOp = false) (k : Ts) : PFac PT (toks (pT t) ++ k) t k := by
  cases t with
  | int n =>
    have hn : i4 n := by cases d <;> exact h
    exact .inl ⟨_, n, rfl, rfl, (dg_facts hn).1, dg_len hn⟩
  | sym s =>
    have hs : s ∈ nms := by cases d <;> exact h
    exact .inr (.inr (.inr ⟨s, rfl, nms_kws s hs, rfl⟩))
  | var s => exact .inr (.inl ⟨s, rfl, rfl⟩)
  | op g l r => cases ha
theorem fac_par {t : Tm} {k : Ts} (h : PT (toks (pT t) ++ (tS ")" :: k)) t (tS ")" :: k)) : PFac PT (toks (par (pT t)) ++ k) t k := by
  refine .inr (.inr (.inl ⟨_, ?_, h⟩))
  rw [toks_par]
  simp
theorem fac_pR {d : Nat} {t : Tm} (h : Tm.ok d t) (hp : ∀ k, PT (toks (pT t) ++ (tS ")" :: k)) t (tS ")" :: k)) (k : Ts) : PFac PT (toks (pR t) ++ k) t k := by
  unfold pR
  cases e : t.isOp with
  | true => exact fac_par (hp k)
  | false => exact fac_atom h e k
theorem term_ab : ∀ (t : Tm) (d : Nat), Tm.ok d t → (∀ e t', e < d → Tm.ok e t' → ∀ k, PT (toks (pT t') ++ (tS ")" :: k)) t' (tS ")" :: k)) →
    (t.isSum = false → ∀ k, ∃ n0 f r', PFac PT (toks (pT t) ++ k) f r' ∧ ∀ n y r2, LPro (PFac PT) n t k y r2 → LPro (PFac PT) (n0 + n) f r' y r2) ∧
    (∀ k, nSg "*" k → ∃ n0 f r', PPro PT (toks (pT t) ++ k) f r' ∧ ∀ n y r2, LTrm (PPro PT) n t k y r2 → LTrm (PPro PT) (n0 + n) f r' y r2) := by
  intro t
  induction t with
  | op g l r ihl ihr =>
    intro d ok hp
    cases d with
    | zero => exact ok.elim
    | succ d =>
      obtain ⟨hg, okl, okr⟩ := ok
      have hpl : ∀ e t', e < d → Tm.ok e t' → ∀ k, PT (toks (pT t') ++ (tS ")" :: k)) t' (tS ")" :: k) := fun e t' h o => hp e t' (by omega) o
      obtain ⟨al, bl⟩ := ihl d okl hpl
      have facR : ∀ k, PFac PT (toks (pR r) ++ k) r k := fac_pR okr (hp d r (by omega) okr)
      have A : (Tm.op g l r).isSum = false → ∀ k, ∃ n0 f r', PFac PT (toks (pT (.op g l r)) ++ k) f r' ∧ ∀ n y r2, LPro (PFac PT) n (.op g l r) k y r2 → LPro (PFac PT) (n0 + n) f r' y r2 := by
        intro hs k
        have eg : g = "*" := by
          have : (!decide (g = "*")) = false := hs
          simpa using this
        subst eg
        rw [toks_op]
        by_cases hl : l.isSum = true
        · have e : pL "*" l = par (pT l) := by
            show (if decide ((("*" : Str)) = "*") && l.isSum then par (pT l) else pT l) = _
            rw [hl, decide_eq_true rfl]
            rfl
          rw [e]
          exact ⟨1, l, _, fac_par (hp d l (by omega) okl _), fun n y r2 q => by rw [Nat.add_comm]; exact .step (facR k) q⟩
        · have hl' : l.isSum = false := by simpa using hl
          have e : pL "*" l = pT l := by
            show (if decide ((("*" : Str)) = "*") && l.isSum then par (pT l) else pT l) = _
            rw [hl', Bool.and_false]
            rfl
          rw [e]
          obtain ⟨n0, f, r', h1, h2⟩ := al hl' (tS "*" :: (toks (pR r) ++ k))
          exact ⟨n0 + 1, f, r', h1, fun n y r2 q => by rw [Nat.add_assoc, Nat.add_comm 1 n]; exact h2 (n + 1) y r2 (.step (facR k) q)⟩
      refine ⟨A, fun k hk => ?_⟩
      by_cases hs : (Tm.op g l r).isSum = true
      · have ng : g ≠ "*" := by
          have : (!decide (g = "*")) = true := hs
          simpa using this
        have gg : g = "+" ∨ g = "-" := by
          have m : g = "+" ∨ g = "-" ∨ g = "*" := by simpa [ops] using hg
          rcases m with m | m | m
          · exact .inl m
          · exact .inr m
          · exact absurd m ng
        rw [toks_op]
        have e : pL g l = pT l := by
          show (if decide (g = "*") && l.isSum then par (pT l) else pT l) = _
          rw [decide_eq_false ng]
          rfl
        rw [e]
        obtain ⟨n0, f, r', h1, h2⟩ := bl (tS g :: (toks (pR r) ++ k)) (nSg_tS ng)
        exact ⟨n0 + 1, f, r', h1, fun n y r2 q => by rw [Nat.add_assoc, Nat.add_comm 1 n]; exact h2 (n + 1) y r2 (.step gg ⟨0, r, k, facR k, .done hk⟩ q)⟩
      · obtain ⟨n0, f, r', h1, h2⟩ := A (by simpa using hs) k
        exact ⟨0, _, k, ⟨n0 + 0, f, r', h1, h2 0 _ k (.done hk)⟩, fun n y r2 q => by rw [Nat.zero_add]; exact q⟩
  | _ =>
    intro d ok hp
    have fa := fun k => fac_atom (PT := PT) ok rfl k
    exact ⟨fun _ k => ⟨0, _, k, fa k, fun n y r2 q => by rw [Nat.zero_add]; exact q⟩, fun k hk => ⟨0, _, k, ⟨0, _, k, fa k, .done hk⟩, fun n y r2 q => by rw [Nat.zero_add]; exact q⟩⟩
end
theorem term_back : ∀ (d : Nat) (t : Tm), Tm.ok d t → ∀ k, FolT k → PTrm (d + 1) (toks (pT t) ++ k) t k := by
  intro d
  induction d with
  | zero =>
    intro t ok k hk
    obtain ⟨n0, f, r', h1, h2⟩ := (term_ab (PT := PTrm 0) t 0 ok (fun e t' h => absurd h (Nat.not_lt_zero e))).2 k hk.m
    exact ⟨n0 + 0, f, r', h1, h2 0 t k (.done hk.p hk.n)⟩
  | succ d ih =>
    intro t ok k hk
    obtain ⟨n0, f, r', h1, h2⟩ := (term_ab (PT := PTrm (d + 1)) t (d + 1) ok (fun e t' h o k => ih t' (Tm.ok_mono (by omega) o) _ (.sg (by decide)))).2 k hk.m
    exact ⟨n0 + 0, f, r', h1, h2 0 t k (.done hk.p hk.n)⟩
theorem term4 {d : Nat} {t : Tm} (h : Tm.ok d t) (hd : d ≤ 3) {k : Ts} (hk : FolT k) : PT4 (toks (pT t) ++ k) t k := term_back 3 t (Tm.ok_mono hd h) k hk
/-- how a term's tokens open -/
theorem term_open : ∀ (t : Tm) (d : Nat), Tm.ok d t → ∀ (g : Str) (k : Ts), g ∈ nons → ∃ t0 t1 r0, toks (pT t) ++ (tS g :: k) = t0 :: t1 :: r0 ∧ (t0.1 = "name" → t0.2 ∈ nms ∧ t1.2 ∈ nons) := by
  intro t
  induction t with
  | int n => intro d ok g k hg; exact ⟨_, _, _, rfl, fun e => absurd (show ("int" : Str) = "name" from e) (by decide)⟩
  | var n => intro d ok g k hg; exact ⟨_, _, _, rfl, fun e => absurd (show ("var" : Str) = "name" from e) (by decide)⟩
  | sym s => intro d ok g k hg; exact ⟨_, _, _, rfl, fun e => ⟨by cases d <;> exact ok, hg⟩⟩
  | op o l r ihl ihr =>
    intro d ok g k hg
    cases d with
    | zero => exact ok.elim
    | succ d =>
      obtain ⟨ho, okl, okr⟩ := ok
      have ho' : o ∈ nons := by
        have m : o = "+" ∨ o = "-" ∨ o = "*" := by simpa [ops] using ho
        rcases m with m | m | m <;> rw [m] <;> decide
      rw [toks_op]
      unfold pL
      split
      · rw [toks_par]
        obtain ⟨t0, t1, r0, e, _⟩ := ihl d okl o (toks (pR r) ++ (tS g :: k)) ho'
        cases hx : toks (pT l) with
        | nil => exact ⟨_, _, _, rfl, fun e => absurd e (by decide)⟩
        | cons a b => exact ⟨_, _, _, rfl, fun e => absurd e (by decide)⟩
      · exact ihl d okl o _ ho'
end Kt
/-! K25: plain: the tokens of statements are read back as those statements -/
namespace Kt
open PySem

/-! ### rows -/
def tailP (sep : List Pc) : List (List Pc) → List Pc
  | [] => []
  | x :: r => sep ++ x ++ tailP sep r
theorem jn_tail (sep : List Pc) : ∀ (x : List Pc) (r : List (List Pc)), jn sep (x :: r) = x ++ tailP sep r
  | x, [] => by show x = x ++ []; rw [List.append_nil]
  | x, y :: r => by
    show x ++ (sep ++ jn sep (y :: r)) = x ++ (sep ++ y ++ tailP sep r)
    rw [jn_tail sep y r, List.append_assoc]
theorem lp_tail {α : Type} {P : Ts → α → Ts → Prop} {pp : α → List Pc} {s : Str} {F : Ts → Prop} (hF : ∀ k, F (tS s :: k)) {k : Ts} (hk : nSg s k) (fk : F k) : ∀ (ys acc : List α), (∀ y ∈ ys, ∀ k, F k → P (toks (pp y) ++ k) y k) →
    Lp s P ys.length acc (toks (tailP [sg s, .sp] (ys.map pp)) ++ k) (acc ++ ys) k
  | [], acc, _ => by
    rw [List.append_nil]
    exact .done hk
  | y :: ys, acc, h => by
    have e : toks (tailP [sg s, .sp] ((y :: ys).map pp)) ++ k = tS s :: (toks (pp y) ++ (toks (tailP [sg s, .sp] (ys.map pp)) ++ k)) := by
      show toks ([sg s, .sp] ++ pp y ++ tailP [sg s, .sp] (ys.map pp)) ++ k = _
      rw [toks_app, toks_app]
      simp [toks]
    rw [e]
    have fol : F (toks (tailP [sg s, .sp] (ys.map pp)) ++ k) := by
      cases ys with
      | nil => exact fk
      | cons z zs => exact hF _
    have n1 := lp_tail hF hk fk ys (acc ++ [y]) fun z hz => h z (List.mem_cons_of_mem _ hz)
    rw [List.append_assoc] at n1
    exact .step (h y (List.mem_cons_self ..) _ fol) n1
/-- a joined row: its first, then the further ones -/
theorem row_back {α : Type} {P : Ts → α → Ts → Prop} {pp : α → List Pc} {s : Str} {F : Ts → Prop} (hF : ∀ k, F (tS s :: k)) {k : Ts} (hk : nSg s k) (fk : F k) {x : α} {ys : List α} (h : ∀ y ∈ x :: ys, ∀ k, F k → P (toks (pp y) ++ k) y k) :
    ∃ r1, P (toks (jn [sg s, .sp] ((x :: ys).map pp)) ++ k) x r1 ∧ Lp s P ys.length [x] r1 (x :: ys) k := by
  refine ⟨toks (tailP [sg s, .sp] (ys.map pp)) ++ k, ?_, lp_tail hF hk fk ys [x] fun z hz => h z (List.mem_cons_of_mem _ hz)⟩
  show P (toks (jn [sg s, .sp] (pp x :: ys.map pp)) ++ k) x _
  rw [jn_tail, toks_app, List.append_assoc]
  refine h x (List.mem_cons_self ..) _ ?_
  cases ys with
  | nil => exact fk
  | cons z zs => exact hF _

/-! ### atoms, conditions -/
theorem toks_pA_app (a : Am) (k : Ts) : toks (pA a) ++ k = tk "name" a.nm :: (if a.ts.length = 0 then k else tS "(" :: (toks (jn [sg ",", .sp] (a.ts.map pT)) ++ (tS ")" :: k))) := by
  unfold pA
  split
  · rfl
  · simp only [toks_app]
    simp [toks, sg]
theorem atom_back {a : Am} (h : a.ok) {k : Ts} (hk : FolC k) : PAtm (toks (pA a) ++ k) a k := by
  obtain ⟨hn, hl, ht⟩ := h
  rw [toks_pA_app]
  refine ⟨_, rfl, nms_kws _ hn, by omega, ?_⟩
  cases e : a.ts with
  | nil => exact .inl ⟨rfl, by simp, by simpa using hk.a⟩
  | cons x ys =>
    refine .inr ?_
    rw [if_neg (by simp)]
    obtain ⟨r1, h1, h2⟩ := row_back (P := PT4) (pp := pT) (s := ",") (F := FolT) (fun k => .sg (by decide)) (k := tS ")" :: k) (nSg_tS (by decide)) (.sg (by decide)) (x := x) (ys := ys) fun y hy k fk => term4 (ht y (by rw [e]; exact hy)) (by omega) fk
    exact ⟨_, _, x, r1, rfl, h1, h2⟩
theorem cms_nons : ∀ g ∈ cms, g ∈ nons ∧ g ≠ "*" ∧ g ≠ "+" ∧ g ≠ "-" := by decide
theorem sgn_fol : ∀ g ∈ [((",") : Str), ";", "}", ".", ":-", ":", "{"], g ∉ nons ∧ g ≠ "(" := by decide
theorem nms_not : ∀ s ∈ nms, s ≠ "not" ∧ s ≠ "sum" ∧ s ∉ kws := by decide
theorem toks_cmp (g : Str) (x y : Tm) (k : Ts) : toks (pC (.cmp g x y)) ++ k = toks (pT x) ++ (tS g :: (toks (pT y) ++ k)) := by
  show toks (pT x ++ [.sp] ++ [sg g] ++ [.sp] ++ pT y) ++ k = _
  simp only [toks_app]
  simp [toks, sg]
theorem cond_back {c : Cd} (h : c.ok) {k : Ts} (hk : FolC k) : PCnd (toks (pC c) ++ k) c k := by
  cases c with
  | no a => exact .inl ⟨toks (pA a) ++ k, a, rfl, atom_back h hk, rfl⟩
  | yes a =>
    have at1 := atom_back h hk
    have e := toks_pA_app a k
    refine .inr (.inl ?_)
    show ∃ n t1 r0 a', toks (pA a) ++ k = _ ∧ _
    by_cases hl : a.ts.length = 0
    · rw [if_pos hl] at e
      obtain ⟨t, r', ek, h1, _⟩ := hk
      exact ⟨a.nm, t, r', a, by rw [e, ek], (nms_not _ h.1).1, h1, at1, rfl⟩
    · rw [if_neg hl] at e
      exact ⟨a.nm, tS "(", _, a, e, (nms_not _ h.1).1, by decide, at1, rfl⟩
  | cmp g x y =>
    obtain ⟨hg, hx, hy⟩ := h
    obtain ⟨g1, g2⟩ := cms_nons g hg
    rw [toks_cmp]
    obtain ⟨t0, t1, r0, e, f⟩ := term_open x 2 hx g (toks (pT y) ++ k) g1
    exact .inr (.inr ⟨t0, t1, r0, g, x, y, toks (pT y) ++ k, e, fun q => ⟨(nms_not _ (f q).1).1, (f q).2⟩, term4 hx (by omega) (.sg g2), hg, term4 hy (by omega) hk.t, rfl⟩)
/-- how a condition's tokens open -/
theorem cond_open {c : Cd} (h : c.ok) (k : Ts) : ∃ t r, toks (pC c) ++ k = t :: r ∧ ¬ (t.1 = "name" ∧ t.2 = "sum") := by
  cases c with
  | no a => exact ⟨_, _, rfl, fun e => absurd e.2 (by decide)⟩
  | yes a =>
    refine ⟨_, _, toks_pA_app a k, fun e => (nms_not _ h.1).2.1 e.2⟩
  | cmp g x y =>
    rw [toks_cmp]
    obtain ⟨t0, t1, r0, e, f⟩ := term_open x 2 h.2.1 g (toks (pT y) ++ k) (cms_nons g h.1).1
    exact ⟨t0, _, e, fun q => (nms_not _ (f q.1).1).2.1 q.2⟩
theorem FolC.of {g : Str} (k : Ts) (h : g ∈ [((",") : Str), ";", "}", ".", ":-", ":", "{"]) : FolC (tS g :: k) := .sg (sgn_fol g h)
structure FolW (k : Ts) : Prop where
  c : FolC k
  n1 : nSg ":" k
  n2 : nSg "," k
theorem toks_pW (x : List Pc) (cs : List Cd) (k : Ts) : toks (pW x cs) ++ k = toks x ++ (if cs.length = 0 then k else tS ":" :: (toks (jn [sg ",", .sp] (cs.map pC)) ++ k)) := by
  unfold pW
  split
  · rfl
  · simp only [toks_app]
    simp [toks, sg]
theorem conds_back {n : Nat} {cs : List Cd} (h : csOk n cs) (hn : n ≤ 1000) {k : Ts} (hk : FolW k) : PCds (if cs.length = 0 then k else tS ":" :: (toks (jn [sg ",", .sp] (cs.map pC)) ++ k)) cs k := by
  cases cs with
  | nil => exact .inl ⟨rfl, rfl, hk.n1⟩
  | cons c ys =>
    rw [if_neg (by simp)]
    obtain ⟨r1, h1, h2⟩ := row_back (P := PCnd) (pp := pC) (s := ",") (F := FolC) (fun k => .of k (by decide)) hk.n2 hk.c (x := c) (ys := ys) fun y hy k fk => cond_back (h.2 y hy) fk
    exact .inr ⟨_, _, c, r1, rfl, h1, h2, Nat.le_trans h.1 hn⟩
theorem conds_fol (cs : List Cd) {k : Ts} (hk : FolC k) : FolC (if cs.length = 0 then k else tS ":" :: (toks (jn [sg ",", .sp] (cs.map pC)) ++ k)) := by
  split
  · exact hk
  · exact .of _ (by decide)

/-! ### members, choices -/
theorem FolW.of {g : Str} (k : Ts) (h : g = ";" ∨ g = "}") : FolW (tS g :: k) := by
  rcases h with h | h <;> subst h
  · exact ⟨.of _ (by decide), nSg_tS (by decide), nSg_tS (by decide)⟩
  · exact ⟨.of _ (by decide), nSg_tS (by decide), nSg_tS (by decide)⟩
theorem member_back {m : Mb} (h : m.ok) {k : Ts} (hk : FolW k) : PMem (toks (pW (pT m.t) m.cs) ++ k) m k := by
  rw [toks_pW]
  exact ⟨_, term4 h.1 (by omega) (conds_fol m.cs hk.c).t, conds_back h.2 (by omega) hk⟩
theorem choice_back {c : Ch} (h : c.ok) {k : Ts} (hk : FolW k) : PCho (toks (pW (pA c.a) c.cs) ++ k) c k := by
  rw [toks_pW]
  exact ⟨_, atom_back h.1 (conds_fol c.cs hk.c), conds_back h.2 (by omega) hk⟩
theorem toks_brace (x : List Pc) (k : Ts) : toks ([sg "{"] ++ x ++ [sg "}"]) ++ k = tS "{" :: (toks x ++ (tS "}" :: k)) := by
  simp only [toks_app]
  simp [toks, sg]
theorem members_back {ms : List Mb} (h : msOk ms) (k : Ts) : PMms (toks (pMs ms) ++ k) ms k := by
  obtain ⟨h1, h2, h3⟩ := h
  cases ms with
  | nil => exact absurd h1 (by simp)
  | cons m ys =>
    unfold pMs
    rw [toks_brace]
    obtain ⟨r1, q1, q2⟩ := row_back (P := PMem) (pp := fun m : Mb => pW (pT m.t) m.cs) (s := ";") (F := FolW) (fun k => .of k (.inl rfl)) (k := tS "}" :: k) (nSg_tS (by decide)) (.of k (.inr rfl)) (x := m) (ys := ys) fun y hy k fk => member_back (h3 y hy) fk
    exact ⟨_, _, m, r1, rfl, q1, q2, by omega⟩
theorem choices_back {cs : List Ch} (h : chOk cs) (k : Ts) : PChs (toks (pCs cs) ++ k) cs k := by
  obtain ⟨h1, h2, h3⟩ := h
  cases cs with
  | nil => exact absurd h1 (by simp)
  | cons m ys =>
    unfold pCs
    rw [toks_brace]
    obtain ⟨r1, q1, q2⟩ := row_back (P := PCho) (pp := fun m : Ch => pW (pA m.a) m.cs) (s := ";") (F := FolW) (fun k => .of k (.inl rfl)) (k := tS "}" :: k) (nSg_tS (by decide)) (.of k (.inr rfl)) (x := m) (ys := ys) fun y hy k fk => choice_back (h3 y hy) fk
    exact ⟨_, _, m, r1, rfl, q1, q2, by omega⟩

/-! ### bodies -/
theorem toks_sum (g : Str) (ms : List Mb) (t : Tm) (k : Ts) : toks (pP (.sum g ms t)) ++ k = tk "name" "sum" :: (toks (pMs ms) ++ (tS g :: (toks (pT t) ++ k))) := by
  show toks ([.tk "name" "sum", .sp] ++ pMs ms ++ [.sp] ++ [sg g] ++ [.sp] ++ pT t) ++ k = _
  simp only [toks_app]
  simp [toks, sg]
theorem part_back {p : Pt} (h : p.ok) {k : Ts} (hk : FolC k) : PPrt (toks (pP p) ++ k) p k := by
  cases p with
  | cd c =>
    obtain ⟨t, r, e, n⟩ := cond_open h k
    exact .inr ⟨t, r, c, e, n, cond_back h hk, rfl⟩
  | sum g ms t =>
    rw [toks_sum]
    exact .inl ⟨_, ms, g, _, t, rfl, members_back h.2.1 _, h.1, term4 h.2.2 (by omega) hk.t, rfl⟩
theorem body_back {n : Nat} {b : List Pt} (h : bOk n b) (hb : 1 ≤ b.length) (hn : n ≤ 1000) {k : Ts} (hk : FolC k) (h2 : nSg "," k) : PBod (toks (pB b) ++ k) b k := by
  cases b with
  | nil => exact absurd hb (by simp)
  | cons x ys =>
    obtain ⟨r1, q1, q2⟩ := row_back (P := PPrt) (pp := pP) (s := ",") (F := FolC) (fun k => .of k (by decide)) h2 hk (x := x) (ys := ys) fun y hy k fk => part_back (h.2 y hy) fk
    exact ⟨_, x, r1, q1, q2, Nat.le_trans h.1 hn⟩
theorem toks_pHb (x : List Pc) (b : List Pt) (k : Ts) : toks (pHb x b) ++ k = toks x ++ (if b.length = 0 then tS "." :: k else tS ":-" :: (toks (pB b) ++ (tS "." :: k))) := by
  unfold pHb
  split
  · simp only [toks_app]
    simp [toks, sg]
  · simp only [toks_app]
    simp [toks, sg]
theorem dotC (k : Ts) : FolC (tS "." :: k) := .of k (by decide)
theorem opb_back {n : Nat} {b : List Pt} (h : bOk n b) (hn : n ≤ 1000) (k : Ts) : POpb (if b.length = 0 then tS "." :: k else tS ":-" :: (toks (pB b) ++ (tS "." :: k))) b (tS "." :: k) := by
  cases b with
  | nil => exact .inl ⟨rfl, rfl, nSg_tS (by decide)⟩
  | cons x ys =>
    rw [if_neg (by simp)]
    exact .inr ⟨_, rfl, body_back h (by simp) hn (dotC k) (nSg_tS (by decide))⟩
theorem opb_fol (b : List Pt) (k : Ts) : FolC (if b.length = 0 then tS "." :: k else tS ":-" :: (toks (pB b) ++ (tS "." :: k))) := by
  split
  · exact dotC k
  · exact .of _ (by decide)
theorem int_back {n : Int} (h : i4 n) (k : Ts) : PInt (tk "int" (dg n) :: k) n k := ⟨_, rfl, (dg_facts h).1, dg_len h⟩

/-! ### statements -/
theorem stm_back {s : Sm} (h : s.ok) (k : Ts) : PStm (toks (pSm s) ++ k) s k := by
  cases s with
  | deny b =>
    refine .inl ⟨toks (pB b) ++ (tS "." :: k), b, ?_, body_back h.2 h.1 (by omega) (dotC k) (nSg_tS (by decide)), rfl⟩
    show toks ([sg ":-", .sp] ++ pB b ++ [sg "."]) ++ k = _
    simp only [toks_app]
    simp [toks, sg]
  | range lo hi =>
    exact .inr (.inl ⟨_, _, lo, hi, rfl, int_back h.1 _, int_back h.2 _, rfl⟩)
  | mini ms =>
    refine .inr (.inr (.inl ⟨toks (pMs ms) ++ (tS "." :: k), ms, ?_, members_back h _, rfl⟩))
    show toks ([.tk "name" "minimize", .sp] ++ pMs ms ++ [sg "."]) ++ k = _
    simp only [toks_app]
    simp [toks, sg]
  | choose lo cs hi b =>
    obtain ⟨h1, h2, h3, h4⟩ := h
    have e : toks (pSm (.choose lo cs hi b)) ++ k = toks (pLo lo) ++ (toks (pCs cs) ++ (toks (pHi hi) ++ (if b.length = 0 then tS "." :: k else tS ":-" :: (toks (pB b) ++ (tS "." :: k))))) := by
      show toks (pHb (pH lo cs hi) b) ++ k = _
      rw [toks_pHb]
      unfold pH
      simp only [toks_app, List.append_assoc]
    have hiOk : POpi (toks (pHi hi) ++ (if b.length = 0 then tS "." :: k else tS ":-" :: (toks (pB b) ++ (tS "." :: k)))) hi (if b.length = 0 then tS "." :: k else tS ":-" :: (toks (pB b) ++ (tS "." :: k))) := by
      cases hi with
      | none =>
        refine .inl ⟨rfl, rfl, ?_⟩
        split
        · exact ⟨_, _, rfl, by show ("sign" : Str) ≠ "int"; decide⟩
        · exact ⟨_, _, rfl, by show ("sign" : Str) ≠ "int"; decide⟩
      | some n => exact .inr ⟨n, rfl, int_back h3 _⟩
    refine .inr (.inr (.inr (.inl ?_)))
    rw [e]
    have chs := choices_back h2 (toks (pHi hi) ++ (if b.length = 0 then tS "." :: k else tS ":-" :: (toks (pB b) ++ (tS "." :: k))))
    have op : ∃ r0, toks (pCs cs) ++ (toks (pHi hi) ++ (if b.length = 0 then tS "." :: k else tS ":-" :: (toks (pB b) ++ (tS "." :: k)))) = tS "{" :: r0 := by
      obtain ⟨_, r0, _, _, e, _⟩ := chs
      exact ⟨r0, e⟩
    cases lo with
    | none =>
      obtain ⟨r0, e0⟩ := op
      exact ⟨_, r0, ⟨none, cs, hi, b⟩, e0, .inr rfl, ⟨_, _, _, .inl ⟨rfl, rfl, _, r0, e0, by show ("sign" : Str) ≠ "int"; decide⟩, chs, hiOk, opb_back h4 (by omega) k⟩, rfl⟩
    | some n =>
      exact ⟨tk "int" (dg n), _, ⟨some n, cs, hi, b⟩, rfl, .inl rfl, ⟨_, _, _, .inr ⟨n, rfl, int_back h1 _⟩, chs, hiOk, opb_back h4 (by omega) k⟩, rfl⟩
  | rule a b =>
    obtain ⟨h1, h2⟩ := h
    have e : toks (pSm (.rule a b)) ++ k = toks (pA a) ++ (if b.length = 0 then tS "." :: k else tS ":-" :: (toks (pB b) ++ (tS "." :: k))) := toks_pHb (pA a) b k
    rw [e]
    exact .inr (.inr (.inr (.inr ⟨a.nm, _, a, _, b, toks_pA_app a _, (nms_not _ h1.1).2.2, atom_back h1 (opb_fol b k), opb_back h2 (by omega) k, rfl⟩)))
theorem prg_back : ∀ ss : List Sm, (∀ s ∈ ss, Sm.ok s) → (∀ s ∈ ss, nWd (toks (pSm s)) ≤ 60) → PPrg (toks (pAll ss) ++ [tk "end" ""]) ss
  | [], _, _ => .nil rfl
  | s :: ss, h, w => by
    have e : toks (pAll (s :: ss)) ++ [tk "end" ""] = toks (pSm s) ++ (toks (pAll ss) ++ [tk "end" ""]) := by
      show toks (pSm s ++ [.nl] ++ pAll ss) ++ _ = _
      simp only [toks_app]
      simp [toks]
    rw [e]
    exact .cons (stm_back (h s (List.mem_cons_self ..)) _) (w s (List.mem_cons_self ..)) (prg_back ss (fun x hx => h x (List.mem_cons_of_mem _ hx)) fun x hx => w x (List.mem_cons_of_mem _ hx))
/-- the fact p(t). -/
def pFact (t : Tm) : List Pc := [.tk "name" "p", sg "("] ++ pT t ++ [sg ")", sg "."]
theorem fact_back {t : Tm} (h : Tm.ok 3 t) (hw : nWd (toks (pFact t)) ≤ 60) : PPrg (toks (pFact t) ++ [tk "end" ""]) [.rule ⟨"p", [t]⟩ []] := by
  refine .cons (r := [tk "end" ""]) ?_ hw (.nil rfl)
  have e : toks (pFact t) ++ [tk "end" ""] = tk "name" "p" :: tS "(" :: (toks (pT t) ++ (tS ")" :: tS "." :: [tk "end" ""])) := by
    show toks ([.tk "name" "p", sg "("] ++ pT t ++ [sg ")", sg "."]) ++ _ = _
    simp only [toks_app]
    simp [toks, sg]
  rw [e]
  refine .inr (.inr (.inr (.inr ⟨"p", _, ⟨"p", [t]⟩, tS "." :: [tk "end" ""], [], rfl, by decide, ?_, .inl ⟨rfl, rfl, nSg_tS (by decide)⟩, rfl⟩)))
  exact ⟨_, rfl, by show ("p" : Str) ∉ kws; decide, by show (1 : Nat) ≤ 4; decide, .inr ⟨0, _, t, _, rfl, term4 h (by omega) (.sg (by decide)), .done (nSg_tS (by decide))⟩⟩
end Kt
/-! K26: plain: written forms are split into their tokens again; words are counted; brackets; lengths -/
namespace Kt
open PySem

/-! ### pieces, one by one -/
def wds : List Str := nms ++ (["not", "sum", "range", "minimize"] : List Str)
def soft : List Str := ["(", ")", "{", "}", ",", ";", "."]
def hard : List Str := [":", ":-", "=", "!=", "<", "<=", ">", ">=", "+", "-", "*"]
def Pok : Pc → Prop
  | .sp => True
  | .nl => True
  | .tk k w => (k = "name" ∧ w ∈ wds) ∨ (k = "var" ∧ w ∈ vrs) ∨ (k = "int" ∧ ∃ n, i4 n ∧ w = dg n) ∨ (k = "sign" ∧ (w ∈ soft ∨ w ∈ hard))
/-- is it a word -/
def isW : Pc → Bool
  | .tk k _ => !decide (k = ("sign" : Str))
  | _ => false
def isSp : Pc → Bool
  | .tk _ _ => false
  | _ => true
/-- nothing, or no word, is ahead -/
def Nw (r : List Pc) : Prop := ∀ q r', r = q :: r' → isW q = false
def Wf : List Pc → Prop
  | [] => True
  | p :: r => Pok p ∧ (isW p = true → Nw r) ∧ (∀ k w, p = .tk k w → w ∈ hard → ∃ q r', r = q :: r' ∧ isSp q = true) ∧ Wf r
theorem isW_sg (s : Str) : isW (sg s) = false := by
  show (!decide (("sign" : Str) = "sign")) = false
  rw [decide_eq_true rfl]
  rfl
theorem nw_nil : Nw [] := fun q r' e => by cases e
theorem nw_sg {s : Str} {r : List Pc} : Nw (sg s :: r) := fun q r' e => by
  obtain rfl := (List.cons.inj e).1
  exact isW_sg s
theorem nw_sp {r : List Pc} : Nw (.sp :: r) := fun q r' e => by
  obtain rfl := (List.cons.inj e).1
  rfl
theorem nw_nl {r : List Pc} : Nw (.nl :: r) := fun q r' e => by
  obtain rfl := (List.cons.inj e).1
  rfl
theorem wf_sp {r : List Pc} (h : Wf r) : Wf (.sp :: r) := ⟨trivial, (fun e => Bool.noConfusion e), (fun k w e => by cases e), h⟩
theorem wf_nl {r : List Pc} (h : Wf r) : Wf (.nl :: r) := ⟨trivial, (fun e => Bool.noConfusion e), (fun k w e => by cases e), h⟩
theorem soft_hard : ∀ s ∈ soft, s ∉ hard := by decide
theorem wf_soft {s : Str} {r : List Pc} (hs : s ∈ soft) (h : Wf r) : Wf (sg s :: r) :=
  ⟨.inr (.inr (.inr ⟨rfl, .inl hs⟩)), fun e => (by rw [isW_sg] at e; cases e), fun k w e hw => (by cases e; exact absurd hw (soft_hard s hs)), h⟩
theorem wf_hard {s : Str} {r : List Pc} (hs : s ∈ hard) (h : Wf r) : Wf (sg s :: .sp :: r) :=
  ⟨.inr (.inr (.inr ⟨rfl, .inr hs⟩)), fun e => (by rw [isW_sg] at e; cases e), fun k w e hw => ⟨_, _, rfl, rfl⟩, wf_sp h⟩
theorem wds_hard : ∀ s ∈ wds, s ∉ hard := by decide +kernel
theorem vrs_hard : ∀ s ∈ vrs, s ∉ hard := by decide
theorem wf_name {s : Str} {r : List Pc} (hs : s ∈ wds) (n : Nw r) (h : Wf r) : Wf (.tk "name" s :: r) := ⟨.inl ⟨rfl, hs⟩, fun _ => n, fun k w e hw => (by cases e; exact absurd hw (wds_hard s hs)), h⟩
theorem wf_var {s : Str} {r : List Pc} (hs : s ∈ vrs) (n : Nw r) (h : Wf r) : Wf (.tk "var" s :: r) := ⟨.inr (.inl ⟨rfl, hs⟩), fun _ => n, fun k w e hw => (by cases e; exact absurd hw (vrs_hard s hs)), h⟩
theorem hard_cd : ∀ s ∈ hard, ∃ c ws, cd s = c :: ws ∧ ¬ (48 ≤ c ∧ c ≤ 57) := by
  intro s hs
  have key : hard.all (fun s => match cd s with | [] => false | c :: _ => !decide (48 ≤ c ∧ c ≤ 57)) = true := by decide +kernel
  have := List.all_eq_true.mp key s hs
  cases e : cd s with
  | nil => simp only [e] at this; cases this
  | cons c ws =>
    simp only [e] at this
    exact ⟨c, ws, rfl, fun q => by rw [decide_eq_true q] at this; cases this⟩
theorem dg_hard {n : Int} (h : i4 n) : dg n ∉ hard := fun hm => by
  obtain ⟨c, ws, e, q⟩ := hard_cd _ hm
  exact q ((dg_facts h).2.1 c (by rw [e]; exact List.mem_cons_self ..))
theorem wf_int {n : Int} {r : List Pc} (hn : i4 n) (m : Nw r) (h : Wf r) : Wf (.tk "int" (dg n) :: r) := ⟨.inr (.inr (.inl ⟨rfl, n, hn, rfl⟩)), fun _ => m, fun k w e hw => (by cases e; exact absurd hw (dg_hard hn)), h⟩

/-! ### forms: what stands ahead of a well written rest -/
def Kw (x : List Pc) : Prop := ∀ y, Wf y → Nw y → Wf (x ++ y)
theorem nms_wds : ∀ s ∈ nms, s ∈ wds := fun s h => List.mem_append_left _ h
theorem ops_hard : ∀ s ∈ ops, s ∈ hard := by decide
theorem cms_hard : ∀ s ∈ cms, s ∈ hard := by decide
theorem kw_par {x : List Pc} (h : Kw x) : Kw (par x) := fun y wy _ => by
  show Wf ([sg "("] ++ x ++ [sg ")"] ++ y)
  rw [List.append_assoc, List.append_assoc]
  exact wf_soft (by decide) (h _ (wf_soft (by decide) wy) nw_sg)
theorem kw_mid {x z : List Pc} {g : Str} (hg : g ∈ hard) (hx : Kw x) (hz : Kw z) : Kw (x ++ [.sp] ++ [sg g] ++ [.sp] ++ z) := fun y wy ny => by
  simp only [List.append_assoc]
  exact hx _ (wf_sp (wf_hard hg (hz y wy ny))) nw_sp
theorem kw_T : ∀ (t : Tm) (d : Nat), Tm.ok d t → Kw (pT t)
  | .int n, d, h => fun y wy ny => wf_int (by cases d <;> exact h) ny wy
  | .sym s, d, h => fun y wy ny => wf_name (nms_wds s (by cases d <;> exact h)) ny wy
  | .var s, d, h => fun y wy ny => wf_var (by cases d <;> exact h) ny wy
  | .op g l r, 0, h => h.elim
  | .op g l r, d + 1, h => by
    have hl := kw_T l d h.2.1
    have hr := kw_T r d h.2.2
    refine kw_mid (ops_hard g h.1) ?_ ?_
    · split
      · exact kw_par hl
      · exact hl
    · split
      · exact kw_par hr
      · exact hr
theorem kw_tail {s : Str} (hs : s ∈ soft) : ∀ xs : List (List Pc), (∀ x ∈ xs, Kw x) → ∀ y, Wf y → Nw y → Wf (tailP [sg s, .sp] xs ++ y) ∧ Nw (tailP [sg s, .sp] xs ++ y)
  | [], _, y, wy, ny => ⟨wy, ny⟩
  | x :: xs, h, y, wy, ny => by
    obtain ⟨a, b⟩ := kw_tail hs xs (fun z hz => h z (List.mem_cons_of_mem _ hz)) y wy ny
    have e : tailP [sg s, .sp] (x :: xs) ++ y = sg s :: .sp :: (x ++ (tailP [sg s, .sp] xs ++ y)) := by
      show [sg s, .sp] ++ x ++ tailP [sg s, .sp] xs ++ y = _
      simp
    rw [e]
    exact ⟨wf_soft hs (wf_sp (h x (List.mem_cons_self ..) _ a b)), nw_sg⟩
theorem kw_jn {s : Str} (hs : s ∈ soft) {xs : List (List Pc)} (h : ∀ x ∈ xs, Kw x) : Kw (jn [sg s, .sp] xs) := fun y wy ny => by
  cases xs with
  | nil => exact wy
  | cons x xs =>
    rw [jn_tail, List.append_assoc]
    obtain ⟨a, b⟩ := kw_tail hs xs (fun z hz => h z (List.mem_cons_of_mem _ hz)) y wy ny
    exact h x (List.mem_cons_self ..) _ a b
theorem kw_jm {α : Type} {s : Str} (hs : s ∈ soft) {xs : List α} {pp : α → List Pc} (h : ∀ x ∈ xs, Kw (pp x)) : Kw (jn [sg s, .sp] (xs.map pp)) := kw_jn hs fun z hz => by
  obtain ⟨x, hx, rfl⟩ := List.mem_map.mp hz
  exact h x hx
theorem kw_A {a : Am} (h : a.ok) : Kw (pA a) := fun y wy ny => by
  unfold pA
  split
  · exact wf_name (nms_wds _ h.1) ny wy
  · simp only [List.append_assoc]
    refine wf_name (nms_wds _ h.1) nw_sg (wf_soft (by decide) (kw_jm (by decide) (fun t ht => kw_T t 2 (h.2.2 t ht)) _ (wf_soft (by decide) wy) nw_sg))
theorem kw_C {c : Cd} (h : c.ok) : Kw (pC c) := by
  cases c with
  | yes a => exact kw_A h
  | no a => exact fun y wy ny => wf_name (by decide) nw_sp (wf_sp (kw_A h y wy ny))
  | cmp g x y => exact kw_mid (cms_hard g h.1) (kw_T x 2 h.2.1) (kw_T y 2 h.2.2)
theorem kw_W {x : List Pc} {n : Nat} {cs : List Cd} (hx : Kw x) (h : csOk n cs) : Kw (pW x cs) := fun y wy ny => by
  unfold pW
  split
  · exact hx y wy ny
  · simp only [List.append_assoc]
    exact hx _ (wf_sp (wf_hard (by decide) (kw_jm (by decide) (fun c hc => kw_C (h.2 c hc)) y wy ny))) nw_sp
/-- a form in braces: anything may follow -/
def Ka (x : List Pc) : Prop := ∀ y, Wf y → Wf (x ++ y)
theorem ka_brace {x : List Pc} (h : Kw x) : Ka ([sg "{"] ++ x ++ [sg "}"]) := fun y wy => by
  simp only [List.append_assoc]
  exact wf_soft (by decide) (h _ (wf_soft (by decide) wy) nw_sg)
theorem ka_Ms {ms : List Mb} (h : msOk ms) : Ka (pMs ms) := ka_brace (kw_jm (by decide) fun m hm => kw_W (kw_T m.t 1 (h.2.2 m hm).1) (h.2.2 m hm).2)
theorem ka_Cs {cs : List Ch} (h : chOk cs) : Ka (pCs cs) := ka_brace (kw_jm (by decide) fun m hm => kw_W (kw_A (h.2.2 m hm).1) (h.2.2 m hm).2)
theorem kw_P {p : Pt} (h : p.ok) : Kw (pP p) := by
  cases p with
  | cd c => exact kw_C h
  | sum g ms t =>
    intro y wy ny
    have hg : g ∈ hard := by rcases h.1 with e | e <;> rw [e] <;> decide
    show Wf ([.tk "name" "sum", .sp] ++ pMs ms ++ [.sp] ++ [sg g] ++ [.sp] ++ pT t ++ y)
    simp only [List.append_assoc]
    exact wf_name (by decide) nw_sp (wf_sp (ka_Ms h.2.1 _ (wf_sp (wf_hard hg (kw_T t 1 h.2.2 y wy ny)))))
theorem kw_B {n : Nat} {b : List Pt} (h : bOk n b) : Kw (pB b) := kw_jm (by decide) fun p hp => kw_P (h.2 p hp)
theorem ka_Lo {o : Option Int} (h : oOk o) : Ka (pLo o) := fun y wy => by
  cases o with
  | none => exact wy
  | some n => exact wf_int h nw_sp (wf_sp wy)
theorem kw_Hi {o : Option Int} (h : oOk o) (y : List Pc) (wy : Wf y) (ny : Nw y) : Wf (pHi o ++ y) ∧ Nw (pHi o ++ y) := by
  cases o with
  | none => exact ⟨wy, ny⟩
  | some n => exact ⟨wf_sp (wf_int h ny wy), nw_sp⟩
theorem ka_Hb {x : List Pc} (hx : ∀ y, Wf y → Nw y → Wf (x ++ y)) {n : Nat} {b : List Pt} (h : bOk n b) : Ka (pHb x b) := fun y wy => by
  unfold pHb
  split
  · simp only [List.append_assoc]
    exact hx _ (wf_soft (by decide) wy) nw_sg
  · simp only [List.append_assoc]
    exact hx _ (wf_sp (wf_hard (by decide) (kw_B h _ (wf_soft (by decide) wy) nw_sg))) nw_sp
theorem ka_Sm {s : Sm} (h : s.ok) : Ka (pSm s) := by
  cases s with
  | rule a b => exact ka_Hb (kw_A h.1) h.2
  | deny b =>
    intro y wy
    show Wf ([sg ":-", .sp] ++ pB b ++ [sg "."] ++ y)
    simp only [List.append_assoc]
    exact wf_hard (by decide) (kw_B h.2 _ (wf_soft (by decide) wy) nw_sg)
  | choose lo cs hi b =>
    refine ka_Hb (fun y wy ny => ?_) h.2.2.2
    unfold pH
    simp only [List.append_assoc]
    exact ka_Lo h.1 _ (ka_Cs h.2.1 _ (kw_Hi h.2.2.1 y wy ny).1)
  | range lo hi =>
    intro y wy
    exact wf_name (by decide) nw_sp (wf_sp (wf_int h.1 nw_sp (wf_sp (wf_int h.2 nw_sg (wf_soft (by decide) wy)))))
  | mini ms =>
    intro y wy
    show Wf ([.tk "name" "minimize", .sp] ++ pMs ms ++ [sg "."] ++ y)
    simp only [List.append_assoc]
    exact wf_name (by decide) nw_sp (wf_sp (ka_Ms h _ (wf_soft (by decide) wy)))
theorem wf_All : ∀ ss : List Sm, (∀ s ∈ ss, Sm.ok s) → Wf (pAll ss)
  | [], _ => trivial
  | s :: ss, h => by
    show Wf (pSm s ++ [.nl] ++ pAll ss)
    rw [List.append_assoc]
    exact ka_Sm (h s (List.mem_cons_self ..)) _ (wf_nl (wf_All ss fun x hx => h x (List.mem_cons_of_mem _ hx)))
theorem wf_Sm {s : Sm} (h : s.ok) : Wf (pSm s) := by
  have := ka_Sm h [] trivial
  rwa [List.append_nil] at this
theorem wf_fact {t : Tm} (h : Tm.ok 3 t) : Wf (pFact t) := by
  show Wf ([.tk "name" "p", sg "("] ++ pT t ++ [sg ")", sg "."])
  rw [List.append_assoc]
  exact wf_name (by decide) nw_sg (wf_soft (by decide) (kw_T t 3 h _ (wf_soft (by decide) (wf_soft (by decide) trivial)) nw_sg))
end Kt
/-! K27: plain: written forms fall into their tokens; words; brackets; lengths; spread texts -/
namespace Kt
open PySem

/-! ### the words' codes -/
theorem all_mem {α : Type} {l : List α} {p : α → Bool} (h : l.all p = true) {x : α} (hx : x ∈ l) : p x = true := List.all_eq_true.mp h x hx
def nmB (low : List Nat) (s : Str) : Bool := match cd s with
  | [] => false
  | c :: ws => decide (c ∈ low) && ws.all (fun x => decide (x ∈ cd wcS)) && decide (ws.length < 20)
theorem nm_of {low : List Nat} {s : Str} (h : nmB low s = true) : ∃ c ws, cd s = c :: ws ∧ c ∈ low ∧ (∀ x ∈ ws, x ∈ cd wcS) ∧ ws.length < 20 := by
  unfold nmB at h
  cases e : cd s with
  | nil => simp only [e] at h; cases h
  | cons c ws =>
    simp only [e, Bool.and_eq_true, decide_eq_true_eq] at h
    exact ⟨c, ws, rfl, h.1.1, fun x hx => of_decide_eq_true (all_mem h.1.2 hx), h.2⟩
theorem wds_nm : wds.all (nmB (cd lowS)) = true := by decide +kernel
theorem vrs_nm : vrs.all (nmB (cd uppS)) = true := by decide +kernel
theorem low_wc : ∀ c ∈ cd lowS, c ∈ cd wcS := by decide +kernel
theorem upp_wc : ∀ c ∈ cd uppS, c ∈ cd wcS := by decide +kernel
theorem dgt_wc : ∀ c ∈ cd dgtS, c ∈ cd wcS := by decide +kernel
theorem wc_sp : ∀ c ∈ cd wcS, c ∉ cd spcS := by decide +kernel
theorem spc_wc : ∀ c ∈ cd spcS, c ∉ cd wcS := by decide +kernel
theorem wc_128 : ∀ c ∈ cd wcS, c < 128 ∧ c ≠ 32 := by decide +kernel
theorem dgt_of {c : Nat} (h : 48 ≤ c ∧ c ≤ 57) : c ∈ cd dgtS := by
  have key : ∀ c, c < 58 → 48 ≤ c → c ∈ cd dgtS := by decide +kernel
  exact key c (by omega) h.1
/-- a sign's codes -/
theorem sign_cd {s : Str} (h : s ∈ soft ∨ s ∈ hard) : ∃ c ws, cd s = c :: ws ∧ (∀ x ∈ c :: ws, x ∉ cd wcS ∧ x < 128 ∧ x ≠ 32) ∧ ws.length < 20 := by
  have key : (soft ++ hard).all (fun s => match cd s with | [] => false | c :: ws => (c :: ws).all (fun x => !decide (x ∈ cd wcS) && decide (x < 128) && !decide (x = 32)) && decide (ws.length < 20)) = true := by decide +kernel
  have q := all_mem key (List.mem_append.mpr h)
  cases e : cd s with
  | nil => simp only [e] at q; cases q
  | cons c ws =>
    simp only [e, Bool.and_eq_true, decide_eq_true_eq] at q
    refine ⟨c, ws, rfl, fun x hx => ?_, q.2⟩
    have q1 := all_mem q.1 hx
    simp only [Bool.and_eq_true, decide_eq_true_eq, Bool.not_eq_true', decide_eq_false_iff_not] at q1
    exact ⟨q1.1.1, q1.1.2, q1.2⟩
/-- a word's codes -/
theorem word_cd {k w : Str} (h : Pok (.tk k w)) (hk : k ≠ "sign") : ∃ c ws, cd w = c :: ws ∧ (∀ x ∈ c :: ws, x ∈ cd wcS) ∧ ws.length < 20 := by
  rcases h with ⟨_, h⟩ | ⟨_, h⟩ | ⟨_, n, hn, rfl⟩ | ⟨e, _⟩
  · obtain ⟨c, ws, e, h1, h2, h3⟩ := nm_of (all_mem wds_nm h)
    exact ⟨c, ws, e, fun x hx => (List.mem_cons.mp hx).elim (fun z => by rw [z]; exact low_wc c h1) (h2 x), h3⟩
  · obtain ⟨c, ws, e, h1, h2, h3⟩ := nm_of (all_mem vrs_nm h)
    exact ⟨c, ws, e, fun x hx => (List.mem_cons.mp hx).elim (fun z => by rw [z]; exact upp_wc c h1) (h2 x), h3⟩
  · obtain ⟨_, h1, h2, h3, _⟩ := dg_facts hn
    cases e : cd (dg n) with
    | nil => exact absurd e h2
    | cons c ws =>
      rw [e] at h1 h3
      refine ⟨c, ws, rfl, fun x hx => dgt_wc x (dgt_of (h1 x hx)), ?_⟩
      rw [List.length_cons] at h3
      omega
  · exact absurd e hk
theorem sign_of {k w : Str} (h : Pok (.tk k w)) (hk : k = "sign") : w ∈ soft ∨ w ∈ hard := by
  subst hk
  rcases h with ⟨e, _⟩ | ⟨e, _⟩ | ⟨e, _⟩ | ⟨_, h⟩
  · exact absurd e (by decide)
  · exact absurd e (by decide)
  · exact absurd e (by decide)
  · exact h
theorem isW_tk {k w : Str} : isW (.tk k w) = true ↔ k ≠ "sign" := by
  show (!decide (k = ("sign" : Str))) = true ↔ _
  simp

/-! ### splitting -/
structure Gap (g : List Nat) : Prop where
  ne : g ≠ []
  sp : ∀ c ∈ g, c ∈ cd spcS
variable {g : List Nat}
theorem head_sp (G : Gap g) {r : List Pc} {q : Pc} (hq : isSp q = true) : ∃ x r', rend g (q :: r) = x :: r' ∧ x ∈ cd spcS := by
  cases q with
  | sp =>
    cases e : g with
    | nil => exact absurd e G.ne
    | cons c t => exact ⟨c, t ++ rend (c :: t) r, rfl, G.sp c (by rw [e]; exact List.mem_cons_self ..)⟩
  | nl => exact ⟨10, _, rfl, by decide +kernel⟩
  | tk k w => cases hq
theorem head_nw (G : Gap g) {r : List Pc} (w : Wf r) (n : Nw r) (x : Nat) (r' : List Nat) (e : rend g r = x :: r') : x ∉ cd wcS := by
  cases r with
  | nil => cases e
  | cons q r =>
    cases hq : isSp q with
    | true =>
      obtain ⟨y, r2, e2, hy⟩ := head_sp G (r := r) hq
      rw [e] at e2
      cases e2
      exact spc_wc x hy
    | false =>
      cases q with
      | sp => cases hq
      | nl => cases hq
      | tk k v =>
        have hk : k = "sign" := by
          have := n _ _ rfl
          by_cases z : k = "sign"
          · exact z
          · rw [isW_tk.mpr z] at this; cases this
        obtain ⟨c, ws, e2, h2, _⟩ := sign_cd (sign_of w.1 hk)
        have e3 : cd v ++ rend g r = x :: r' := e
        rw [e2] at e3
        cases e3
        exact (h2 x (List.mem_cons_self ..)).1
theorem prs_two2 {c x : Nat} (h : sS [c, x] ∈ prs) : c ∈ [58, 33, 60, 62] ∧ x ∉ cd spcS := by
  have key : prs.all (fun s => match cd s with | [c, x] => decide (c ∈ [58, 33, 60, 62]) && !decide (x ∈ cd spcS) | _ => false) = true := by decide +kernel
  have q := all_mem key h
  simp only [cd_sS, Bool.and_eq_true, decide_eq_true_eq, Bool.not_eq_true', decide_eq_false_iff_not] at q
  exact q
theorem soft_one {s : Str} (h : s ∈ soft) : ∃ c, cd s = [c] ∧ c ∈ cd sgnS ∧ c ∉ [58, 33, 60, 62] := by
  have key : soft.all (fun s => match cd s with | [c] => decide (c ∈ cd sgnS) && !decide (c ∈ [58, 33, 60, 62]) | _ => false) = true := by decide +kernel
  have q := all_mem key h
  match e : cd s with
  | [] => simp only [e] at q; cases q
  | [c] =>
    simp only [e, Bool.and_eq_true, decide_eq_true_eq, Bool.not_eq_true', decide_eq_false_iff_not] at q
    exact ⟨c, rfl, q.1, q.2⟩
  | _ :: _ :: _ => simp only [e] at q; cases q
theorem hard_one {s : Str} (h : s ∈ hard) : s ∈ prs ∨ ∃ c, cd s = [c] ∧ c ∈ cd sgnS := by
  have key : hard.all (fun s => decide (s ∈ prs) || match cd s with | [c] => decide (c ∈ cd sgnS) | _ => false) = true := by decide +kernel
  have q := all_mem key h
  rw [Bool.or_eq_true] at q
  rcases q with q | q
  · exact .inl (of_decide_eq_true q)
  · match e : cd s with
    | [] => simp only [e] at q; cases q
    | [c] => simp only [e, decide_eq_true_eq] at q; exact .inr ⟨c, rfl, q⟩
    | _ :: _ :: _ => simp only [e] at q; cases q
theorem lex_gap {r : List Nat} {ts : Ts} (h : Lex r ts) : ∀ g : List Nat, (∀ c ∈ g, c ∈ cd spcS) → Lex (g ++ r) ts
  | [], _ => h
  | c :: g, hg => .spc (hg c (List.mem_cons_self ..)) (lex_gap h g fun x hx => hg x (List.mem_cons_of_mem _ hx))
theorem lex_of (G : Gap g) : ∀ ps : List Pc, Wf ps → Lex (rend g ps) (toks ps)
  | [], _ => .nil
  | .sp :: r, h => lex_gap (lex_of G r h.2.2.2) g G.sp
  | .nl :: r, h => .spc (by decide +kernel) (lex_of G r h.2.2.2)
  | .tk k w :: r, h => by
    obtain ⟨ok, hw, hh, wr⟩ := h
    refine .tok ?_ (lex_of G r wr)
    have nx : k ≠ "sign" → ∀ x r', rend g r = x :: r' → x ∉ cd wcS := fun z => head_nw G wr (hw (isW_tk.mpr z))
    rcases id ok with ⟨rfl, h⟩ | ⟨rfl, h⟩ | ⟨rfl, n, hn, rfl⟩ | ⟨rfl, h⟩
    · obtain ⟨c, ws, e, h1, h2, h3⟩ := nm_of (all_mem wds_nm h)
      exact .name e h1 h2 h3 (nx (by decide))
    · obtain ⟨c, ws, e, h1, h2, h3⟩ := nm_of (all_mem vrs_nm h)
      exact .var e h1 h2 h3 (nx (by decide))
    · obtain ⟨_, h1, h2, h3, h4⟩ := dg_facts hn
      cases e : cd (dg n) with
      | nil => exact absurd e h2
      | cons c ws =>
        rw [e] at h1 h3 h4
        rw [List.length_cons] at h3
        exact .int e (dgt_of (h1 c (List.mem_cons_self ..))) (fun x hx => dgt_of (h1 x (List.mem_cons_of_mem _ hx))) (by omega) (fun z => h4 ws (by rw [z])) fun x r' e2 hx => nx (by decide) x r' e2 (dgt_wc x hx)
    · rcases h with h | h
      · obtain ⟨c, e, h1, h2⟩ := soft_one h
        exact .single e h1 fun x r' _ hp => h2 (prs_two2 hp).1
      · rcases hard_one h with h2 | ⟨c, e, h1⟩
        · exact .pair h2
        · obtain ⟨q, r', er, hq⟩ := hh _ _ rfl h
          refine .single e h1 fun x r2 e2 hp => ?_
          obtain ⟨y, r3, e3, hy⟩ := head_sp G (r := r') hq
          rw [er, e3] at e2
          cases e2
          exact (prs_two2 hp).2 hy

/-! ### words -/
theorem wst_in {c : Nat} (h : c ∈ cd wcS) (n : Nat) (b : Bool) : wst (n, b) c = (if b then n else n + 1, true) := by
  unfold wst
  rw [decide_eq_true h]
  cases b <;> rfl
theorem wst_out {c : Nat} (h : c ∉ cd wcS) (n : Nat) (b : Bool) : wst (n, b) c = (n, false) := by
  unfold wst
  rw [decide_eq_false h]
  rfl
theorem fold_in : ∀ (ws : List Nat) (n : Nat), (∀ x ∈ ws, x ∈ cd wcS) → ws.foldl wst (n, true) = (n, true)
  | [], _, _ => rfl
  | c :: ws, n, h => by
    rw [List.foldl_cons, wst_in (h c (List.mem_cons_self ..))]
    exact fold_in ws n fun x hx => h x (List.mem_cons_of_mem _ hx)
theorem fold_out : ∀ (ws : List Nat) (n : Nat) (b : Bool), ws ≠ [] → (∀ x ∈ ws, x ∉ cd wcS) → ws.foldl wst (n, b) = (n, false)
  | [], _, _, h, _ => absurd rfl h
  | [c], n, b, _, h => wst_out (h c (List.mem_cons_self ..)) n b
  | c :: d :: ws, n, b, _, h => by
    rw [List.foldl_cons, wst_out (h c (List.mem_cons_self ..))]
    exact fold_out (d :: ws) n false (by simp) fun x hx => h x (List.mem_cons_of_mem _ hx)
theorem nWd_cons (t : Tk) (r : Ts) : nWd (t :: r) = (if t.1 = ("sign" : Str) then 0 else 1) + nWd r := by
  unfold nWd
  rw [List.filter_cons]
  by_cases h : t.1 = ("sign" : Str)
  · rw [if_pos h, decide_eq_true h]
    simp
  · rw [if_neg h, decide_eq_false h]
    simp
    omega
theorem count_of (G : Gap g) : ∀ (ps : List Pc), Wf ps → ∀ (n : Nat) (b : Bool), (b = true → Nw ps) → ((rend g ps).foldl wst (n, b)).1 = n + nWd (toks ps)
  | [], _, n, b, _ => rfl
  | .sp :: r, h, n, b, _ => by
    show ((g ++ rend g r).foldl wst (n, b)).1 = n + nWd (toks r)
    rw [List.foldl_append, fold_out g n b G.ne fun x hx => spc_wc x (G.sp x hx)]
    exact count_of G r h.2.2.2 n false fun z => by cases z
  | .nl :: r, h, n, b, _ => by
    show ((10 :: rend g r).foldl wst (n, b)).1 = n + nWd (toks r)
    rw [List.foldl_cons, wst_out (by decide +kernel)]
    exact count_of G r h.2.2.2 n false fun z => by cases z
  | .tk k w :: r, h, n, b, hb => by
    show ((cd w ++ rend g r).foldl wst (n, b)).1 = n + nWd ((k, w) :: toks r)
    rw [List.foldl_append, nWd_cons]
    by_cases hk : k = "sign"
    · rw [if_pos hk]
      obtain ⟨c, ws, e, h1, _⟩ := sign_cd (sign_of h.1 hk)
      rw [fold_out (cd w) n b (by rw [e]; simp) (fun x hx => (h1 x (by rw [← e]; exact hx)).1), count_of G r h.2.2.2 n false fun z => by cases z]
      omega
    · rw [if_neg hk]
      have wk : isW (.tk k w) = true := isW_tk.mpr hk
      have bf : b = false := by
        cases b with
        | false => rfl
        | true => rw [hb rfl _ _ rfl] at wk; cases wk
      obtain ⟨c, ws, e, h1, _⟩ := word_cd h.1 hk
      rw [bf, e, List.foldl_cons, wst_in (h1 c (List.mem_cons_self ..)), fold_in ws _ fun x hx => h1 x (List.mem_cons_of_mem _ hx)]
      show ((rend g r).foldl wst (n + 1, true)).1 = _
      rw [count_of G r h.2.2.2 (n + 1) true fun _ => h.2.1 wk]
      omega
theorem gap1 : Gap [32] := ⟨by simp, by decide +kernel⟩
theorem gaps : ∀ z ∈ [(("  ") : Str), "\n", " \n "], Gap (cd z) := by
  intro z hz
  have key : [(("  ") : Str), "\n", " \n "].all (fun z => !(cd z).isEmpty && (cd z).all fun c => decide (c ∈ cd spcS)) = true := by decide +kernel
  have q := all_mem key hz
  rw [Bool.and_eq_true] at q
  refine ⟨fun e => ?_, fun c hc => of_decide_eq_true (all_mem q.2 hc)⟩
  rw [e] at q
  cases q.1
theorem wcnt_tx {ps : List Pc} (h : Wf ps) : wcnt (cd (tx ps)) = nWd (toks ps) := by
  unfold wcnt tx
  rw [cd_sS, count_of gap1 ps h 0 false fun z => by cases z]
  omega
theorem lex_tx {ps : List Pc} (h : Wf ps) : Lex (cd (tx ps)) (toks ps) := by
  unfold tx
  rw [cd_sS]
  exact lex_of gap1 ps h

/-! ### codes, lengths -/
theorem pok_tk {k w : Str} (h : Pok (.tk k w)) : ∃ c ws, cd w = c :: ws ∧ (∀ x ∈ c :: ws, x < 128 ∧ x ≠ 32) ∧ ws.length < 20 := by
  by_cases hk : k = "sign"
  · obtain ⟨c, ws, e, h1, h2⟩ := sign_cd (sign_of h hk)
    exact ⟨c, ws, e, fun x hx => (h1 x hx).2, h2⟩
  · obtain ⟨c, ws, e, h1, h2⟩ := word_cd h hk
    exact ⟨c, ws, e, fun x hx => wc_128 x (h1 x hx), h2⟩
theorem cds_of : ∀ ps : List Pc, Wf ps → ∀ c ∈ rend [32] ps, c < 128
  | [], _, c, hc => by cases hc
  | .sp :: r, h, c, hc => (List.mem_append.mp (show c ∈ [32] ++ rend [32] r from hc)).elim (fun z => (by decide : (32 : Nat) < 128) |> (List.mem_singleton.mp z).symm.subst (motive := fun c => c < 128)) fun z => cds_of r h.2.2.2 c z
  | .nl :: r, h, c, hc => (List.mem_cons.mp (show c ∈ 10 :: rend [32] r from hc)).elim (fun z => by omega) fun z => cds_of r h.2.2.2 c z
  | .tk k w :: r, h, c, hc => (List.mem_append.mp (show c ∈ cd w ++ rend [32] r from hc)).elim (fun z => by
      obtain ⟨d, ws, e, h1, _⟩ := pok_tk h.1
      rw [e] at z
      exact (h1 c z).1) fun z => cds_of r h.2.2.2 c z
theorem cds_tx {ps : List Pc} (h : Wf ps) : ∀ c ∈ cd (tx ps), c < 128 := by
  unfold tx
  rw [cd_sS]
  exact cds_of ps h
theorem len_of : ∀ ps : List Pc, Wf ps → (rend [32] ps).length ≤ 20 * ps.length
  | [], _ => Nat.le_refl _
  | .sp :: r, h => by
    have := len_of r h.2.2.2
    show ([32] ++ rend [32] r).length ≤ _
    rw [List.length_append, List.length_cons, List.length_cons, List.length_nil]
    omega
  | .nl :: r, h => by
    have := len_of r h.2.2.2
    show (10 :: rend [32] r).length ≤ _
    rw [List.length_cons, List.length_cons]
    omega
  | .tk k w :: r, h => by
    have := len_of r h.2.2.2
    obtain ⟨d, ws, e, _, h2⟩ := pok_tk h.1
    show (cd w ++ rend [32] r).length ≤ _
    rw [List.length_append, e, List.length_cons, List.length_cons]
    omega
theorem len_tx {ps : List Pc} (h : Wf ps) : (tx ps).length ≤ 20 * ps.length := by
  unfold tx
  rw [len_sS]
  exact len_of ps h

/-! ### spread -/
open PySem.StrLaws in
theorem repl_none1 {y z : List Nat} : ∀ (l r : List Nat), (∀ c ∈ l, [c] ≠ y) → y.length = 1 → replL y z (l ++ r) = l ++ replL y z r
  | [], r, _, _ => rfl
  | c :: l, r, h, h1 => by
    have m : ¬ (c :: (l ++ r)).take y.length = y := by
      rw [h1]
      exact h c (List.mem_cons_self ..)
    show replL y z (c :: (l ++ r)) = _
    rw [replL_miss m, repl_none1 l r (fun x hx => h x (List.mem_cons_of_mem _ hx)) h1]
    rfl
open PySem.StrLaws in
theorem spread_of (z : List Nat) : ∀ ps : List Pc, Wf ps → replL [32] z (rend [32] ps) = rend z ps
  | [], _ => rfl
  | .sp :: r, h => by
    show replL [32] z (32 :: rend [32] r) = z ++ rend z r
    rw [replL_hit (by simp) rfl]
    show z ++ replL [32] z (rend [32] r) = _
    rw [spread_of z r h.2.2.2]
  | .nl :: r, h => by
    show replL [32] z ([10] ++ rend [32] r) = [10] ++ rend z r
    rw [repl_none1 [10] _ (by decide) rfl, spread_of z r h.2.2.2]
  | .tk k w :: r, h => by
    obtain ⟨d, ws, e, h1, _⟩ := pok_tk h.1
    show replL [32] z (cd w ++ rend [32] r) = cd w ++ rend z r
    rw [repl_none1 (cd w) _ (fun c hc q => (h1 c (by rw [← e]; exact hc)).2 (List.cons.inj q).1) rfl, spread_of z r h.2.2.2]
theorem spread_tx {ps : List Pc} (h : Wf ps) (z : Str) : Txt.replace (tx ps) " " z = sS (rend (cd z) ps) := by
  refine cd_inj ?_
  rw [cd_sS]
  have e : (Txt.replace (tx ps) " " z).cps.toList = StrLaws.replL (cd " ") (cd z) (cd (tx ps)) := StrLaws.replace_list (by decide)
  show (Txt.replace (tx ps) " " z).cps.toList = _
  rw [e]
  have e2 : cd (" " : Str) = [32] := by decide +kernel
  unfold tx
  rw [e2, cd_sS, spread_of _ ps h]
end Kt
/-! K28: plain: brackets and lengths of written forms; the data is small -/
namespace Kt
open PySem

/-! ### brackets -/
def dsum (ts : Ts) : Int := (ts.map dpt).sum
theorem dsum_app (a b : Ts) : dsum (a ++ b) = dsum a + dsum b := by unfold dsum; rw [List.map_append, List.sum_append]
theorem dsum_cons (t : Tk) (b : Ts) : dsum (t :: b) = dpt t + dsum b := by unfold dsum; rw [List.map_cons, List.sum_cons]
structure Dk (n : Nat) (ts : Ts) : Prop where
  le : ∀ i, dsum (ts.take i) ≤ (n : Int)
  z : dsum ts = 0
theorem Dk.nil (n : Nat) : Dk n [] := ⟨fun i => by rw [List.take_nil]; exact Int.natCast_nonneg n, rfl⟩
theorem Dk.app {n : Nat} {a b : Ts} (ha : Dk n a) (hb : Dk n b) : Dk n (a ++ b) := by
  refine ⟨fun i => ?_, by rw [dsum_app, ha.z, hb.z]; rfl⟩
  rw [List.take_append, dsum_app]
  by_cases h : i ≤ a.length
  · rw [show i - a.length = 0 by omega, List.take_zero]
    have := ha.le i
    show _ + (0 : Int) ≤ _
    omega
  · rw [List.take_of_length_le (by omega), ha.z]
    have := hb.le (i - a.length)
    omega
theorem Dk.one {n : Nat} {t : Tk} (h : dpt t = 0) : Dk n [t] := by
  have e : dsum [t] = 0 := by rw [dsum_cons, h]; rfl
  refine ⟨fun i => ?_, e⟩
  cases i with
  | zero => exact Int.natCast_nonneg n
  | succ i =>
    rw [List.take_of_length_le (by simp), e]
    exact Int.natCast_nonneg n
theorem Dk.mono {n m : Nat} {a : Ts} (h : Dk n a) (k : n ≤ m) : Dk m a := ⟨fun i => by have := h.le i; omega, h.z⟩
theorem dpt_o : dpt (tS "(") = 1 := by decide +kernel
theorem dpt_c : dpt (tS ")") = -1 := by decide +kernel
theorem Dk.par {n : Nat} {x : Ts} (h : Dk n x) : Dk (n + 1) (tS "(" :: (x ++ [tS ")"])) := by
  have e2 : dsum [tS ")"] = -1 := by rw [dsum_cons, dpt_c]; rfl
  refine ⟨fun i => ?_, ?_⟩
  · cases i with
    | zero => exact Int.natCast_nonneg _
    | succ i =>
      rw [List.take_succ_cons, dsum_cons, dpt_o, List.take_append, dsum_app]
      have h1 := h.le i
      have hz := h.z
      by_cases hi : i ≤ x.length
      · rw [show i - x.length = 0 by omega, List.take_zero]
        show 1 + (_ + (0 : Int)) ≤ _
        omega
      · rw [List.take_of_length_le (by omega : x.length ≤ i), List.take_of_length_le (by simp; omega), e2, hz]
        omega
  · rw [dsum_cons, dpt_o, dsum_app, h.z, e2]
    rfl

/-! ### both measures -/
structure Ms (n k : Nat) (ps : List Pc) : Prop where
  d : Dk n (toks ps)
  l : ps.length ≤ k
theorem Ms.nil (n k : Nat) : Ms n k [] := ⟨.nil n, Nat.zero_le _⟩
theorem Ms.app {n k m : Nat} {a b : List Pc} (ha : Ms n k a) (hb : Ms n m b) : Ms n (k + m) (a ++ b) := ⟨by rw [toks_app]; exact ha.d.app hb.d, by rw [List.length_append]; have := ha.l; have := hb.l; omega⟩
theorem Ms.mono {n m k l : Nat} {a : List Pc} (h : Ms n k a) (h1 : n ≤ m) (h2 : k ≤ l) : Ms m l a := ⟨h.d.mono h1, Nat.le_trans h.l h2⟩
theorem Ms.sp {n k : Nat} {r : List Pc} (h : Ms n k r) : Ms n (k + 1) (.sp :: r) := ⟨h.d, Nat.succ_le_succ h.l⟩
theorem Ms.nl {n k : Nat} {r : List Pc} (h : Ms n k r) : Ms n (k + 1) (.nl :: r) := ⟨h.d, Nat.succ_le_succ h.l⟩
theorem Ms.tk {n k : Nat} {t w : Str} {r : List Pc} (h : Ms n k r) (z : dpt (t, w) = 0) : Ms n (k + 1) (.tk t w :: r) := ⟨(Dk.one z).app h.d, Nat.succ_le_succ h.l⟩
theorem dpt_w {k w : Str} (h : k ≠ "sign") : dpt (k, w) = 0 := by
  unfold dpt
  rw [if_neg fun e => h (congrArg Prod.fst e), if_neg fun e => h (congrArg Prod.fst e)]
theorem dpt_s {s : Str} (h : s ≠ "(" ∧ s ≠ ")") : dpt (("sign" : Str), s) = 0 := by
  unfold dpt
  rw [if_neg fun e => h.1 (congrArg Prod.snd e), if_neg fun e => h.2 (congrArg Prod.snd e)]
theorem Ms.w {n k : Nat} {t w : Str} {r : List Pc} (h : Ms n k r) (z : t ≠ "sign" := by decide) : Ms n (k + 1) (.tk t w :: r) := h.tk (dpt_w z)
theorem Ms.s {n k : Nat} {s : Str} {r : List Pc} (h : Ms n k r) (z : s ≠ "(" ∧ s ≠ ")" := by decide) : Ms n (k + 1) (sg s :: r) := h.tk (dpt_s z)
theorem Ms.par {n k : Nat} {x : List Pc} (h : Ms n k x) : Ms (n + 1) (k + 2) (par x) := ⟨by rw [toks_par]; exact h.d.par, by
  show ([sg "("] ++ x ++ [sg ")"]).length ≤ _
  have := h.l
  rw [List.length_append, List.length_append]
  simp
  omega⟩
theorem ms_tail {s : Str} (hs : s ≠ "(" ∧ s ≠ ")") {n k : Nat} : ∀ xs : List (List Pc), (∀ x ∈ xs, Ms n k x) → Ms n (xs.length * (k + 2)) (tailP [sg s, .sp] xs)
  | [], _ => .nil _ _
  | x :: xs, h => by
    have a := ms_tail hs xs fun z hz => h z (List.mem_cons_of_mem _ hz)
    have b := (h x (List.mem_cons_self ..)).app a
    show Ms n ((x :: xs).length * (k + 2)) ([sg s, .sp] ++ x ++ tailP [sg s, .sp] xs)
    rw [List.append_assoc]
    refine (Ms.s (Ms.sp b) hs).mono (Nat.le_refl _) ?_
    rw [List.length_cons, Nat.succ_mul]
    omega
theorem ms_jm {α : Type} {s : Str} (hs : s ≠ "(" ∧ s ≠ ")") {n k m : Nat} {xs : List α} {pp : α → List Pc} (h : ∀ x ∈ xs, Ms n k (pp x)) (hl : xs.length ≤ m) : Ms n (m * (k + 2)) (jn [sg s, .sp] (xs.map pp)) := by
  cases xs with
  | nil => exact .nil _ _
  | cons x xs =>
    show Ms n _ (jn [sg s, .sp] (pp x :: xs.map pp))
    rw [jn_tail]
    have a := ms_tail hs (xs.map pp) fun z hz => by
      obtain ⟨y, hy, rfl⟩ := List.mem_map.mp hz
      exact h y (List.mem_cons_of_mem _ hy)
    refine ((h x (List.mem_cons_self ..)).app a).mono (Nat.le_refl _) ?_
    rw [List.length_map]
    have h2 : (xs.length + 1) * (k + 2) ≤ m * (k + 2) := Nat.mul_le_mul_right _ hl
    rw [Nat.succ_mul] at h2
    omega
theorem ops_par : ∀ g ∈ ops, g ≠ "(" ∧ g ≠ ")" := by decide
theorem cms_par : ∀ g ∈ cms, g ≠ "(" ∧ g ≠ ")" := by decide
theorem ms_mid {n k m : Nat} {x z : List Pc} {g : Str} (hg : g ≠ "(" ∧ g ≠ ")") (hx : Ms n k x) (hz : Ms n m z) : Ms n (k + (m + 3)) (x ++ [.sp] ++ [sg g] ++ [.sp] ++ z) := by
  simp only [List.append_assoc]
  exact hx.app (Ms.sp (Ms.s (Ms.sp hz) hg))
theorem two_pow (d : Nat) : 1 ≤ 2 ^ d := Nat.one_le_two_pow
theorem ms_T : ∀ (t : Tm) (d : Nat), Tm.ok d t → Ms d (8 * 2 ^ d - 7) (pT t)
  | .int n, d, h => (Ms.w (.nil d 0)).mono (Nat.le_refl _) (by have := two_pow d; omega)
  | .sym s, d, h => (Ms.w (.nil d 0)).mono (Nat.le_refl _) (by have := two_pow d; omega)
  | .var s, d, h => (Ms.w (.nil d 0)).mono (Nat.le_refl _) (by have := two_pow d; omega)
  | .op g l r, 0, h => h.elim
  | .op g l r, d + 1, h => by
    have hl := ms_T l d h.2.1
    have hr := ms_T r d h.2.2
    have p2 := two_pow d
    have e2 : 2 ^ (d + 1) = 2 ^ d * 2 := Nat.pow_succ 2 d
    have l2 : Ms (d + 1) (8 * 2 ^ d - 5) (if decide (g = "*") && l.isSum then par (pT l) else pT l) := by
      split
      · exact hl.par.mono (Nat.le_refl _) (by omega)
      · exact hl.mono (by omega) (by omega)
    have r2 : Ms (d + 1) (8 * 2 ^ d - 5) (if r.isOp then par (pT r) else pT r) := by
      split
      · exact hr.par.mono (Nat.le_refl _) (by omega)
      · exact hr.mono (by omega) (by omega)
    exact (ms_mid (ops_par g h.1) l2 r2).mono (Nat.le_refl _) (by omega)
theorem ms_A {a : Am} (h : a.ok) : Ms 3 60 (pA a) := by
  unfold pA
  split
  · exact (Ms.w (.nil 3 0)).mono (Nat.le_refl _) (by omega)
  · have j := ms_jm (s := ",") (by decide) (n := 2) (k := 25) (m := 2) (pp := pT) (fun t ht => ms_T t 2 (h.2.2 t ht)) h.2.1
    have e : [.tk "name" a.nm] ++ [sg "("] ++ jn [sg ",", .sp] (a.ts.map pT) ++ [sg ")"] = .tk "name" a.nm :: par (jn [sg ",", .sp] (a.ts.map pT)) := by
      show _ = .tk "name" a.nm :: ([sg "("] ++ jn [sg ",", .sp] (a.ts.map pT) ++ [sg ")"])
      simp
    rw [e]
    exact (Ms.w j.par).mono (Nat.le_refl _) (by omega)
theorem ms_C {c : Cd} (h : c.ok) : Ms 3 62 (pC c) := by
  cases c with
  | yes a => exact (ms_A h).mono (Nat.le_refl _) (by omega)
  | no a => exact Ms.w (Ms.sp (ms_A h))
  | cmp g x y => exact (ms_mid (cms_par g h.1) ((ms_T x 2 h.2.1).mono (by omega : 2 ≤ 3) (Nat.le_refl _)) ((ms_T y 2 h.2.2).mono (by omega : 2 ≤ 3) (Nat.le_refl _))).mono (Nat.le_refl _) (by omega)
theorem ms_W {x : List Pc} {k n : Nat} {cs : List Cd} (hx : Ms 3 k x) (h : csOk n cs) (hn : n ≤ 1) : Ms 3 (k + 67) (pW x cs) := by
  unfold pW
  split
  · exact hx.mono (Nat.le_refl _) (by omega)
  · simp only [List.append_assoc]
    exact (hx.app (Ms.sp (Ms.s (Ms.sp (ms_jm (s := ",") (by decide) (m := 1) (fun c hc => ms_C (h.2 c hc)) (Nat.le_trans h.1 hn)))))).mono (Nat.le_refl _) (by omega)
theorem ms_brace {n k : Nat} {x : List Pc} (h : Ms n k x) : Ms n (k + 2) ([sg "{"] ++ x ++ [sg "}"]) := by
  simp only [List.append_assoc]
  exact (Ms.s (h.app (Ms.s (.nil n 0)))).mono (Nat.le_refl _) (by omega)
theorem ms_Ms {ms : List Mb} (h : msOk ms) : Ms 3 160 (pMs ms) :=
  (ms_brace (ms_jm (s := ";") (by decide) (m := 2) (k := 76) (fun m hm => (ms_W ((ms_T m.t 1 (h.2.2 m hm).1).mono (by omega : 1 ≤ 3) (Nat.le_refl _)) (h.2.2 m hm).2 (by omega)).mono (Nat.le_refl _) (by omega)) h.2.1)).mono (Nat.le_refl _) (by omega)
theorem ms_Cs {cs : List Ch} (h : chOk cs) : Ms 3 260 (pCs cs) :=
  (ms_brace (ms_jm (s := ";") (by decide) (m := 2) (k := 127) (fun m hm => (ms_W (ms_A (h.2.2 m hm).1) (h.2.2 m hm).2 (by omega)).mono (Nat.le_refl _) (by omega)) h.2.1)).mono (Nat.le_refl _) (by omega)
theorem ms_P {p : Pt} (h : p.ok) : Ms 3 180 (pP p) := by
  cases p with
  | cd c => exact (ms_C h).mono (Nat.le_refl _) (by omega)
  | sum g ms t =>
    have hg : g ≠ "(" ∧ g ≠ ")" := by rcases h.1 with e | e <;> rw [e] <;> decide
    show Ms 3 180 ([.tk "name" "sum", .sp] ++ pMs ms ++ [.sp] ++ [sg g] ++ [.sp] ++ pT t)
    simp only [List.append_assoc]
    exact (Ms.w (Ms.sp ((ms_Ms h.2.1).app (Ms.sp (Ms.s (Ms.sp ((ms_T t 1 h.2.2).mono (by omega : 1 ≤ 3) (Nat.le_refl _))) hg))))).mono (Nat.le_refl _) (by omega)
theorem ms_B {n : Nat} {b : List Pt} (h : bOk n b) (hn : n ≤ 4) : Ms 3 728 (pB b) := ms_jm (s := ",") (by decide) (m := 4) (k := 180) (fun p hp => ms_P (h.2 p hp)) (Nat.le_trans h.1 hn)
theorem ms_Hb {x : List Pc} {k n : Nat} {b : List Pt} (hx : Ms 3 k x) (h : bOk n b) (hn : n ≤ 4) : Ms 3 (k + 732) (pHb x b) := by
  unfold pHb
  split
  · exact (hx.app (Ms.s (.nil 3 0))).mono (Nat.le_refl _) (by omega)
  · simp only [List.append_assoc]
    exact (hx.app (Ms.sp (Ms.s (Ms.sp ((ms_B h hn).app (Ms.s (.nil 3 0))))))).mono (Nat.le_refl _) (by omega)
theorem ms_Lo (o : Option Int) : Ms 3 2 (pLo o) := by
  cases o with
  | none => exact .nil _ _
  | some n => exact (Ms.w (Ms.sp (.nil 3 0)))
theorem ms_Hi (o : Option Int) : Ms 3 2 (pHi o) := by
  cases o with
  | none => exact .nil _ _
  | some n => exact (Ms.sp (Ms.w (.nil 3 0)))
theorem ms_Sm {s : Sm} (h : s.ok) : Ms 3 1000 (pSm s) := by
  cases s with
  | rule a b => exact (ms_Hb (ms_A h.1) h.2 (by omega)).mono (Nat.le_refl _) (by omega)
  | deny b =>
    show Ms 3 1000 ([sg ":-", .sp] ++ pB b ++ [sg "."])
    simp only [List.append_assoc]
    exact (Ms.s (Ms.sp ((ms_B h.2 (by omega)).app (Ms.s (.nil 3 0))))).mono (Nat.le_refl _) (by omega)
  | choose lo cs hi b => exact (ms_Hb (((ms_Lo lo).app (ms_Cs h.2.1)).app (ms_Hi hi)) h.2.2.2 (by omega)).mono (Nat.le_refl _) (by omega)
  | range lo hi => exact (Ms.w (Ms.sp (Ms.w (Ms.sp (Ms.w (Ms.s (.nil 3 0))))))).mono (Nat.le_refl _) (by omega)
  | mini ms =>
    show Ms 3 1000 ([.tk "name" "minimize", .sp] ++ pMs ms ++ [sg "."])
    simp only [List.append_assoc]
    exact (Ms.w (Ms.sp ((ms_Ms h).app (Ms.s (.nil 3 0))))).mono (Nat.le_refl _) (by omega)
theorem ms_All : ∀ ss : List Sm, (∀ s ∈ ss, Sm.ok s) → Ms 3 (1001 * ss.length) (pAll ss)
  | [], _ => .nil _ _
  | s :: ss, h => by
    have a := ms_All ss fun x hx => h x (List.mem_cons_of_mem _ hx)
    show Ms 3 _ (pSm s ++ [.nl] ++ pAll ss)
    rw [List.append_assoc]
    refine ((ms_Sm (h s (List.mem_cons_self ..))).app (Ms.nl a)).mono (Nat.le_refl _) ?_
    rw [List.length_cons]
    omega
theorem ms_fact {t : Tm} (h : Tm.ok 3 t) : Ms 4 64 (pFact t) := by
  have e : pFact t = .tk "name" "p" :: (par (pT t) ++ [sg "."]) := by
    show [.tk "name" "p", sg "("] ++ pT t ++ [sg ")", sg "."] = .tk "name" "p" :: ([sg "("] ++ pT t ++ [sg ")"] ++ [sg "."])
    simp
  rw [e]
  exact (Ms.w ((ms_T t 3 h).par.app (Ms.s (.nil 4 0)))).mono (Nat.le_refl _) (by omega)
theorem deep_of {n k : Nat} {ps : List Pc} (h : Ms n k ps) (hn : n ≤ 10) : deepOk (toks ps ++ [tk "end" ""]) := fun i => by
  have := ((h.d.app (Dk.one (t := tk "end" "") (dpt_w (by decide)))).le i)
  show dsum _ ≤ _
  omega

/-! ### words of the fact -/
theorem nWd_app (a b : Ts) : nWd (a ++ b) = nWd a + nWd b := by unfold nWd; rw [List.filter_append, List.length_append]
theorem nWd_s (s : Str) (r : Ts) : nWd (tS s :: r) = nWd r := by rw [nWd_cons, if_pos rfl]; omega
theorem nWd_1 (s : Str) : nWd [tS s] = 0 := nWd_s s []
theorem nWd_par (x : List Pc) : nWd (toks (par x)) = nWd (toks x) := by rw [toks_par, nWd_s, nWd_app, nWd_1]; omega
theorem nWd_T : ∀ (t : Tm) (d : Nat), Tm.ok d t → nWd (toks (pT t)) ≤ 2 ^ d
  | .int n, d, h => by show nWd [tk "int" (dg n)] ≤ _; rw [nWd_cons, if_neg (by show ("int" : Str) ≠ "sign"; decide)]; exact two_pow d
  | .sym s, d, h => by show nWd [tk "name" s] ≤ _; rw [nWd_cons, if_neg (by show ("name" : Str) ≠ "sign"; decide)]; exact two_pow d
  | .var s, d, h => by show nWd [tk "var" s] ≤ _; rw [nWd_cons, if_neg (by show ("var" : Str) ≠ "sign"; decide)]; exact two_pow d
  | .op g l r, 0, h => h.elim
  | .op g l r, d + 1, h => by
    have hl := nWd_T l d h.2.1
    have hr := nWd_T r d h.2.2
    have e2 : 2 ^ (d + 1) = 2 ^ d * 2 := Nat.pow_succ 2 d
    have e := toks_op g l r []
    rw [List.append_nil, List.append_nil] at e
    rw [e, nWd_app, nWd_s]
    have el : nWd (toks (pL g l)) = nWd (toks (pT l)) := by
      unfold pL
      split
      · exact nWd_par _
      · rfl
    have er : nWd (toks (pR r)) = nWd (toks (pT r)) := by
      unfold pR
      split
      · exact nWd_par _
      · rfl
    omega
theorem nWd_fact {t : Tm} (h : Tm.ok 3 t) : nWd (toks (pFact t)) ≤ 60 := by
  have := nWd_T t 3 h
  have e : toks (pFact t) = tk "name" "p" :: tS "(" :: (toks (pT t) ++ [tS ")", tS "."]) := by
    show toks ([.tk "name" "p", sg "("] ++ pT t ++ [sg ")", sg "."]) = _
    simp only [toks_app]
    simp [toks, sg]
  rw [e, nWd_cons, nWd_s, nWd_app, nWd_s, nWd_1, if_neg (by show ("name" : Str) ≠ "sign"; decide)]
  omega

/-! ### the data -/
structure Gd (p w : Nat) (d : PyData) : Prop where
  lay : d.canLay0 = true
  sho : d.showable = true
  ish : d.intsShort 13 = true
  dep : d.depth ≤ p
  wei : d.weight ≤ w
structure Gs (p w : Nat) (ds : List PyData) : Prop where
  lay : PyData.canLayAll0 ds = true
  sho : PyData.showableAll ds = true
  ish : PyData.intsShortAll 13 ds = true
  dep : PyData.depthAll ds ≤ p
  wei : PyData.weightAll ds ≤ w
theorem Gs.nil {p w : Nat} : Gs p w [] := ⟨by simp only [PyData.canLayAll0], by simp only [PyData.showableAll], by simp only [PyData.intsShortAll], by simp only [PyData.depthAll]; omega, by simp only [PyData.weightAll]; omega⟩
theorem Gs.cons {p w v : Nat} {d : PyData} {ds : List PyData} (a : Gd p w d) (b : Gs p v ds) : Gs p (w + 1 + v) (d :: ds) :=
  ⟨by simp only [PyData.canLayAll0, a.lay, b.lay, Bool.and_self], by simp only [PyData.showableAll, a.sho, b.sho, Bool.and_self], by simp only [PyData.intsShortAll, a.ish, b.ish, Bool.and_self],
    by simp only [PyData.depthAll]; exact Nat.max_le.mpr ⟨a.dep, b.dep⟩, by simp only [PyData.weightAll]; have := a.wei; have := b.wei; omega⟩
theorem Gs.all {p w : Nat} : ∀ {ds : List PyData} {n : Nat}, (∀ d ∈ ds, Gd p w d) → ds.length ≤ n → Gs p (n * (w + 1)) ds
  | [], n, _, _ => .nil
  | d :: ds, 0, _, h => absurd h (by simp)
  | d :: ds, n + 1, h, l => by
    have a := Gs.cons (h d (List.mem_cons_self ..)) (Gs.all (n := n) (fun x hx => h x (List.mem_cons_of_mem _ hx)) (Nat.le_of_succ_le_succ l))
    rw [Nat.succ_mul]
    exact ⟨a.lay, a.sho, a.ish, a.dep, by have := a.wei; omega⟩
theorem Gd.tup {p w : Nat} {ds : List PyData} (a : Gs p w ds) : Gd (p + 1) w (.tuple ds) := ⟨by simp only [PyData.canLay0, a.lay], by simp only [PyData.showable, a.sho], by simp only [PyData.intsShort, a.ish], by simp only [PyData.depth]; have := a.dep; omega, by simp only [PyData.weight]; exact a.wei⟩
theorem Gd.lst {p w : Nat} {ds : List PyData} (a : Gs p w ds) : Gd (p + 1) w (.list ds) := ⟨by simp only [PyData.canLay0, a.lay], by simp only [PyData.showable, a.sho], by simp only [PyData.intsShort, a.ish], by simp only [PyData.depth]; have := a.dep; omega, by simp only [PyData.weight]; exact a.wei⟩
theorem Gd.mono {p q w v : Nat} {d : PyData} (a : Gd p w d) (h1 : p ≤ q) (h2 : w ≤ v) : Gd q v d := ⟨a.lay, a.sho, a.ish, Nat.le_trans a.dep h1, Nat.le_trans a.wei h2⟩
theorem Gd.non {p w : Nat} : Gd p w .none := ⟨by simp only [PyData.canLay0], by simp only [PyData.showable], by simp only [PyData.intsShort], by simp only [PyData.depth]; omega, by simp only [PyData.weight]; omega⟩
theorem Gd.str {p w : Nat} {s : Str} (h : PyData.strOk s = true) (l : s.length ≤ w) : Gd p w (.str s) := ⟨by simp only [PyData.canLay0, h], by simp only [PyData.showable], by simp only [PyData.intsShort], by simp only [PyData.depth]; omega, by simp only [PyData.weight]; exact l⟩
theorem Gd.int {p : Nat} {n : Int} (h : i4 n) : Gd p 14 (.int n) := by
  have lg : n.natAbs.log2 ≤ 13 := by
    obtain ⟨m, rfl, hm⟩ := i4_nat h
    have e : ((m : Int)).natAbs = m := Int.natAbs_natCast m
    rw [e]
    by_cases z : m = 0
    · subst z; decide
    · have := (Nat.log2_lt (n := m) (k := 14) z).mpr (by omega)
      omega
  refine ⟨by simp only [PyData.canLay0], ?_, ?_, by simp only [PyData.depth]; omega, ?_⟩
  · simp only [PyData.showable, decide_eq_true_eq]; omega
  · simp only [PyData.intsShort, PyData.shown]
    have := (dg_facts h).2.2.2.1
    refine decide_eq_true ?_
    show (dg n).length ≤ 13
    rw [len_cd]
    omega
  · simp only [PyData.weight]
    split <;> omega
def stK (w : Nat) (s : Str) : Bool := PyData.strOk s && decide (s.length ≤ w)
theorem Gd.st {p w : Nat} {s : Str} (h : stK w s = true) : Gd p w (.str s) := by
  unfold stK at h
  rw [Bool.and_eq_true, decide_eq_true_eq] at h
  exact .str h.1 h.2
theorem nms_st : nms.all (stK 20) = true := by decide +kernel
theorem vrs_st : vrs.all (stK 10) = true := by decide +kernel
theorem ops_st : ops.all (stK 2) = true := by decide +kernel
theorem cms_st : cms.all (stK 2) = true := by decide +kernel
theorem gd_T : ∀ (t : Tm) (d : Nat), Tm.ok d t → Gd (d + 1) (37 * 2 ^ d - 8) t.enc
  | .int n, d, h => (Gd.tup (.cons (.st (w := 4) (by decide +kernel)) (.cons (.int (by cases d <;> exact h)) .nil))).mono (by omega : 0 + 1 ≤ d + 1) (by have := two_pow d; omega : 4 + 1 + (14 + 1 + 0) ≤ _)
  | .sym s, d, h => (Gd.tup (.cons (.st (w := 4) (by decide +kernel)) (.cons (.st (w := 20) (all_mem nms_st (by cases d <;> exact h))) .nil))).mono (by omega : 0 + 1 ≤ d + 1) (by have := two_pow d; omega : 4 + 1 + (20 + 1 + 0) ≤ _)
  | .var s, d, h => (Gd.tup (.cons (.st (w := 4) (by decide +kernel)) (.cons (.st (w := 10) (all_mem vrs_st (by cases d <;> exact h))) .nil))).mono (by omega : 0 + 1 ≤ d + 1) (by have := two_pow d; omega : 4 + 1 + (10 + 1 + 0) ≤ _)
  | .op g l r, 0, h => h.elim
  | .op g l r, d + 1, h => by
    have p2 := two_pow d
    have e2 : 2 ^ (d + 1) = 2 ^ d * 2 := Nat.pow_succ 2 d
    have hl := gd_T l d h.2.1
    have hr := gd_T r d h.2.2
    exact (Gd.tup (.cons (.st (w := 2) (by decide +kernel)) (.cons (.st (w := 2) (all_mem ops_st h.1)) (.cons hl (.cons hr (.nil (w := 0))))))).mono (Nat.le_refl _) (by omega)
theorem gd_map {α : Type} {p w n : Nat} {xs : List α} {f : α → PyData} (h : ∀ x ∈ xs, Gd p w (f x)) (l : xs.length ≤ n) : Gd (p + 1) (n * (w + 1)) (.list (xs.map f)) :=
  .lst (Gs.all (fun d hd => by
    obtain ⟨x, hx, rfl⟩ := List.mem_map.mp hd
    exact h x hx) (by rw [List.length_map]; exact l))
theorem Gd.up {p q w : Nat} {d : PyData} (a : Gd p w d) (h : p ≤ q) : Gd q w d := a.mono h (Nat.le_refl _)
theorem gd_A {a : Am} (h : a.ok) : Gd 5 400 a.enc :=
  (Gd.tup (p := 4) (.cons (.st (w := 5) (by decide +kernel)) (.cons (.st (w := 20) (all_mem nms_st h.1)) (.cons (gd_map (fun t ht => gd_T t 2 (h.2.2 t ht)) h.2.1) (.nil (w := 0)))))).mono (Nat.le_refl _) (by omega)
theorem gd_C {c : Cd} (h : c.ok) : Gd 6 420 c.enc := by
  cases c with
  | yes a => exact (Gd.tup (p := 5) (.cons (.st (w := 5) (by decide +kernel)) (.cons (gd_A h) (.nil (w := 0))))).mono (Nat.le_refl _) (by omega)
  | no a => exact (Gd.tup (p := 5) (.cons (.st (w := 5) (by decide +kernel)) (.cons (gd_A h) (.nil (w := 0))))).mono (Nat.le_refl _) (by omega)
  | cmp g x y => exact (Gd.tup (p := 5) (.cons (.st (w := 7) (by decide +kernel)) (.cons (.st (w := 2) (all_mem cms_st h.1)) (.cons ((gd_T x 2 h.2.1).up (by omega)) (.cons ((gd_T y 2 h.2.2).up (by omega)) (.nil (w := 0))))))).mono (Nat.le_refl _) (by omega)
theorem gd_cs {n : Nat} {cs : List Cd} (h : csOk n cs) (hn : n ≤ 1) : Gd 7 421 (.list (cs.map Cd.enc)) := (gd_map (n := 1) (fun c hc => gd_C (h.2 c hc)) (Nat.le_trans h.1 hn)).mono (Nat.le_refl _) (by omega)
theorem gd_Mb {m : Mb} (h : m.ok) : Gd 8 600 m.enc := (Gd.tup (p := 7) (.cons (.st (w := 6) (by decide +kernel)) (.cons ((gd_T m.t 1 h.1).up (by omega)) (.cons (gd_cs h.2 (by omega)) (.nil (w := 0)))))).mono (Nat.le_refl _) (by omega)
theorem gd_Ch {c : Ch} (h : c.ok) : Gd 8 900 c.enc := (Gd.tup (p := 7) (.cons (.st (w := 6) (by decide +kernel)) (.cons ((gd_A h.1).up (by omega)) (.cons (gd_cs h.2 (by omega)) (.nil (w := 0)))))).mono (Nat.le_refl _) (by omega)
theorem gd_ms {ms : List Mb} (h : msOk ms) : Gd 9 1300 (.list (ms.map Mb.enc)) := (gd_map (n := 2) (fun m hm => gd_Mb (h.2.2 m hm)) h.2.1).mono (Nat.le_refl _) (by omega)
theorem gd_P {p : Pt} (h : p.ok) : Gd 10 1500 p.enc := by
  cases p with
  | cd c => exact (gd_C h).mono (by omega) (by omega)
  | sum g ms t =>
    have hg : g ∈ cms := by rcases h.1 with e | e <;> rw [e] <;> decide
    exact (Gd.tup (p := 9) (.cons (.st (w := 3) (by decide +kernel)) (.cons (.st (w := 2) (all_mem cms_st hg)) (.cons (gd_ms h.2.1) (.cons ((gd_T t 1 h.2.2).up (by omega)) (.nil (w := 0))))))).mono (Nat.le_refl _) (by omega)
theorem gd_b {n : Nat} {b : List Pt} (h : bOk n b) (hn : n ≤ 4) : Gd 11 6004 (.list (b.map Pt.enc)) := gd_map (n := 4) (fun p hp => gd_P (h.2 p hp)) (Nat.le_trans h.1 hn)
theorem gd_o {o : Option Int} (h : oOk o) : Gd 11 14 (oI o) := by
  cases o with
  | none => exact .non
  | some n => exact .int h
theorem gd_Sm {s : Sm} (h : s.ok) : Gd 12 9000 s.enc := by
  cases s with
  | rule a b => exact (Gd.tup (p := 11) (.cons (.st (w := 8) (by decide +kernel)) (.cons ((gd_A h.1).up (by omega)) (.cons (gd_b h.2 (by omega)) (.nil (w := 0)))))).mono (Nat.le_refl _) (by omega)
  | deny b => exact (Gd.tup (p := 11) (.cons (.st (w := 8) (by decide +kernel)) (.cons (gd_b h.2 (by omega)) (.nil (w := 0))))).mono (Nat.le_refl _) (by omega)
  | choose lo cs hi b =>
    exact (Gd.tup (p := 11) (.cons (.st (w := 8) (by decide +kernel)) (.cons (gd_o h.1) (.cons ((gd_map (n := 2) (fun c hc => gd_Ch (h.2.1.2.2 c hc)) h.2.1.2.1).up (by omega)) (.cons (gd_o h.2.2.1) (.cons (gd_b h.2.2.2 (by omega)) (.nil (w := 0)))))))).mono (Nat.le_refl _) (by omega)
  | range lo hi => exact (Gd.tup (p := 11) (.cons (.st (w := 8) (by decide +kernel)) (.cons (.int h.1) (.cons (.int h.2) (.nil (w := 0)))))).mono (Nat.le_refl _) (by omega)
  | mini ms => exact (Gd.tup (p := 11) (.cons (.st (w := 8) (by decide +kernel)) (.cons ((gd_ms h).up (by omega)) (.nil (w := 0))))).mono (Nat.le_refl _) (by omega)
theorem gd_All {ss : List Sm} (h : ∀ s ∈ ss, Sm.ok s) (l : ss.length ≤ 8) : Gd 13 100000 (.list (ss.map Sm.enc)) := (gd_map (n := 8) (fun s hs => gd_Sm (h s hs)) l).mono (Nat.le_refl _) (by omega)
theorem Gd.shaped {p w : Nat} {d : PyData} (a : Gd p w d) (hp : p ≤ 60) : SeqAt.shaped d = true := by
  show (d.canLay0 && decide (d.depth ≤ 64)) = true
  have := a.dep
  rw [a.lay, decide_eq_true (by omega)]
  rfl
theorem Gd.eqv {p w : Nat} {d : PyData} (a : Gd p w d) : PyData.eqv d d = true := SeqAt.eqv_refl d a.lay
theorem Gd.shown {p w : Nat} {d : PyData} (a : Gd p w d) (hp : p ≤ 60) (hw : w ≤ 1000000) : d.showable = true ∧ d.hasDict = false ∧ d.depth ≤ 60 ∧ d.shown.length ≤ sizeLine := by
  refine ⟨a.sho, PyData.hasDict_of_canLay d a.lay, Nat.le_trans a.dep hp, ?_⟩
  have l0 : PyData.layable0 d = true := by
    unfold PyData.layable0
    have := a.dep
    have := a.wei
    rw [a.lay, decide_eq_true (by omega), decide_eq_true (by omega)]
    rfl
  exact Nat.le_trans (PyProof.Rows.shown_le13 l0 a.ish) (by decide)
/-- the fact's data -/
theorem gd_fact {t : Tm} (h : Tm.ok 3 t) : Gd 8 1000 (.list [(Sm.rule ⟨"p", [t]⟩ []).enc]) := by
  have tl : Gd 5 400 (.list [t.enc]) := (Gd.lst (.cons (gd_T t 3 h) (.nil (w := 0)))).mono (Nat.le_refl _) (by omega)
  have at1 : Gd 6 500 (Am.enc ⟨"p", [t]⟩) := (Gd.tup (p := 5) (.cons (.st (w := 5) (by decide +kernel)) (.cons (.st (w := 5) (by show stK 5 ("p" : Str) = true; decide +kernel)) (.cons tl (.nil (w := 0)))))).mono (Nat.le_refl _) (by omega)
  have st : Gd 7 600 (Sm.rule ⟨"p", [t]⟩ []).enc := (Gd.tup (p := 6) (.cons (.st (w := 5) (by decide +kernel)) (.cons at1 (.cons (Gd.lst (p := 5) (.nil (w := 0))) (.nil (w := 0)))))).mono (Nat.le_refl _) (by omega)
  exact (Gd.lst (.cons st (.nil (w := 0)))).mono (Nat.le_refl _) (by omega)
end Kt
/-! K29: plain: how a written statement opens -/
namespace Kt
open PySem
theorem starts_self (a y : Str) : Txt.startswith (a ++ y) a = true := by
  have la : a.cps.toList.length = a.length := Array.length_toList
  have e : (a ++ y).cps.toList = a.cps.toList ++ y.cps.toList := cd_app a y
  unfold Txt.startswith
  rw [StrLaws.subAt_eq, e, List.drop_zero, ← la, List.take_left, decide_eq_true (by rw [len_app]; omega)]
  simp
theorem opens_rule (a : Am) (b : List Pt) : ∃ y, tx (pSm (.rule a b)) = tx (pA a) ++ y := by
  show ∃ y, tx (pHb (pA a) b) = _
  unfold pHb
  split
  · exact ⟨_, tx_app _ _⟩
  · simp only [List.append_assoc]
    exact ⟨_, tx_app _ _⟩
theorem opens_deny (c : Cd) (r : List Pt) : ∃ y, tx (pSm (.deny (.cd c :: r))) = (":- " : Str) ++ tx (pC c) ++ y := by
  have e0 : tx [sg ":-", .sp] = (":- " : Str) := by decide +kernel
  have e : pSm (.deny (.cd c :: r)) = [sg ":-", .sp] ++ pC c ++ (tailP [sg ",", .sp] (r.map pP) ++ [sg "."]) := by
    show [sg ":-", .sp] ++ jn [sg ",", .sp] (pC c :: r.map pP) ++ [sg "."] = _
    rw [jn_tail]
    simp only [List.append_assoc]
  rw [e, tx_app, tx_app, e0]
  exact ⟨_, rfl⟩
theorem starts_rule (a : Am) (b : List Pt) : Txt.startswith (tx (pSm (.rule a b))) (tx (pA a)) = true := by
  obtain ⟨y, e⟩ := opens_rule a b
  rw [e]
  exact starts_self _ y
theorem starts_deny (c : Cd) (r : List Pt) : Txt.startswith (tx (pSm (.deny (.cd c :: r)))) ((":- " : Str) ++ tx (pC c)) = true := by
  obtain ⟨y, e⟩ := opens_deny c r
  rw [e]
  exact starts_self _ y
end Kt
/-! K30: the law itself walked -/
namespace Kt
open PySem L2
theorem StAt.same {H H' : Hp} {S C : Addr} (h : StAt H S C) (s : Same H H') : StAt H' S C := by
  obtain ⟨cs, m, q, e1, e2, r⟩ := h.ob
  exact ⟨cs, m, q, s S _ e1, s C _ e2, r⟩
theorem szM2' {n : Nat} (h : n ≤ 1000010) : n ≤ sizeLine := Nat.le_trans h (by decide)
theorem lenT2 {t : Tm} (h : Tm.ok 3 t) : (tx (pT t)).length ≤ 1200 := by
  have := len_tx (ps := pT t) (by have := kw_T t 3 h [] trivial nw_nil; rwa [List.append_nil] at this)
  have : (pT t).length ≤ 57 := (ms_T t 3 h).l
  omega
theorem lenT {t : Tm} (h : Tm.ok 3 t) : (tx (pT t)).length ≤ 1000000 := Nat.le_trans (lenT2 h) (by decide)
theorem tx_fact (t : Tm) : tx (pFact t) = ("p(" : Str) ++ tx (pT t) ++ (")." : Str) := by
  have e1 : tx [.tk "name" "p", sg "("] = ("p(" : Str) := by decide +kernel
  have e2 : tx [sg ")", sg "."] = (")." : Str) := by decide +kernel
  show tx ([.tk "name" "p", sg "("] ++ pT t ++ [sg ")", sg "."]) = _
  rw [tx_app, tx_app, e1, e2]
theorem lenF {t : Tm} (h : Tm.ok 3 t) : (tx (pFact t)).length ≤ 4000 := by
  have := len_tx (wf_fact h)
  have := (ms_fact h).l
  omega
/-- the law keeps statements of at most 60 words -/
def pS (s : Sm) : Bool := decide (nWd (toks (pSm s)) ≤ 60)
theorem len_Sm {s : Sm} (h : s.ok) : (tx (pSm s)).length ≤ 1000000 := by
  have := len_tx (wf_Sm h)
  have := (ms_Sm h).l
  omega
section
variable {P : Program} {w : World} {K : PySem.W.Frag} {mg : Str → Option Value} {base : Heap} (T : Txt K mg)
include T
theorem law_walk (G_law_state : FnOk P w K mg base CX0 1 T.law_state.f T.law_state.fd P_law_state (spState K)) (G_law_draw : FnOk P w K mg base CX0 1 T.law_draw.f T.law_draw.fd P_law_draw spDraw) (G_law_statement : FnOk P w K mg base CX0 11 T.law_statement.f T.law_statement.fd P_law_statement spSm) (G_law_size : FnOk P w K mg base CX0 1 T.law_size.f T.law_size.fd P_law_size spSize) (G_law_term : FnOk P w K mg base CX0 6 T.law_term.f T.law_term.fd P_law_term (spTm 4)) (G_format_statement : FnOk P w K mg base CX0 11 T.format_statement.f T.format_statement.fd P_format_statement (spF Sm.enc pSm Sm.ok)) (G_format_text : FnOk P w K mg base CX0 12 T.format_text.f T.format_text.fd P_format_text (spF (fun ss : List Sm => .list (ss.map Sm.enc)) pAll ssOk)) (G_format_atom : FnOk P w K mg base CX0 5 T.format_atom.f T.format_atom.fd P_format_atom (spF Am.enc pA Am.ok)) (G_format_condition : FnOk P w K mg base CX0 6 T.format_condition.f T.format_condition.fd P_format_condition (spF Cd.enc pC Cd.ok)) (G_format_term : FnOk P w K mg base CX0 4 T.format_term.f T.format_term.fd P_format_term (spFT 4)) (G_parse : FnOk P w K mg base CX0 26 T.parse.f T.parse.fd P_parse spParse)
    {cdv : Value} {A : Around} {outer : List Env} {s : Shared} {H : Hp} {E : XK} {a : Addr} {ns : List Int} (hr : Room 39 (A.deeper (PyProof.Rows.envOfC "law" (defScope s_law) s.heap.objs.size T.law.f cdv))) (hG : (A.deeper (PyProof.Rows.envOfC "law" (defScope s_law) s.heap.objs.size T.law.f cdv)).guards = some [])
    (hS : SqL K H a (ns.map V.int)) (hn : ns.length ≤ 63) :
    ∃ t, PSs (cxOf CX0 P w K mg base N_law "law" (defScope s_law) T.law.f cdv A outer s H E).nox (defBody s_law) t ∧ t { nx := fun _ H' => V.non = V.bl true, rt := fun v _ => v = .bl true } (start N_law [.ref a]) H := by
  refine ⟨_, (pss_cons (ps_set (i := 1) sc_law.nd rfl (Or.inr rfl) (pe_call G_law_state (hr.mono (by omega)) (by rfl) T.law_state.m T.law_state.F.kp T.law_state.b .nil pass0 (pa_cons (pv 0) pa_nil)))
      (pss_cons (ps_setLc (i := 2) (own := [("_law_k", 10)]) (g := gName 10) (by rfl) sc_law.nd rfl rfl (sw_true rfl rfl rfl (by decide +kernel)) (pi_range1 (by rfl) T.zrange (pa_cons (pe_call G_law_draw (hr.mono (by omega)) (by rfl) T.law_draw.m T.law_draw.F.kp T.law_draw.b .nil pass0 (pa_cons (pv 1) (pa_cons pe_int pa_nil))) pa_nil)) (blkOk_by (own := [("_law_k", 10)]) (N := N_law) (sc := defScope s_law) (by decide +kernel)) (fun _ _ _ _ _ => pg_name (i := 10) sc_law.nd rfl (Or.inl rfl)) (fun _ _ _ _ _ => pts_nil) (fun _ _ _ _ _ => (pe_call G_law_statement (hr.mono (by omega)) (by rfl) T.law_statement.m T.law_statement.F.kp T.law_statement.b .nil pass0 (pa_cons (pv 1) pa_nil))))
      (pss_cons (ps_setLc (i := 2) (own := [("_law_one", 3)]) (g := gName 3) (by rfl) sc_law.nd rfl rfl (sw_true rfl rfl rfl (by decide +kernel)) (pi_list (pv 2)) (blkOk_by (own := [("_law_one", 3)]) (N := N_law) (sc := defScope s_law) (by decide +kernel)) (fun _ _ _ _ _ => pg_name (i := 3) sc_law.nd rfl (Or.inl rfl)) (fun _ _ _ _ _ => (pts_one (pt_cmpR op_le (pe_call G_law_size (hr.mono (by omega)) (by rfl) T.law_size.m T.law_size.F.kp T.law_size.b .nil pass0 (pa_cons (pe_call G_format_statement (hr.mono (by omega)) (by rfl) T.format_statement.m T.format_statement.F.kp T.format_statement.b .nil pass0 (pa_cons (pv 3) pa_nil)) pa_nil)) pe_int (nomark _)))) (fun _ _ _ _ _ => (pv 3)))
      (pss_setT (i := 4) sc_law.nd rfl rfl (pe_callB (call_reprD hG hr.units) (by rfl) T.zrepr (by decide +kernel) (pa_cons (pv 2) pa_nil))
      (psst_cons (PST.of (ps_set (i := 5) sc_law.nd rfl (Or.inl rfl) (pe_call G_format_text (hr.mono (by omega)) (by rfl) T.format_text.m T.format_text.F.kp T.format_text.b .nil pass0 (pa_cons (pv 2) pa_nil))))
      (psst_cons (PST.of (ps_if (PW.pt (pw_or (pt_cmpR op_ne (pv 5) (pe_join pe_str (pe_lc (own := [("_law_one", 3)]) (g := gName 3) (by rfl) sc_law.nd (pi_list (pv 2)) (blkOk_by (own := [("_law_one", 3)]) (N := N_law) (sc := defScope s_law) (by decide +kernel)) (fun _ _ _ _ _ => pg_name (i := 3) sc_law.nd rfl (Or.inl rfl)) (fun _ _ _ _ _ => pts_nil) (fun _ _ _ _ _ => (pe_op op_add_str (pe_call G_format_statement (hr.mono (by omega)) (by rfl) T.format_statement.m T.format_statement.F.kp T.format_statement.b .nil pass0 (pa_cons (pv 3) pa_nil)) pe_str)))) (nomark _)) (pw_or1 (pt_cmpR op_gt (pe_callB call_len_str (by rfl) T.zlen PySem.boot_len (pa_cons (pv 5) pa_nil)) pe_int (nomark _))))) (pss_one (ps_ret (pe_cmpR op_gt (pe_callB call_len_str (by rfl) T.zlen PySem.boot_len (pa_cons (pv 5) pa_nil)) pe_int (nomark _)))) pss_nil))
      (psst_cons (PST.of (ps_for PassesOwn.never rfl (pi_list (pv 2)) (pg_name (i := 3) sc_law.nd rfl (Or.inl rfl)) (pss_cons (ps_if (PW.pt (pw_and (pt_cmpR op_eq (pe_ix ix_tup (pv 3) pe_int (fun _ _ => rfl)) pe_str (nomark _)) (pw_and1 (pt_not (pt_val (pe_m1 PySem.F.slot_str_startswith PySem.F.type_str_startswith mt_startswith (pe_call G_format_statement (hr.mono (by omega)) (by rfl) T.format_statement.m T.format_statement.F.kp T.format_statement.b .nil pass0 (pa_cons (pv 3) pa_nil)) (pe_call G_format_atom (hr.mono (by omega)) (by rfl) T.format_atom.m T.format_atom.F.kp T.format_atom.b .nil pass0 (pa_cons (pe_ix ix_tup (pv 3) pe_int (fun _ _ => rfl)) pa_nil)))))))) (pss_one (ps_ret pe_bl)) pss_nil)
      (pss_one (ps_if (PW.pt (pw_and (pt_cmpR op_eq (pe_ix ix_tup (pv 3) pe_int (fun _ _ => rfl)) pe_str (nomark _)) (pw_and1 (pt_not (pt_val (pe_m1 PySem.F.slot_str_startswith PySem.F.type_str_startswith mt_startswith (pe_call G_format_statement (hr.mono (by omega)) (by rfl) T.format_statement.m T.format_statement.F.kp T.format_statement.b .nil pass0 (pa_cons (pv 3) pa_nil)) (pe_op op_add_str pe_str (pe_call G_format_condition (hr.mono (by omega)) (by rfl) T.format_condition.m T.format_condition.F.kp T.format_condition.b .nil pass0 (pa_cons (pe_ix ix_list (pe_ix ix_tup (pv 3) pe_int (fun _ _ => rfl)) pe_int (fun _ _ => rfl)) pa_nil))))))))) (pss_one (ps_ret pe_bl)) pss_nil)))))
      (psst_cons (pst_set (i := 6) sc_law.nd rfl (Or.inl rfl) (pet_rep3 (pv 5) (pe_call G_law_draw (hr.mono (by omega)) (by rfl) T.law_draw.m T.law_draw.F.kp T.law_draw.b .nil pass0 (pa_cons (pv 1) (pa_cons pe_int pa_nil)))))
      (PSsT.of (pss_cons (ps_if (pt_cmpR op_gt (pe_callB call_len_str (by rfl) T.zlen PySem.boot_len (pa_cons (pv 6) pa_nil)) pe_int (nomark _)) (pss_one (ps_set (i := 6) sc_law.nd rfl (Or.inl rfl) (pv 5))) pss_nil)
      (pss_cons (ps_set (i := 7) sc_law.nd rfl (Or.inl rfl) (pe_call G_parse (hr.mono (by omega)) (by rfl) T.parse.m T.parse.F.kp T.parse.b .nil pass0 (pa_cons (pv 5) pa_nil)))
      (pss_cons (ps_if (PW.pt (pw_or (pt_not (pt_val (pe_callB call_isi (by rfl) T.zisinstance (by decide +kernel) (pa_cons (pv 7) (pa_cons (pe_bltn (v := .ty "list") (by rfl) T.zlist PyProof.Rows.boot_list rfl) pa_nil))))) (pw_or (pt_cmpR (op_neD hr.units) (pv 7) (pv 2) (nomark _)) (pw_or (pt_cmpR (op_neD hr.units) (pe_call G_parse (hr.mono (by omega)) (by rfl) T.parse.m T.parse.F.kp T.parse.b .nil pass0 (pa_cons (pv 6) pa_nil)) (pv 2) (nomark _)) (pw_or1 (pt_cmpR op_ne (pe_callB (call_reprD hG hr.units) (by rfl) T.zrepr (by decide +kernel) (pa_cons (pv 2) pa_nil)) (pv 4) (nomark _))))))) (pss_one (ps_ret pe_bl)) pss_nil)
      (pss_cons (ps_set (i := 8) sc_law.nd rfl (Or.inl rfl) (pe_call G_law_term (hr.mono (by omega)) (by rfl) T.law_term.m T.law_term.F.kp T.law_term.b .nil pass0 (pa_cons (pv 1) (pa_cons pe_int pa_nil))))
      (pss_cons (ps_set (i := 9) sc_law.nd rfl (Or.inl rfl) (pe_call G_parse (hr.mono (by omega)) (by rfl) T.parse.m T.parse.F.kp T.parse.b .nil pass0 (pa_cons (pe_op op_add_str (pe_op op_add_str pe_str (pe_call G_format_term (hr.mono (by omega)) (by rfl) T.format_term.m T.format_term.F.kp T.format_term.b .nil pass0 (pa_cons (pv 8) pa_nil))) pe_str) pa_nil)))
      (pss_one (ps_ret (pe_and (pe_cmpR (op_eqD hr.units) (pv 9) (pe_lst (pa_cons (pe_tup (pa_cons pe_str (pa_cons (pe_tup (pa_cons pe_str (pa_cons pe_str (pa_cons (pe_lst (pa_cons (pv 8) pa_nil)) pa_nil)))) (pa_cons (pe_lst pa_nil) pa_nil)))) pa_nil)) (nomark _)) (pe_one (pe_cmpR op_eq (pe_call G_format_text (hr.mono (by omega)) (by rfl) T.format_text.m T.format_text.F.kp T.format_text.b .nil pass0 (pa_cons (pv 7) pa_nil)) (pv 5) (nomark _)))))))))))))))))))), ?_⟩
  refine ⟨_, rfl, a, ns, rfl, hS, hn, fun H1 S C same1 hS0 hC0 st1 => ?_⟩
  refine ⟨_, rfl, S, C, 9, rfl, st1, by decide, by decide, fun H2 j kp2 st2 j0 j9 => ⟨j, rfl, by omega, by omega, fun D hD => ?_⟩⟩
  refine lc_gen (enc := Sm.enc) (ok := fun s => Sm.ok s ∧ Sm.fst s) (n := j.toNat) (by omega) st2 hD (fun x Hc Q' stc k => ?_) fun H3 vs zs kp3 st3 hD3 hl hok hR => ?_
  · exact ⟨_, rfl, S, C, rfl, stc, fun H' v z kp st ok R => k H' v z kp st ok R⟩
  have hlen : vs.length = zs.length := by rw [hR.1, List.length_map]
  refine ⟨_, rfl, D, rfl, ⟨_, SqL.of hD3⟩, fun D2 hD2 => ?_⟩
  refine lc_list (K := K) (a := D) (xs := vs) (fun i Hc => ∃ ys, Kp M0 H3 Hc ∧ Hc D2 = some (.lst ys) ∧ RpL (dom H1) H3 ys (((zs.take i).filter pS).map Sm.enc)) ⟨[], Kp.refl.new hD2, upd_same, RpL.nil⟩
    (fun i Hc _ h => SqL.of (h.choose_spec.1.oth D _ hD3 id)) ?_ ?_
  · rintro i x Hc hi ⟨ys, kpc, hDc, hRc⟩
    have hiz : i < zs.length := by rw [← hlen]; exact (List.getElem?_eq_some_iff.mp hi).1
    have hz : zs[i]? = some zs[i] := List.getElem?_eq_getElem hiz
    have Rx : Rp (dom H1) H3 x (zs[i]).enc := (hR.2 i x _ hi (by rw [List.getElem?_map, hz]; rfl)).weak fun b e => .inl (kp2.dm b e)
    obtain ⟨okz, _⟩ := hok zs[i] (List.getElem_mem hiz)
    refine ⟨rfl, ?_⟩
    refine ⟨_, rfl, x, zs[i], rfl, (Rx.same kpc.same).weak (fun b e => e.elim), okz, len_Sm okz, fun Hd sd => ⟨_, rfl, cds_tx (wf_Sm okz), ?_⟩⟩
    have hw := wcnt_tx (wf_Sm okz)
    have kpd : Kp M0 H3 Hd := kpc.trans (Kp.of_same sd)
    have et : zs.take (i + 1) = zs.take i ++ [zs[i]] := by rw [List.take_add_one, hz]; rfl
    refine ⟨_, _, rfl, rfl, _, rfl, ?_⟩
    refine ite2 (fun c1 => ?_) (fun c1 => ?_)
    · have c2 := of_decide_eq_true c1
      have hp : pS zs[i] = true := decide_eq_true (by omega)
      refine ⟨x, rfl, ys, sd D2 _ hDc, ?_, ys ++ [x], kpd.loc hD2, upd_same, ?_⟩
      · have h1 := hRc.1
        have h2 := List.length_filter_le pS (zs.take i)
        rw [List.length_map] at h1
        rw [List.length_take] at h2
        exact small1000 (by omega)
      · rw [et, List.filter_append, List.map_append, show [zs[i]].filter pS = [zs[i]] by rw [List.filter_cons, if_pos hp]; rfl]
        exact hRc.snoc Rx
    · have hp : ¬ pS zs[i] = true := fun e => by
        have e2 := of_decide_eq_true e
        exact c1 (decide_eq_true (by omega))
      refine ⟨ys, kpd, sd D2 _ hDc, ?_⟩
      rw [et, List.filter_append, show [zs[i]].filter pS = [] by rw [List.filter_cons, if_neg hp]; rfl, List.append_nil]
      exact hRc
  rintro H4 ⟨ys, kp4, hD4, hRs⟩
  rw [hlen, List.take_length] at hRs
  -- the statements that are kept
  obtain ⟨ss, hss⟩ : ∃ ss, ss = zs.filter pS := ⟨_, rfl⟩
  rw [← hss] at hRs
  have okF : ∀ s ∈ ss, Sm.ok s ∧ Sm.fst s := fun s hs => hok s (List.mem_filter.mp (hss ▸ hs)).1
  have ok : ∀ s ∈ ss, Sm.ok s := fun s hs => (okF s hs).1
  have wd : ∀ s ∈ ss, nWd (toks (pSm s)) ≤ 60 := fun s hs => by
    rw [hss] at hs
    have h2 : pS s = true := (List.mem_filter.mp hs).2
    exact of_decide_eq_true h2
  have l8 : ss.length ≤ 8 := by
    have := List.length_filter_le pS zs
    rw [← hss] at this
    omega
  have n13 : ∀ b, dom H1 b → dom H3 b := fun b e => kp3.dm b (kp2.dm b e)
  have RD : Rp (dom H1) H4 (.ref D2) (.list (ss.map Sm.enc)) := (hRs.kp kp4 fun b e => e.elim).lst' hD4 fun z => n13 D2 z hD2
  have st4 : StAt H4 S C := st3.same kp4.same
  have gd := gd_All ok l8
  have shn := gd.shown (by omega) (by omega)
  have wfA := wf_All ss ok
  have lenA : (tx (pAll ss)).length ≤ 1000000 := by
    have h1 := len_tx wfA
    have h2 := (ms_All ss ok).l
    omega
  have ssok : ssOk ss := ⟨by omega, ok⟩
  refine ⟨_, rfl, D2, _, rfl, RD.dp, shn.1, shn.2.1, shn.2.2.1, shn.2.2.2, ?_⟩
  refine ⟨_, rfl, .ref D2, ss, rfl, RD.weak (fun b e => e.elim), ssok, lenA, fun H5 s5 => ?_⟩
  have RD5 := RD.same s5
  have hD5 := s5 D2 _ hD4
  have e7 : ys.length = ss.length := by rw [hRs.1, List.length_map]
  have hj := join_le "" ((ss.map (fun y => pSm y ++ [.nl])).map tx)
  have hsep : (("" : Str)).length = 0 := by decide +kernel
  refine ⟨_, rfl, ⟨_, rfl⟩, _, rfl, D2, rfl, ⟨_, SqL.of hD5⟩, fun D6 hD6 => ?_⟩
  refine lc_str (sl := (ss.map (fun y => pSm y ++ [.nl])).map tx) (by simp [e7]) (by omega) (SqL.of hD5) hD6 (fun i y z Hc Q' hi hz s1 k => ?_) fun H6 s6 hD6' => ?_
  · rw [List.getElem?_map, List.getElem?_map] at hz
    cases ht : ss[i]? with
    | none => rw [ht] at hz; cases hz
    | some t =>
      rw [ht] at hz
      cases hz
      have htm := List.mem_of_getElem? ht
      have hRt := hRs.2 i y t.enc hi (by rw [List.getElem?_map, ht]; rfl)
      have l1 := len_Sm (ok t htm)
      have l2 := (ms_Sm (ok t htm)).l
      have l3 := len_tx (wf_Sm (ok t htm))
      have l4 : ("\n" : Str).length = 1 := by decide +kernel
      rw [tx_app, tx_nl] at k
      exact ⟨_, rfl, y, t, rfl, ((hRt.kp kp4 fun b e => e.elim).same (s5.trans s1)).weak (fun b e => e.elim), ok t htm, l1, fun H2 s2 => ⟨_, _, rfl, rfl, szM (by omega), k H2 s2⟩⟩
  have lenA2 := lenA
  rw [tx_all] at lenA2
  refine ⟨_, D6, _, rfl, rfl, .inl (SqL.of hD6'), szM2 (by rw [hsep] at hj ⊢; omega), ?_⟩
  rw [TL.join_eq, ← tx_all]
  refine ⟨rfl, _, rfl, iF (by rw [decide_eq_true rfl]; rfl) ?_⟩
  refine ⟨_, rfl, _, rfl, szM lenA, _, _, rfl, rfl, _, rfl, ?_⟩
  refine ite2 (fun c1 => ⟨_, rfl, _, rfl, szM lenA, _, _, rfl, rfl, congrArg V.bl c1⟩) (fun c1 => ?_)
  have l4000 : (tx (pAll ss)).length ≤ 4000 := by
    have c2 : ¬ (4000 < ((tx (pAll ss)).length : Int)) := fun q => c1 (decide_eq_true q)
    omega
  have RD6 := RD5.same s6
  have hD6 := s6 D2 _ hD5
  have s46 : Same H4 H6 := s5.trans s6
  refine ⟨_, rfl, D2, rfl, ⟨_, SqL.of hD6⟩, for_list (K := K) (a := D2) (xs := ys) (fun i σ Hf => Same H6 Hf ∧ ∃ u : Option V, σ = [some (.ref a), some (.ref S), some (.ref D2), u, some (.str (PyData.list (ss.map Sm.enc)).shown), some (.str (tx (pAll ss))), none, none, none, none, none]) ⟨Same.refl H6, none, rfl⟩
    (fun i σ Hf _ h => SqL.of (h.1 D2 _ hD6)) ?_ ?_⟩
  · rintro i x σ Hf hi ⟨sf, u, rfl⟩
    have his : i < ss.length := by rw [← e7]; exact (List.getElem?_eq_some_iff.mp hi).1
    have hz : ss[i]? = some ss[i] := List.getElem?_eq_getElem his
    have okz := okF ss[i] (List.getElem_mem his)
    have Rx : Rp M0 Hf x (ss[i]).enc := (((hRs.2 i x _ hi (by rw [List.getElem?_map, hz]; rfl)).kp kp4 fun b e => e.elim).same (s46.trans sf)).weak (fun b e => e.elim)
    generalize ss[i] = z at okz Rx
    have oks := okz.1
    have lz := len_Sm oks
    cases z with
    | rule am b =>
      obtain ⟨p, x0, x1, x2, rfl, hp, q0, q1, q2⟩ := Rx.tup3
      obtain rfl := q0.of_str
      have la : (tx (pA am)).length ≤ 1000000 := by
        have := len_tx (ps := pA am) (by have := kw_A oks.1 [] trivial nw_nil; rwa [List.append_nil] at this)
        have := (ms_A oks.1).l
        omega
      refine ⟨_, rfl, p, _, _, _, rfl, rfl, SqT.of hp, atI_nat (j := 0) rfl, rfl, _, rfl, iT (decide_eq_true rfl) ?_⟩
      refine ⟨_, rfl, .ref p, .rule am b, rfl, Rx, oks, lz, fun Ha sa => ⟨⟨_, rfl⟩, _, rfl, p, _, _, _, rfl, rfl, SqT.of (sa p _ hp), atI_nat (j := 1) rfl, x1, am, rfl, q1.same sa, oks.1, la, fun Hb sb => ⟨_, _, rfl, rfl, _, rfl, iF (by rw [starts_rule]; rfl) ?_⟩⟩⟩
      refine ⟨_, rfl, p, _, _, _, rfl, rfl, SqT.of (sb p _ (sa p _ hp)), atI_nat (j := 0) rfl, rfl, _, rfl, iF (by decide +kernel) (iF rfl ?_)⟩
      exact ⟨sf.trans (sa.trans sb), _, rfl⟩
    | deny b =>
      obtain ⟨p, x0, x1, rfl, hp, q0, q1⟩ := Rx.tup2
      obtain rfl := q0.of_str
      obtain ⟨c, r, rfl⟩ := okz.2
      obtain ⟨L, ls, rfl, hL, _, qL⟩ := q1.of_lst
      obtain ⟨xc, ls2, rfl, qc, _⟩ := RpL.uncons (d := (Pt.cd c).enc) (ds := r.map Pt.enc) qL
      have okc : c.ok := oks.2.2 _ (List.mem_cons_self ..)
      have lc : (tx (pC c)).length ≤ 1000000 := by
        have := len_tx (ps := pC c) (by have := kw_C okc [] trivial nw_nil; rwa [List.append_nil] at this)
        have := (ms_C okc).l
        omega
      refine ⟨_, rfl, p, _, _, _, rfl, rfl, SqT.of hp, atI_nat (j := 0) rfl, rfl, _, rfl, iF (by decide +kernel) (iF rfl ?_)⟩
      refine ⟨_, rfl, p, _, _, _, rfl, rfl, SqT.of hp, atI_nat (j := 0) rfl, rfl, _, rfl, iT (decide_eq_true rfl) ?_⟩
      have lk : (":- " : Str).length = 3 := by decide +kernel
      refine ⟨_, rfl, .ref p, .deny (.cd c :: r), rfl, Rx, oks, lz, fun Ha sa => ⟨⟨_, rfl⟩, ?_⟩⟩
      refine ⟨_, rfl, p, _, _, _, rfl, rfl, SqT.of (sa p _ hp), atI_nat (j := 1) rfl, L, _, _, _, rfl, rfl, SqL.of (sa L _ hL), atI_nat (j := 0) rfl, xc, c, rfl, qc.same sa, okc, lc, fun Hb sb => ⟨_, _, rfl, rfl, szM2' (by omega), _, _, rfl, rfl, _, rfl, iF (by rw [starts_deny]; rfl) ?_⟩⟩
      exact ⟨sf.trans (sa.trans sb), _, rfl⟩
    | choose lo cs hi' b =>
      obtain ⟨p, x0, x1, x2, x3, x4, rfl, hp, q0, q1, q2, q3, q4⟩ := Rx.tup5
      obtain rfl := q0.of_str
      refine ⟨_, rfl, p, _, _, _, rfl, rfl, SqT.of hp, atI_nat (j := 0) rfl, rfl, _, rfl, iF (by decide +kernel) (iF rfl ?_)⟩
      refine ⟨_, rfl, p, _, _, _, rfl, rfl, SqT.of hp, atI_nat (j := 0) rfl, rfl, _, rfl, iF (by decide +kernel) (iF rfl ?_)⟩
      exact ⟨sf, _, rfl⟩
    | range lo hi' =>
      obtain ⟨p, x0, x1, x2, rfl, hp, q0, q1, q2⟩ := Rx.tup3
      obtain rfl := q0.of_str
      refine ⟨_, rfl, p, _, _, _, rfl, rfl, SqT.of hp, atI_nat (j := 0) rfl, rfl, _, rfl, iF (by decide +kernel) (iF rfl ?_)⟩
      refine ⟨_, rfl, p, _, _, _, rfl, rfl, SqT.of hp, atI_nat (j := 0) rfl, rfl, _, rfl, iF (by decide +kernel) (iF rfl ?_)⟩
      exact ⟨sf, _, rfl⟩
    | mini ms =>
      obtain ⟨p, x0, x1, rfl, hp, q0, q1⟩ := Rx.tup2
      obtain rfl := q0.of_str
      refine ⟨_, rfl, p, _, _, _, rfl, rfl, SqT.of hp, atI_nat (j := 0) rfl, rfl, _, rfl, iF (by decide +kernel) (iF rfl ?_)⟩
      refine ⟨_, rfl, p, _, _, _, rfl, rfl, SqT.of hp, atI_nat (j := 0) rfl, rfl, _, rfl, iF (by decide +kernel) (iF rfl ?_)⟩
      exact ⟨sf, _, rfl⟩
  rintro σ Hf ⟨sf, u, rfl⟩
  have RD7 := RD6.same sf
  have st7 : StAt Hf S C := st4.same (s46.trans sf)
  refine ⟨_, rfl, tx (pAll ss), rfl, fun D8 ob hD8 => ?_⟩
  refine ⟨_, rfl, S, C, 3, rfl, st7.nw hD8, by decide, by decide, fun H8 jj kp8 st8 g0 g3 => ?_⟩
  obtain ⟨z, hz, hm⟩ : ∃ z, [(("  ") : Str), "\n", " \n "][jj.toNat]? = some z ∧ z ∈ [(("  ") : Str), "\n", " \n "] := by
    have hl : jj.toNat < [(("  ") : Str), "\n", " \n "].length := by show jj.toNat < 3; omega
    exact ⟨_, List.getElem?_eq_getElem hl, List.getElem_mem hl⟩
  have lz3 : z.length ≤ 3 := by
    have key : ∀ z ∈ [(("  ") : Str), "\n", " \n "], z.length ≤ 3 := by decide +kernel
    exact key z hm
  have lrep : (tx (pAll ss)).length + ((tx (pAll ss)).length + 1) * z.length ≤ 16003 := by
    have h1 : ((tx (pAll ss)).length + 1) * z.length ≤ 4001 * 3 := Nat.mul_le_mul (by omega) lz3
    omega
  refine ⟨jj.toNat, z, congrArg V.int (by omega), hz, kp8.oth D8 _ upd_same (nMsc st7 hD8), by omega, ?_⟩
  have kp78 : Kp (Msc S C) Hf H8 := (Kp.refl.new hD8).trans kp8
  have RD8 := RD7.kp kp78 fun b e => st1.dm b e
  have hD8' : H8 D2 = some (.lst ys) := kp78.oth D2 _ (sf D2 _ hD6) fun e => n13 D2 (st1.dm D2 e) hD2
  have lsp : (Txt.replace (tx (pAll ss)) " " z).length ≤ 16003 := Nat.le_trans (TK.replace_len _ _ _) lrep
  refine ⟨_, rfl, _, rfl, szM (Nat.le_trans lsp (by decide)), _, _, rfl, rfl, _, rfl, ?_⟩
  have exS : Lex (cd (Txt.replace (tx (pAll ss)) " " z)) (toks (pAll ss)) := by
    rw [spread_tx wfA, cd_sS]
    exact lex_of (gaps z hm) _ wfA
  have deepA := deep_of (ms_All ss ok) (by omega)
  have shpA : SeqAt.shaped (.list (ss.map Sm.enc)) = true := gd.shaped (by omega)
  have lp : ("p(" : Str).length = 2 := by decide +kernel
  have lq : (")." : Str).length = 2 := by decide +kernel
  refine ite2 (fun c2 => ⟨_, rfl, ?_⟩) (fun c2 => ?_)
  · have goodU := And.intro l4000 (lex_tx wfA)
    refine ⟨_, rfl, tx (pAll ss), toks (pAll ss), ss, rfl, l4000, lex_tx wfA, deepA, prg_back ss ok wd, by omega, fun H9 v9 s9 R9 => ?_⟩
    obtain ⟨p9, xs9, rfl, h9, nb9, q9⟩ := id R9.of_lst
    have D9 : Dp K H9 (.ref p9) (.list (ss.map Sm.enc)) := R9.dp
    have RD9 := RD8.same s9
    refine ⟨_, rfl, .ref p9, .ty "list", _, _, true, rfl, .ty "list", .base (.lst h9), kit_ty (by decide +kernel), _, rfl, iF rfl ?_⟩
    refine ⟨_, rfl, _, rfl, _, _, D9, RD9.dp, shpA, shpA, _, rfl, iF (by rw [gd.eqv]; rfl) ?_⟩
    refine ⟨_, rfl, _, toks (pAll ss), ss, rfl, goodU.1, goodU.2, deepA, prg_back ss ok wd, by omega, fun HA vA sA RA => ?_⟩
    have RDA := RD9.same sA
    refine ⟨_, rfl, _, _, RA.dp, RDA.dp, shpA, shpA, _, rfl, iF (by rw [gd.eqv]; rfl) ?_⟩
    refine ⟨_, rfl, D2, _, rfl, RDA.dp, shn.1, shn.2.1, shn.2.2.1, shn.2.2.2, _, rfl, rfl, _, rfl, iF (by rw [decide_eq_true rfl]; rfl) ?_⟩
    have stA : StAt HA S C := (st8.same s9).same sA
    refine ⟨_, rfl, S, C, rfl, stA, fun HB vB t kpB stB okt Rt => ?_⟩
    refine ⟨_, rfl, vB, t, rfl, Rt.weak (fun b e => e.elim), okt, lenT okt, fun HC sC => ⟨_, _, rfl, rfl, szM2' (by rw [lp]; have := lenT okt; omega), _, _, rfl, rfl, szM2' (by rw [len_app, lp, lq]; have := lenT2 okt; omega), ?_⟩⟩
    have wfF := wf_fact okt
    refine ⟨_, toks (pFact t), [.rule ⟨"p", [t]⟩ []], rfl, by rw [← tx_fact]; exact lenF okt, by rw [← tx_fact]; exact lex_tx wfF, deep_of (ms_fact okt) (by omega), fact_back okt (nWd_fact okt), (show (1 : Nat) ≤ 60 by decide), fun HD vD sD RDD => ?_⟩
    have gf := gd_fact okt
    have RtD : Rp M0 HD vB t.enc := ((Rt.weak (fun b e => e.elim)).same sC).same sD
    have R0 : Rp M0 HD vD (.list [(Sm.rule ⟨"p", [t]⟩ []).enc]) := RDD.weak fun b e => e.elim
    refine ⟨_, rfl, _, rfl, sz1, fun L1 h1 => ⟨sz3, fun T1 h2 => ⟨sz0, fun L2 h3 => ⟨sz3, fun T2 h4 => ⟨sz1, fun L3 h5 => ?_⟩⟩⟩⟩⟩
    have R1 := (RpL.cons RtD RpL.nil).lst (.inr h1) id
    have R2 := (RpL.cons (.str "atom") (.cons (.str "p") (.cons R1 .nil))).tup h2 id
    have R3 := (RpL.nil (B := M0) (H := _)).lst (p := L2) (.inr h3) id
    have R4 := (RpL.cons (.str "rule") (.cons (R2.upd (.inr h3)) (.cons R3 .nil))).tup h4 id
    have R5 := (RpL.cons R4 .nil).lst (.inr h5) id
    have R6 := ((((R0.upd (.inr h1)).upd (.inr h2)).upd (.inr h3)).upd (.inr h4)).upd (o := .lst [.ref T2]) (.inr h5)
    have Q0 : Rp M0 HD (.ref p9) (.list (ss.map Sm.enc)) := ((((R9.same sA).kp kpB (fun b e => st8.dm b e)).same sC).same sD).weak fun b e => e.elim
    have Q6 := ((((Q0.upd (.inr h1)).upd (.inr h2)).upd (.inr h3)).upd (.inr h4)).upd (o := .lst [.ref T2]) (.inr h5)
    exact ⟨_, _, R6.dp, R5.dp, gf.shaped (by omega), gf.shaped (by omega), _, rfl, iT gf.eqv ⟨_, rfl, .ref p9, ss, rfl, Q6, ssok, lenA, fun HE sE => ⟨_, rfl, rfl, congrArg V.bl (decide_eq_true rfl)⟩⟩⟩
  · have goodU : (Txt.replace (tx (pAll ss)) " " z).length ≤ 4000 ∧ _ := ⟨by
      have c3 : ¬ (4000 < ((Txt.replace (tx (pAll ss)) " " z).length : Int)) := fun q => c2 (decide_eq_true q)
      omega, exS⟩
    refine ⟨_, rfl, tx (pAll ss), toks (pAll ss), ss, rfl, l4000, lex_tx wfA, deepA, prg_back ss ok wd, by omega, fun H9 v9 s9 R9 => ?_⟩
    obtain ⟨p9, xs9, rfl, h9, nb9, q9⟩ := id R9.of_lst
    have D9 : Dp K H9 (.ref p9) (.list (ss.map Sm.enc)) := R9.dp
    have RD9 := RD8.same s9
    refine ⟨_, rfl, .ref p9, .ty "list", _, _, true, rfl, .ty "list", .base (.lst h9), kit_ty (by decide +kernel), _, rfl, iF rfl ?_⟩
    refine ⟨_, rfl, _, rfl, _, _, D9, RD9.dp, shpA, shpA, _, rfl, iF (by rw [gd.eqv]; rfl) ?_⟩
    refine ⟨_, rfl, _, toks (pAll ss), ss, rfl, goodU.1, goodU.2, deepA, prg_back ss ok wd, by omega, fun HA vA sA RA => ?_⟩
    have RDA := RD9.same sA
    refine ⟨_, rfl, _, _, RA.dp, RDA.dp, shpA, shpA, _, rfl, iF (by rw [gd.eqv]; rfl) ?_⟩
    refine ⟨_, rfl, D2, _, rfl, RDA.dp, shn.1, shn.2.1, shn.2.2.1, shn.2.2.2, _, rfl, rfl, _, rfl, iF (by rw [decide_eq_true rfl]; rfl) ?_⟩
    have stA : StAt HA S C := (st8.same s9).same sA
    refine ⟨_, rfl, S, C, rfl, stA, fun HB vB t kpB stB okt Rt => ?_⟩
    refine ⟨_, rfl, vB, t, rfl, Rt.weak (fun b e => e.elim), okt, lenT okt, fun HC sC => ⟨_, _, rfl, rfl, szM2' (by rw [lp]; have := lenT okt; omega), _, _, rfl, rfl, szM2' (by rw [len_app, lp, lq]; have := lenT2 okt; omega), ?_⟩⟩
    have wfF := wf_fact okt
    refine ⟨_, toks (pFact t), [.rule ⟨"p", [t]⟩ []], rfl, by rw [← tx_fact]; exact lenF okt, by rw [← tx_fact]; exact lex_tx wfF, deep_of (ms_fact okt) (by omega), fact_back okt (nWd_fact okt), (show (1 : Nat) ≤ 60 by decide), fun HD vD sD RDD => ?_⟩
    have gf := gd_fact okt
    have RtD : Rp M0 HD vB t.enc := ((Rt.weak (fun b e => e.elim)).same sC).same sD
    have R0 : Rp M0 HD vD (.list [(Sm.rule ⟨"p", [t]⟩ []).enc]) := RDD.weak fun b e => e.elim
    refine ⟨_, rfl, _, rfl, sz1, fun L1 h1 => ⟨sz3, fun T1 h2 => ⟨sz0, fun L2 h3 => ⟨sz3, fun T2 h4 => ⟨sz1, fun L3 h5 => ?_⟩⟩⟩⟩⟩
    have R1 := (RpL.cons RtD RpL.nil).lst (.inr h1) id
    have R2 := (RpL.cons (.str "atom") (.cons (.str "p") (.cons R1 .nil))).tup h2 id
    have R3 := (RpL.nil (B := M0) (H := _)).lst (p := L2) (.inr h3) id
    have R4 := (RpL.cons (.str "rule") (.cons (R2.upd (.inr h3)) (.cons R3 .nil))).tup h4 id
    have R5 := (RpL.cons R4 .nil).lst (.inr h5) id
    have R6 := ((((R0.upd (.inr h1)).upd (.inr h2)).upd (.inr h3)).upd (.inr h4)).upd (o := .lst [.ref T2]) (.inr h5)
    have Q0 : Rp M0 HD (.ref p9) (.list (ss.map Sm.enc)) := ((((R9.same sA).kp kpB (fun b e => st8.dm b e)).same sC).same sD).weak fun b e => e.elim
    have Q6 := ((((Q0.upd (.inr h1)).upd (.inr h2)).upd (.inr h3)).upd (.inr h4)).upd (o := .lst [.ref T2]) (.inr h5)
    exact ⟨_, _, R6.dp, R5.dp, gf.shaped (by omega), gf.shaped (by omega), _, rfl, iT gf.eqv ⟨_, rfl, .ref p9, ss, rfl, Q6, ssok, lenA, fun HE sE => ⟨_, rfl, rfl, congrArg V.bl (decide_eq_true rfl)⟩⟩⟩
end
end Kt
/-! K31: the law's promise from the text's own defs -/
namespace Kt
open PySem L2
/-- the law's call, at the caller's place -/
theorem law_at {P : Program} {w : World} {K : PySem.W.Frag} {mg : Str → Option Value} {base : Heap} (T : Txt K mg) {s : Shared} {H : Hp} {a : Addr} {ns : List Int} (e0 : Env0 P w K mg base callerA [] s H) (inK : K.In s.heap) (hS : SqL K H a (ns.map V.int)) (hn : ns.length ≤ 63) :
    codeAny (model P w) callerA (.call (.ref T.law.f) ⟨[.ref a], []⟩) (CR CX0 [] P w H s (fun v _ => v = .bl true) fun _ _ _ => False) s := by
  have m_kind := ok_kind (P := P) (w := w) (base := base) T 
  have m_peek := ok_peek (P := P) (w := w) (base := base) T 
  have m_is := ok_is (P := P) (w := w) (base := base) T m_kind m_peek
  have m_skip := ok_skip (P := P) (w := w) (base := base) T m_kind m_peek m_is
  have m_take := ok_take (P := P) (w := w) (base := base) T m_kind m_peek m_is
  have m_word := ok_word (P := P) (w := w) (base := base) T m_kind m_peek m_is
  have m_integer := ok_integer (P := P) (w := w) (base := base) T m_kind m_peek m_is m_word
  have m_term := all_term (P := P) (w := w) (base := base) T m_kind m_peek m_is m_skip m_take m_word m_integer 4
  have m_atom := ok_atom (P := P) (w := w) (base := base) T m_kind m_peek m_is m_skip m_take m_word m_integer m_term
  have m_starts := ok_starts_atom (P := P) (w := w) (base := base) T m_kind m_peek m_is m_skip m_take m_word m_integer m_term
  have m_condition := ok_condition (P := P) (w := w) (base := base) T m_kind m_peek m_is m_skip m_take m_word m_integer m_term m_starts m_atom
  have m_conditions := ok_conditions (P := P) (w := w) (base := base) T m_kind m_peek m_is m_skip m_take m_word m_integer m_term m_condition
  have m_member := ok_member (P := P) (w := w) (base := base) T m_kind m_peek m_is m_skip m_take m_word m_integer m_term m_conditions
  have m_choice := ok_choice (P := P) (w := w) (base := base) T m_kind m_peek m_is m_skip m_take m_word m_integer m_term m_atom m_conditions
  have m_members := ok_members (P := P) (w := w) (base := base) T m_kind m_peek m_is m_skip m_take m_word m_integer m_term m_member
  have m_choices := ok_choices (P := P) (w := w) (base := base) T m_kind m_peek m_is m_skip m_take m_word m_integer m_term m_choice
  have m_part := ok_part (P := P) (w := w) (base := base) T m_kind m_peek m_is m_skip m_take m_word m_integer m_term m_condition m_members
  have m_body := ok_body (P := P) (w := w) (base := base) T m_kind m_peek m_is m_skip m_take m_word m_integer m_term m_part
  have m_opt := ok_optional_body (P := P) (w := w) (base := base) T m_kind m_peek m_is m_skip m_take m_word m_integer m_term m_body
  have m_choose := ok_choose (P := P) (w := w) (base := base) T m_kind m_peek m_is m_skip m_take m_word m_integer m_term m_choices m_opt
  have m_statement := ok_statement (P := P) (w := w) (base := base) T m_kind m_peek m_is m_skip m_take m_word m_integer m_term m_choose m_opt m_body m_members m_atom
  have w_end := ok_word_end (P := P) (w := w) (base := base) T 
  have i_end := ok_integer_end (P := P) (w := w) (base := base) T 
  have p_init := ok_parser_init (P := P) (w := w) (base := base) T 
  have t_deep := ok_too_deep (P := P) (w := w) (base := base) T 
  have g_token := ok_token (P := P) (w := w) (base := base) T w_end i_end
  have g_tokens := ok_tokens (P := P) (w := w) (base := base) T g_token
  have g_parse := ok_parse (P := P) (w := w) (base := base) T g_tokens t_deep p_init m_kind m_statement
  have f_term := all_format_term (P := P) (w := w) (base := base) T 4
  have f_atom := ok_format_atom (P := P) (w := w) (base := base) T f_term
  have f_condition := ok_format_condition (P := P) (w := w) (base := base) T f_term f_atom
  have f_with := ok_with_conditions (P := P) (w := w) (base := base) T f_condition
  have f_members := ok_format_members (P := P) (w := w) (base := base) T f_term f_with
  have f_part := ok_format_part (P := P) (w := w) (base := base) T f_term f_condition f_members
  have f_body := ok_wbody (P := P) (w := w) (base := base) T f_part
  have f_head := ok_head (P := P) (w := w) (base := base) T f_atom f_with
  have f_statement := ok_format_statement (P := P) (w := w) (base := base) T f_atom f_members f_body f_head
  have f_text := ok_format_text (P := P) (w := w) (base := base) T f_statement
  have l_state := ok_law_state (P := P) (w := w) (base := base) T 
  have l_draw := ok_law_draw (P := P) (w := w) (base := base) T 
  have l_name := ok_law_name (P := P) (w := w) (base := base) T l_draw
  have l_term2 := law_term_at (P := P) (w := w) (base := base) T l_draw l_name (d := 1)
  have l_term3 := law_term_at (P := P) (w := w) (base := base) T l_draw l_name (d := 2)
  have l_term4 := law_term_at (P := P) (w := w) (base := base) T l_draw l_name (d := 3)
  have l_atom := ok_law_atom (P := P) (w := w) (base := base) T l_draw l_name l_term3
  have l_condition := ok_law_condition (P := P) (w := w) (base := base) T l_draw l_name l_term3 l_atom
  have l_conditions := ok_law_conditions (P := P) (w := w) (base := base) T l_draw l_name l_condition
  have l_members := ok_law_members (P := P) (w := w) (base := base) T l_draw l_term2 l_conditions
  have l_body := ok_law_body (P := P) (w := w) (base := base) T l_draw l_term2 l_conditions l_members
  have l_size := ok_law_size (P := P) (w := w) (base := base) T 
  have l_statement := ok_law_statement (P := P) (w := w) (base := base) T l_draw l_atom l_condition l_conditions l_members l_body
  have hb := T.law.b s [.ref a] inK rfl
  exact call_here (k := 39) T.law.F sc_law (vs := [.ref a]) rfl ⟨rfl, by decide, by decide⟩ e0 hb (.cons rfl .nil) fun cdv hr =>
    law_walk T l_state l_draw l_statement l_size l_term4 f_statement f_text f_atom f_condition f_term g_parse hr rfl hS hn
/-- the law's promise, from the text's own defs -/
theorem law_fin {P : Program} {w : World} {K : PySem.W.Frag} {mg mb : Str → Option Value} {fa a : Addr} {s₁ : Shared} {vs : List Value} {ns : List Int} (inK : K.In s₁.heap) (glob : s₁.heap.Ns mainGlobals mg) (bl : s₁.heap.Ns builtinsNs mb)
    (bb : ∀ x : Str, x ≠ "__name__" → mb x = bootBuiltins x) (lim : s₁.heap.NoLimit) (noGen : s₁.gens = #[]) (ha : s₁.heap.get? a = some { cls := .type "list", data := .seq vs.toArray }) (isI : PyProof.Rows.IntsAre vs ns) (hn : ns.length ≤ 63)
    (hfa : mg "law" = some (.ref fa)) (T : Txt K mg) : codeAny (model P w) callerA (.call (.ref fa) ⟨[.ref a], []⟩) (Told s₁) s₁ := by
  have e : T.law.f = fa := by
    have h := T.law.m
    rw [hfa] at h
    exact (Value.ref.inj (Option.some.inj h)).symm
  subst e
  exact told_of inK glob bl bb lim noGen ha isI (Nat.le_trans hn (by decide)) fun base H _ _ _ hS e0 => law_at T e0 inK hS hn
end Kt
open PySem PySem.W PyProof.Rows
set_option maxRecDepth 100000 in
set_option maxHeartbeats 0 in
theorem PySem.Challenge.cw_stablepapers_k03_whole_statements_come_b_holds : PySem.Challenge.rw_stablepapers_k03_whole_statements_come_b.Holds := by
  w_on; o_law; k_head; (case hw => w_witness2)
  k_fill
  refine Att.attach_call (l := PySem.Challenge.rw_stablepapers_k03_whole_statements_come_b) (n := 63) rfl rfl fun w s₀ s₁ mg mb fa o pm cd doc a vs ns Gd Y ho hd hcd hmg hobj hints hlen hgen => ?_
  have KX := PySem.W.kIn_of Y
  have G := Gd.T.g
  have hfa : mg "law" = some (.ref fa) := hmg
  refine' Kt.cls_c KX G ?a ?pg ?hd ?po ?sa ?n1 ?n2 ?n3 ?_
  (case a => k_is); (case pg => k_is); (case hd => k_is); (case po => k_is); (case sa => k_is); (case n1 => k_is); (case n2 => k_is); (case n3 => k_is)
  intro e_mgC e_cl e_n1 e_n2 e_n3
  refine' Kt.str_c KX G (x := "LOWER") ?a ?_
  (case a => k_is)
  intro e_LOWER
  refine' Kt.str_c KX G (x := "UPPER") ?a ?_
  (case a => k_is)
  intro e_UPPER
  refine' Kt.str_c KX G (x := "DIGITS") ?a ?_
  (case a => k_is)
  intro e_DIGITS
  refine' Kt.tup_c (xs := [.str ":-", .str "!=", .str "<=", .str ">="]) KX G (x := "PAIRS") ?a ?l ?z ?v ?_
  (case a => k_is); (case l => k_is); (case z => decide); (case v => exact (.cons ⟨_, rfl⟩ (.cons ⟨_, rfl⟩ (.cons ⟨_, rfl⟩ (.cons ⟨_, rfl⟩ .nil)))))
  intro e_PAIRS q_PAIRS
  refine' Kt.str_c KX G (x := "SINGLES") ?a ?_
  (case a => k_is)
  intro e_SINGLES
  refine' Kt.str_c KX G (x := "SPACES") ?a ?_
  (case a => k_is)
  intro e_SPACES
  refine' Kt.str_c KX G (x := "LONGEST_WORD") ?a ?_
  (case a => k_is)
  intro e_LONGEST_WORD
  refine' Kt.str_c KX G (x := "LONGEST_INTEGER") ?a ?_
  (case a => k_is)
  intro e_LONGEST_INTEGER
  refine' Kt.str_c KX G (x := "LONGEST_TEXT") ?a ?_
  (case a => k_is)
  intro e_LONGEST_TEXT
  refine' Kt.tup_c (xs := [.str "not", .str "sum", .str "minimize", .str "range"]) KX G (x := "KEYWORDS") ?a ?l ?z ?v ?_
  (case a => k_is); (case l => k_is); (case z => decide); (case v => exact (.cons ⟨_, rfl⟩ (.cons ⟨_, rfl⟩ (.cons ⟨_, rfl⟩ (.cons ⟨_, rfl⟩ .nil)))))
  intro e_KEYWORDS q_KEYWORDS
  refine' Kt.tup_c (xs := [.str "=", .str "!=", .str "<", .str "<=", .str ">", .str ">="]) KX G (x := "COMPARISONS") ?a ?l ?z ?v ?_
  (case a => k_is); (case l => k_is); (case z => decide); (case v => exact (.cons ⟨_, rfl⟩ (.cons ⟨_, rfl⟩ (.cons ⟨_, rfl⟩ (.cons ⟨_, rfl⟩ (.cons ⟨_, rfl⟩ (.cons ⟨_, rfl⟩ .nil)))))))
  intro e_COMPARISONS q_COMPARISONS
  refine' Kt.str_c KX G (x := "DEEPEST") ?a ?_
  (case a => k_is)
  intro e_DEEPEST
  refine' Kt.str_c KX G (x := "MOST_STATEMENTS") ?a ?_
  (case a => k_is)
  intro e_MOST_STATEMENTS
  refine' Kt.str_c KX G (x := "MOST_TERMS") ?a ?_
  (case a => k_is)
  intro e_MOST_TERMS
  refine' Kt.str_c KX G (x := "MOST_WORDS") ?a ?_
  (case a => k_is)
  intro e_MOST_WORDS
  refine' Kt.non_c KX G (x := "len") ?a ?_
  (case a => k_is)
  intro z_len
  refine' Kt.non_c KX G (x := "min") ?a ?_
  (case a => k_is)
  intro z_min
  refine' Kt.non_c KX G (x := "max") ?a ?_
  (case a => k_is)
  intro z_max
  refine' Kt.non_c KX G (x := "int") ?a ?_
  (case a => k_is)
  intro z_int
  refine' Kt.non_c KX G (x := "str") ?a ?_
  (case a => k_is)
  intro z_str
  refine' Kt.non_c KX G (x := "abs") ?a ?_
  (case a => k_is)
  intro z_abs
  refine' Kt.non_c KX G (x := "range") ?a ?_
  (case a => k_is)
  intro z_range
  refine' Kt.non_c KX G (x := "repr") ?a ?_
  (case a => k_is)
  intro z_repr
  refine' Kt.non_c KX G (x := "isinstance") ?a ?_
  (case a => k_is)
  intro z_isinstance
  refine' Kt.non_c KX G (x := "list") ?a ?_
  (case a => k_is)
  intro z_list
  refine' Kt.dfn_c (x := "_word_end") (st := Kt.s_word_end) (ps := Kt.P_word_end) KX G (fun _ _ _ _ _ _ us hl => match us, hl with | [_, _], _ => rfl) ?a ?l ?c ?k ?_
  (case a => k_is); (case l => k_is); (case c => k_is); (case k => k_is)
  intro D_word_end
  refine' Kt.dfn_c (x := "_integer_end") (st := Kt.s_integer_end) (ps := Kt.P_integer_end) KX G (fun _ _ _ _ _ _ us hl => match us, hl with | [_, _], _ => rfl) ?a ?l ?c ?k ?_
  (case a => k_is); (case l => k_is); (case c => k_is); (case k => k_is)
  intro D_integer_end
  refine' Kt.dfn_c (x := "_token") (st := Kt.s_token) (ps := Kt.P_token) KX G (fun _ _ _ _ _ _ us hl => match us, hl with | [_, _], _ => rfl) ?a ?l ?c ?k ?_
  (case a => k_is); (case l => k_is); (case c => k_is); (case k => k_is)
  intro D_token
  refine' Kt.dfn_c (x := "tokens") (st := Kt.s_tokens) (ps := Kt.P_tokens) KX G (fun _ _ _ _ _ _ us hl => match us, hl with | [_], _ => rfl) ?a ?l ?c ?k ?_
  (case a => k_is); (case l => k_is); (case c => k_is); (case k => k_is)
  intro D_tokens
  refine' Kt.mth_c (x := "__init__") (qual := "Parser.__init__") (st := Kt.s_parser_init) (ps := Kt.P_parser_init) KX e_mgC (fun _ _ _ _ _ _ us hl => match us, hl with | [_, _], _ => rfl) ?a ?i ?l ?c ?k ?_
  (case a => k_is); (case i => k_is); (case l => k_is); (case c => k_is); (case k => k_is)
  intro D_parser_init h_parser_init
  refine' Kt.peek_c KX e_mgC ?a ?i ?l ?c ?k ?d ?_
  (case a => k_is); (case i => k_is); (case l => k_is); (case c => k_is); (case k => k_is); (case d => k_is)
  intro D_m_peek
  refine' Kt.mth_c (x := "kind") (qual := "Parser.kind") (st := Kt.s_m_kind) (ps := Kt.P_m_kind) KX e_mgC (fun _ _ _ _ _ _ us hl => match us, hl with | [_], _ => rfl) ?a ?i ?l ?c ?k ?_
  (case a => k_is); (case i => k_is); (case l => k_is); (case c => k_is); (case k => k_is)
  intro D_m_kind h_m_kind
  refine' Kt.mth_c (x := "take") (qual := "Parser.take") (st := Kt.s_m_take) (ps := Kt.P_m_take) KX e_mgC (fun _ _ _ _ _ _ us hl => match us, hl with | [_, _], _ => rfl) ?a ?i ?l ?c ?k ?_
  (case a => k_is); (case i => k_is); (case l => k_is); (case c => k_is); (case k => k_is)
  intro D_m_take h_m_take
  refine' Kt.mth_c (x := "word") (qual := "Parser.word") (st := Kt.s_m_word) (ps := Kt.P_m_word) KX e_mgC (fun _ _ _ _ _ _ us hl => match us, hl with | [_, _], _ => rfl) ?a ?i ?l ?c ?k ?_
  (case a => k_is); (case i => k_is); (case l => k_is); (case c => k_is); (case k => k_is)
  intro D_m_word h_m_word
  refine' Kt.mth_c (x := "integer") (qual := "Parser.integer") (st := Kt.s_m_integer) (ps := Kt.P_m_integer) KX e_mgC (fun _ _ _ _ _ _ us hl => match us, hl with | [_], _ => rfl) ?a ?i ?l ?c ?k ?_
  (case a => k_is); (case i => k_is); (case l => k_is); (case c => k_is); (case k => k_is)
  intro D_m_integer h_m_integer
  refine' Kt.mth_c (x := "is_sign") (qual := "Parser.is_sign") (st := Kt.s_m_is_sign) (ps := Kt.P_m_is_sign) KX e_mgC (fun _ _ _ _ _ _ us hl => match us, hl with | [_, _], _ => rfl) ?a ?i ?l ?c ?k ?_
  (case a => k_is); (case i => k_is); (case l => k_is); (case c => k_is); (case k => k_is)
  intro D_m_is_sign h_m_is_sign
  refine' Kt.mth_c (x := "skip") (qual := "Parser.skip") (st := Kt.s_m_skip) (ps := Kt.P_m_skip) KX e_mgC (fun _ _ _ _ _ _ us hl => match us, hl with | [_, _], _ => rfl) ?a ?i ?l ?c ?k ?_
  (case a => k_is); (case i => k_is); (case l => k_is); (case c => k_is); (case k => k_is)
  intro D_m_skip h_m_skip
  refine' Kt.mth_c (x := "factor") (qual := "Parser.factor") (st := Kt.s_m_factor) (ps := Kt.P_m_factor) KX e_mgC (fun _ _ _ _ _ _ us hl => match us, hl with | [_], _ => rfl) ?a ?i ?l ?c ?k ?_
  (case a => k_is); (case i => k_is); (case l => k_is); (case c => k_is); (case k => k_is)
  intro D_m_factor h_m_factor
  refine' Kt.mth_c (x := "product") (qual := "Parser.product") (st := Kt.s_m_product) (ps := Kt.P_m_product) KX e_mgC (fun _ _ _ _ _ _ us hl => match us, hl with | [_], _ => rfl) ?a ?i ?l ?c ?k ?_
  (case a => k_is); (case i => k_is); (case l => k_is); (case c => k_is); (case k => k_is)
  intro D_m_product h_m_product
  refine' Kt.mth_c (x := "term") (qual := "Parser.term") (st := Kt.s_m_term) (ps := Kt.P_m_term) KX e_mgC (fun _ _ _ _ _ _ us hl => match us, hl with | [_], _ => rfl) ?a ?i ?l ?c ?k ?_
  (case a => k_is); (case i => k_is); (case l => k_is); (case c => k_is); (case k => k_is)
  intro D_m_term h_m_term
  refine' Kt.mth_c (x := "atom") (qual := "Parser.atom") (st := Kt.s_m_atom) (ps := Kt.P_m_atom) KX e_mgC (fun _ _ _ _ _ _ us hl => match us, hl with | [_], _ => rfl) ?a ?i ?l ?c ?k ?_
  (case a => k_is); (case i => k_is); (case l => k_is); (case c => k_is); (case k => k_is)
  intro D_m_atom h_m_atom
  refine' Kt.mth_c (x := "starts_atom") (qual := "Parser.starts_atom") (st := Kt.s_m_starts_atom) (ps := Kt.P_m_starts_atom) KX e_mgC (fun _ _ _ _ _ _ us hl => match us, hl with | [_], _ => rfl) ?a ?i ?l ?c ?k ?_
  (case a => k_is); (case i => k_is); (case l => k_is); (case c => k_is); (case k => k_is)
  intro D_m_starts_atom h_m_starts_atom
  refine' Kt.mth_c (x := "condition") (qual := "Parser.condition") (st := Kt.s_m_condition) (ps := Kt.P_m_condition) KX e_mgC (fun _ _ _ _ _ _ us hl => match us, hl with | [_], _ => rfl) ?a ?i ?l ?c ?k ?_
  (case a => k_is); (case i => k_is); (case l => k_is); (case c => k_is); (case k => k_is)
  intro D_m_condition h_m_condition
  refine' Kt.mth_c (x := "conditions") (qual := "Parser.conditions") (st := Kt.s_m_conditions) (ps := Kt.P_m_conditions) KX e_mgC (fun _ _ _ _ _ _ us hl => match us, hl with | [_], _ => rfl) ?a ?i ?l ?c ?k ?_
  (case a => k_is); (case i => k_is); (case l => k_is); (case c => k_is); (case k => k_is)
  intro D_m_conditions h_m_conditions
  refine' Kt.mth_c (x := "members") (qual := "Parser.members") (st := Kt.s_m_members) (ps := Kt.P_m_members) KX e_mgC (fun _ _ _ _ _ _ us hl => match us, hl with | [_], _ => rfl) ?a ?i ?l ?c ?k ?_
  (case a => k_is); (case i => k_is); (case l => k_is); (case c => k_is); (case k => k_is)
  intro D_m_members h_m_members
  refine' Kt.mth_c (x := "member") (qual := "Parser.member") (st := Kt.s_m_member) (ps := Kt.P_m_member) KX e_mgC (fun _ _ _ _ _ _ us hl => match us, hl with | [_], _ => rfl) ?a ?i ?l ?c ?k ?_
  (case a => k_is); (case i => k_is); (case l => k_is); (case c => k_is); (case k => k_is)
  intro D_m_member h_m_member
  refine' Kt.mth_c (x := "choices") (qual := "Parser.choices") (st := Kt.s_m_choices) (ps := Kt.P_m_choices) KX e_mgC (fun _ _ _ _ _ _ us hl => match us, hl with | [_], _ => rfl) ?a ?i ?l ?c ?k ?_
  (case a => k_is); (case i => k_is); (case l => k_is); (case c => k_is); (case k => k_is)
  intro D_m_choices h_m_choices
  refine' Kt.mth_c (x := "choice") (qual := "Parser.choice") (st := Kt.s_m_choice) (ps := Kt.P_m_choice) KX e_mgC (fun _ _ _ _ _ _ us hl => match us, hl with | [_], _ => rfl) ?a ?i ?l ?c ?k ?_
  (case a => k_is); (case i => k_is); (case l => k_is); (case c => k_is); (case k => k_is)
  intro D_m_choice h_m_choice
  refine' Kt.mth_c (x := "part") (qual := "Parser.part") (st := Kt.s_m_part) (ps := Kt.P_m_part) KX e_mgC (fun _ _ _ _ _ _ us hl => match us, hl with | [_], _ => rfl) ?a ?i ?l ?c ?k ?_
  (case a => k_is); (case i => k_is); (case l => k_is); (case c => k_is); (case k => k_is)
  intro D_m_part h_m_part
  refine' Kt.mth_c (x := "body") (qual := "Parser.body") (st := Kt.s_m_body) (ps := Kt.P_m_body) KX e_mgC (fun _ _ _ _ _ _ us hl => match us, hl with | [_], _ => rfl) ?a ?i ?l ?c ?k ?_
  (case a => k_is); (case i => k_is); (case l => k_is); (case c => k_is); (case k => k_is)
  intro D_m_body h_m_body
  refine' Kt.mth_c (x := "optional_body") (qual := "Parser.optional_body") (st := Kt.s_m_optional_body) (ps := Kt.P_m_optional_body) KX e_mgC (fun _ _ _ _ _ _ us hl => match us, hl with | [_], _ => rfl) ?a ?i ?l ?c ?k ?_
  (case a => k_is); (case i => k_is); (case l => k_is); (case c => k_is); (case k => k_is)
  intro D_m_optional_body h_m_optional_body
  refine' Kt.mth_c (x := "choose") (qual := "Parser.choose") (st := Kt.s_m_choose) (ps := Kt.P_m_choose) KX e_mgC (fun _ _ _ _ _ _ us hl => match us, hl with | [_], _ => rfl) ?a ?i ?l ?c ?k ?_
  (case a => k_is); (case i => k_is); (case l => k_is); (case c => k_is); (case k => k_is)
  intro D_m_choose h_m_choose
  refine' Kt.mth_c (x := "statement") (qual := "Parser.statement") (st := Kt.s_m_statement) (ps := Kt.P_m_statement) KX e_mgC (fun _ _ _ _ _ _ us hl => match us, hl with | [_], _ => rfl) ?a ?i ?l ?c ?k ?_
  (case a => k_is); (case i => k_is); (case l => k_is); (case c => k_is); (case k => k_is)
  intro D_m_statement h_m_statement
  refine' Kt.dfn_c (x := "_too_deep") (st := Kt.s_too_deep) (ps := Kt.P_too_deep) KX G (fun _ _ _ _ _ _ us hl => match us, hl with | [_], _ => rfl) ?a ?l ?c ?k ?_
  (case a => k_is); (case l => k_is); (case c => k_is); (case k => k_is)
  intro D_too_deep
  refine' Kt.dfn_c (x := "parse") (st := Kt.s_parse) (ps := Kt.P_parse) KX G (fun _ _ _ _ _ _ us hl => match us, hl with | [_], _ => rfl) ?a ?l ?c ?k ?_
  (case a => k_is); (case l => k_is); (case c => k_is); (case k => k_is)
  intro D_parse
  refine' Kt.dfn_c (x := "format_term") (st := Kt.s_format_term) (ps := Kt.P_format_term) KX G (fun _ _ _ _ _ _ us hl => match us, hl with | [_], _ => rfl) ?a ?l ?c ?k ?_
  (case a => k_is); (case l => k_is); (case c => k_is); (case k => k_is)
  intro D_format_term
  refine' Kt.dfn_c (x := "format_atom") (st := Kt.s_format_atom) (ps := Kt.P_format_atom) KX G (fun _ _ _ _ _ _ us hl => match us, hl with | [_], _ => rfl) ?a ?l ?c ?k ?_
  (case a => k_is); (case l => k_is); (case c => k_is); (case k => k_is)
  intro D_format_atom
  refine' Kt.dfn_c (x := "format_condition") (st := Kt.s_format_condition) (ps := Kt.P_format_condition) KX G (fun _ _ _ _ _ _ us hl => match us, hl with | [_], _ => rfl) ?a ?l ?c ?k ?_
  (case a => k_is); (case l => k_is); (case c => k_is); (case k => k_is)
  intro D_format_condition
  refine' Kt.dfn_c (x := "_with_conditions") (st := Kt.s_with_conditions) (ps := Kt.P_with_conditions) KX G (fun _ _ _ _ _ _ us hl => match us, hl with | [_, _], _ => rfl) ?a ?l ?c ?k ?_
  (case a => k_is); (case l => k_is); (case c => k_is); (case k => k_is)
  intro D_with_conditions
  refine' Kt.dfn_c (x := "format_members") (st := Kt.s_format_members) (ps := Kt.P_format_members) KX G (fun _ _ _ _ _ _ us hl => match us, hl with | [_], _ => rfl) ?a ?l ?c ?k ?_
  (case a => k_is); (case l => k_is); (case c => k_is); (case k => k_is)
  intro D_format_members
  refine' Kt.dfn_c (x := "format_part") (st := Kt.s_format_part) (ps := Kt.P_format_part) KX G (fun _ _ _ _ _ _ us hl => match us, hl with | [_], _ => rfl) ?a ?l ?c ?k ?_
  (case a => k_is); (case l => k_is); (case c => k_is); (case k => k_is)
  intro D_format_part
  refine' Kt.dfn_c (x := "_body") (st := Kt.s_body) (ps := Kt.P_body) KX G (fun _ _ _ _ _ _ us hl => match us, hl with | [_], _ => rfl) ?a ?l ?c ?k ?_
  (case a => k_is); (case l => k_is); (case c => k_is); (case k => k_is)
  intro D_body
  refine' Kt.dfn_c (x := "_head") (st := Kt.s_head) (ps := Kt.P_head) KX G (fun _ _ _ _ _ _ us hl => match us, hl with | [_], _ => rfl) ?a ?l ?c ?k ?_
  (case a => k_is); (case l => k_is); (case c => k_is); (case k => k_is)
  intro D_head
  refine' Kt.dfn_c (x := "format_statement") (st := Kt.s_format_statement) (ps := Kt.P_format_statement) KX G (fun _ _ _ _ _ _ us hl => match us, hl with | [_], _ => rfl) ?a ?l ?c ?k ?_
  (case a => k_is); (case l => k_is); (case c => k_is); (case k => k_is)
  intro D_format_statement
  refine' Kt.dfn_c (x := "format_text") (st := Kt.s_format_text) (ps := Kt.P_format_text) KX G (fun _ _ _ _ _ _ us hl => match us, hl with | [_], _ => rfl) ?a ?l ?c ?k ?_
  (case a => k_is); (case l => k_is); (case c => k_is); (case k => k_is)
  intro D_format_text
  refine' Kt.dfn_c (x := "_law_state") (st := Kt.s_law_state) (ps := Kt.P_law_state) KX G (fun _ _ _ _ _ _ us hl => match us, hl with | [_], _ => rfl) ?a ?l ?c ?k ?_
  (case a => k_is); (case l => k_is); (case c => k_is); (case k => k_is)
  intro D_law_state
  refine' Kt.dfn_c (x := "_law_draw") (st := Kt.s_law_draw) (ps := Kt.P_law_draw) KX G (fun _ _ _ _ _ _ us hl => match us, hl with | [_, _], _ => rfl) ?a ?l ?c ?k ?_
  (case a => k_is); (case l => k_is); (case c => k_is); (case k => k_is)
  intro D_law_draw
  refine' Kt.dfn_c (x := "_law_name") (st := Kt.s_law_name) (ps := Kt.P_law_name) KX G (fun _ _ _ _ _ _ us hl => match us, hl with | [_], _ => rfl) ?a ?l ?c ?k ?_
  (case a => k_is); (case l => k_is); (case c => k_is); (case k => k_is)
  intro D_law_name
  refine' Kt.dfn_c (x := "_law_term") (st := Kt.s_law_term) (ps := Kt.P_law_term) KX G (fun _ _ _ _ _ _ us hl => match us, hl with | [_, _], _ => rfl) ?a ?l ?c ?k ?_
  (case a => k_is); (case l => k_is); (case c => k_is); (case k => k_is)
  intro D_law_term
  refine' Kt.dfn_c (x := "_law_atom") (st := Kt.s_law_atom) (ps := Kt.P_law_atom) KX G (fun _ _ _ _ _ _ us hl => match us, hl with | [_], _ => rfl) ?a ?l ?c ?k ?_
  (case a => k_is); (case l => k_is); (case c => k_is); (case k => k_is)
  intro D_law_atom
  refine' Kt.dfn_c (x := "_law_condition") (st := Kt.s_law_condition) (ps := Kt.P_law_condition) KX G (fun _ _ _ _ _ _ us hl => match us, hl with | [_], _ => rfl) ?a ?l ?c ?k ?_
  (case a => k_is); (case l => k_is); (case c => k_is); (case k => k_is)
  intro D_law_condition
  refine' Kt.dfn_c (x := "_law_conditions") (st := Kt.s_law_conditions) (ps := Kt.P_law_conditions) KX G (fun _ _ _ _ _ _ us hl => match us, hl with | [_, _], _ => rfl) ?a ?l ?c ?k ?_
  (case a => k_is); (case l => k_is); (case c => k_is); (case k => k_is)
  intro D_law_conditions
  refine' Kt.dfn_c (x := "_law_members") (st := Kt.s_law_members) (ps := Kt.P_law_members) KX G (fun _ _ _ _ _ _ us hl => match us, hl with | [_], _ => rfl) ?a ?l ?c ?k ?_
  (case a => k_is); (case l => k_is); (case c => k_is); (case k => k_is)
  intro D_law_members
  refine' Kt.dfn_c (x := "_law_body") (st := Kt.s_law_body) (ps := Kt.P_law_body) KX G (fun _ _ _ _ _ _ us hl => match us, hl with | [_], _ => rfl) ?a ?l ?c ?k ?_
  (case a => k_is); (case l => k_is); (case c => k_is); (case k => k_is)
  intro D_law_body
  refine' Kt.dfn_c (x := "_law_statement") (st := Kt.s_law_statement) (ps := Kt.P_law_statement) KX G (fun _ _ _ _ _ _ us hl => match us, hl with | [_], _ => rfl) ?a ?l ?c ?k ?_
  (case a => k_is); (case l => k_is); (case c => k_is); (case k => k_is)
  intro D_law_statement
  refine' Kt.dfn_c (x := "_law_size") (st := Kt.s_law_size) (ps := Kt.P_law_size) KX G (fun _ _ _ _ _ _ us hl => match us, hl with | [_], _ => rfl) ?a ?l ?c ?k ?_
  (case a => k_is); (case l => k_is); (case c => k_is); (case k => k_is)
  intro D_law_size
  refine' Kt.dfn_c (x := "law") (st := Kt.s_law) (ps := Kt.P_law) KX G (fun _ _ _ _ _ _ us hl => match us, hl with | [_], _ => rfl) ?a ?l ?c ?k ?_
  (case a => k_is); (case l => k_is); (case c => k_is); (case k => k_is)
  intro D_law
  refine' Kt.mk_c KX e_mgC ?m ?a ?i ?kc ?_
  (case m => k_is); (case a => k_is); (case i => k_is); (case kc => k_is)
  intro M0
  exact Kt.law_fin KX G Gd.T.b Gd.T.builtins Gd.T.nolimit hgen hobj hints hlen hfa { C := _, cl := e_cl, mgC := e_mgC, nFound := e_n1, nAt := e_n2, nMost := e_n3, tLOWER := _, gLOWER := e_LOWER, tUPPER := _, gUPPER := e_UPPER, tDIGITS := _, gDIGITS := e_DIGITS, aPAIRS := _, gPAIRS := e_PAIRS, qPAIRS := q_PAIRS, tSINGLES := _, gSINGLES := e_SINGLES, tSPACES := _, gSPACES := e_SPACES, tLONGEST_WORD := _, gLONGEST_WORD := e_LONGEST_WORD, tLONGEST_INTEGER := _, gLONGEST_INTEGER := e_LONGEST_INTEGER, tLONGEST_TEXT := _, gLONGEST_TEXT := e_LONGEST_TEXT, aKEYWORDS := _, gKEYWORDS := e_KEYWORDS, qKEYWORDS := q_KEYWORDS, aCOMPARISONS := _, gCOMPARISONS := e_COMPARISONS, qCOMPARISONS := q_COMPARISONS, tDEEPEST := _, gDEEPEST := e_DEEPEST, tMOST_STATEMENTS := _, gMOST_STATEMENTS := e_MOST_STATEMENTS, tMOST_TERMS := _, gMOST_TERMS := e_MOST_TERMS, tMOST_WORDS := _, gMOST_WORDS := e_MOST_WORDS, zlen := z_len, zmin := z_min, zmax := z_max, zint := z_int, zstr := z_str, zabs := z_abs, zrange := z_range, zrepr := z_repr, zisinstance := z_isinstance, zlist := z_list, word_end := D_word_end, integer_end := D_integer_end, token := D_token, tokens := D_tokens, parser_init := D_parser_init, m_peek := D_m_peek, m_kind := D_m_kind, m_take := D_m_take, m_word := D_m_word, m_integer := D_m_integer, m_is_sign := D_m_is_sign, m_skip := D_m_skip, m_factor := D_m_factor, m_product := D_m_product, m_term := D_m_term, m_atom := D_m_atom, m_starts_atom := D_m_starts_atom, m_condition := D_m_condition, m_conditions := D_m_conditions, m_members := D_m_members, m_member := D_m_member, m_choices := D_m_choices, m_choice := D_m_choice, m_part := D_m_part, m_body := D_m_body, m_optional_body := D_m_optional_body, m_choose := D_m_choose, m_statement := D_m_statement, too_deep := D_too_deep, parse := D_parse, format_term := D_format_term, format_atom := D_format_atom, format_condition := D_format_condition, with_conditions := D_with_conditions, format_members := D_format_members, format_part := D_format_part, body := D_body, head := D_head, format_statement := D_format_statement, format_text := D_format_text, law_state := D_law_state, law_draw := D_law_draw, law_name := D_law_name, law_term := D_law_term, law_atom := D_law_atom, law_condition := D_law_condition, law_conditions := D_law_conditions, law_members := D_law_members, law_body := D_law_body, law_statement := D_law_statement, law_size := D_law_size, law := D_law, mkP := (by rw [h_parser_init]; exact M0) }
