import PyProof.Rows.All
import Wide.All
import OpenK.AllK
import Wide.FinOn
import HandS.ForMost
import HandS.Defaults
import HandS.HeadHook1
import HandS.HeadHook2
import HandS.HeadHook3
import HandS.HeadHook4
import PySem.Challenge.RW_turncoins_k82_whole_starts_that_part
import KE.KStateDown
import HandS.Head0
import HandS.Head1
import HandS.Head2
import HandS.HeadEnd
import HandS.Codes
import HandS.IsInst
import HandS.Style
import HandS.Replace
import HandS.Conv
set_option Elab.async false
set_option linter.all false
set_option maxRecDepth 100000
set_option maxHeartbeats 4000000
/-! Turncoins: the text by places, the facts by names (printed by gen.py). -/
namespace TC
open PySem PySem.Spec PyProof.Rows L2
def top (i : Nat) : Stmt := PySem.Challenge.pw_turncoins_k82_whole_starts_that_part.main.body.getD i (.Pass ⟨0, 0, 0, 0⟩)
abbrev s_bit_of : Stmt := top 21
abbrev s_is_gate : Stmt := top 29
abbrev s_gate_of : Stmt := top 30
abbrev s_gates_from : Stmt := top 31
abbrev s_first_images : Stmt := top 77
abbrev s_images : Stmt := top 78
abbrev s_start_beside : Stmt := top 79
abbrev s_parting : Stmt := top 80
abbrev s_read_figure : Stmt := top 90
abbrev s_read_gate : Stmt := top 91
abbrev s_read_gates : Stmt := top 92
abbrev s_is_known : Stmt := top 100
abbrev s_read_within : Stmt := top 103
abbrev s_told_parting : Stmt := top 106
abbrev s__law_cell : Stmt := top 110
abbrev s__law_gate : Stmt := top 111
abbrev s__law_bit : Stmt := top 112
abbrev s__law_made : Stmt := top 113
abbrev s__law_gcd : Stmt := top 114
abbrev s__law_least : Stmt := top 115
abbrev s__law_gates_text : Stmt := top 116
abbrev s__law_otherwise : Stmt := top 117
abbrev s__law_rewritten : Stmt := top 118
abbrev s__law_end : Stmt := top 119
abbrev s__law_alike : Stmt := top 120
abbrev s_law : Stmt := top 121
abbrev s_Mix_on_row : Stmt := inClass (top 23) 1
abbrev s_Flip_on_row : Stmt := inClass (top 24) 1
abbrev s_Sign_on_row : Stmt := inClass (top 25) 1
abbrev s_Follow_on_row : Stmt := inClass (top 26) 1
abbrev s_Meet_on_row : Stmt := inClass (top 27) 1
abbrev s_Swap_on_row : Stmt := inClass (top 28) 2
abbrev s_Swap_changed : Stmt := inClass (top 28) 0
abbrev s_Desk_say : Stmt := inClass (top 108) 5
abbrev s_Gate_init : Stmt := inClass (top 22) 0
abbrev s_Desk_init : Stmt := inClass (top 108) 0
abbrev FnP (K : PySem.W.Frag) (x qual : Str) (st : Stmt) (f : Addr) (fd : FuncData) : Prop := FunD K x qual (defArgs st) (defBody st) (defScope st) [] [] f fd
def d_bit_of : He.DefD := ⟨("bit_of", none), "bit_of", "bit_of", defArgs s_bit_of, defBody s_bit_of, defScope s_bit_of, [], []⟩
def d_is_gate : He.DefD := ⟨("is_gate", none), "is_gate", "is_gate", defArgs s_is_gate, defBody s_is_gate, defScope s_is_gate, [], []⟩
def d_gate_of : He.DefD := ⟨("gate_of", none), "gate_of", "gate_of", defArgs s_gate_of, defBody s_gate_of, defScope s_gate_of, [], []⟩
def d_gates_from : He.DefD := ⟨("gates_from", none), "gates_from", "gates_from", defArgs s_gates_from, defBody s_gates_from, defScope s_gates_from, [], []⟩
def d_first_images : He.DefD := ⟨("first_images", none), "first_images", "first_images", defArgs s_first_images, defBody s_first_images, defScope s_first_images, [], []⟩
def d_images : He.DefD := ⟨("images", none), "images", "images", defArgs s_images, defBody s_images, defScope s_images, [], []⟩
def d_start_beside : He.DefD := ⟨("start_beside", none), "start_beside", "start_beside", defArgs s_start_beside, defBody s_start_beside, defScope s_start_beside, [], []⟩
def d_parting : He.DefD := ⟨("parting", none), "parting", "parting", defArgs s_parting, defBody s_parting, defScope s_parting, [], []⟩
def d_read_figure : He.DefD := ⟨("read_figure", none), "read_figure", "read_figure", defArgs s_read_figure, defBody s_read_figure, defScope s_read_figure, [], []⟩
def d_read_gate : He.DefD := ⟨("read_gate", none), "read_gate", "read_gate", defArgs s_read_gate, defBody s_read_gate, defScope s_read_gate, [], []⟩
def d_read_gates : He.DefD := ⟨("read_gates", none), "read_gates", "read_gates", defArgs s_read_gates, defBody s_read_gates, defScope s_read_gates, [], []⟩
def d_is_known : He.DefD := ⟨("is_known", none), "is_known", "is_known", defArgs s_is_known, defBody s_is_known, defScope s_is_known, [], []⟩
def d_read_within : He.DefD := ⟨("read_within", none), "read_within", "read_within", defArgs s_read_within, defBody s_read_within, defScope s_read_within, [], []⟩
def d_told_parting : He.DefD := ⟨("told_parting", none), "told_parting", "told_parting", defArgs s_told_parting, defBody s_told_parting, defScope s_told_parting, [], []⟩
def d__law_cell : He.DefD := ⟨("_law_cell", none), "_law_cell", "_law_cell", defArgs s__law_cell, defBody s__law_cell, defScope s__law_cell, [], []⟩
def d__law_gate : He.DefD := ⟨("_law_gate", none), "_law_gate", "_law_gate", defArgs s__law_gate, defBody s__law_gate, defScope s__law_gate, [], []⟩
def d__law_bit : He.DefD := ⟨("_law_bit", none), "_law_bit", "_law_bit", defArgs s__law_bit, defBody s__law_bit, defScope s__law_bit, [], []⟩
def d__law_made : He.DefD := ⟨("_law_made", none), "_law_made", "_law_made", defArgs s__law_made, defBody s__law_made, defScope s__law_made, [], []⟩
def d__law_gcd : He.DefD := ⟨("_law_gcd", none), "_law_gcd", "_law_gcd", defArgs s__law_gcd, defBody s__law_gcd, defScope s__law_gcd, [], []⟩
def d__law_least : He.DefD := ⟨("_law_least", none), "_law_least", "_law_least", defArgs s__law_least, defBody s__law_least, defScope s__law_least, [], []⟩
def d__law_gates_text : He.DefD := ⟨("_law_gates_text", none), "_law_gates_text", "_law_gates_text", defArgs s__law_gates_text, defBody s__law_gates_text, defScope s__law_gates_text, [], []⟩
def d__law_otherwise : He.DefD := ⟨("_law_otherwise", none), "_law_otherwise", "_law_otherwise", defArgs s__law_otherwise, defBody s__law_otherwise, defScope s__law_otherwise, [], []⟩
def d__law_rewritten : He.DefD := ⟨("_law_rewritten", none), "_law_rewritten", "_law_rewritten", defArgs s__law_rewritten, defBody s__law_rewritten, defScope s__law_rewritten, [], []⟩
def d__law_end : He.DefD := ⟨("_law_end", none), "_law_end", "_law_end", defArgs s__law_end, defBody s__law_end, defScope s__law_end, [], []⟩
def d__law_alike : He.DefD := ⟨("_law_alike", none), "_law_alike", "_law_alike", defArgs s__law_alike, defBody s__law_alike, defScope s__law_alike, [], []⟩
def d_law : He.DefD := ⟨("law", none), "law", "law", defArgs s_law, defBody s_law, defScope s_law, [], []⟩
def d_Mix_init : He.DefD := ⟨("Mix", some "__init__"), "__init__", "Gate.__init__", defArgs s_Gate_init, defBody s_Gate_init, defScope s_Gate_init, [], []⟩
def d_Mix_on_row : He.DefD := ⟨("Mix", some "on_row"), "on_row", "Mix.on_row", defArgs s_Mix_on_row, defBody s_Mix_on_row, defScope s_Mix_on_row, [], []⟩
def d_Flip_init : He.DefD := ⟨("Flip", some "__init__"), "__init__", "Gate.__init__", defArgs s_Gate_init, defBody s_Gate_init, defScope s_Gate_init, [], []⟩
def d_Flip_on_row : He.DefD := ⟨("Flip", some "on_row"), "on_row", "Flip.on_row", defArgs s_Flip_on_row, defBody s_Flip_on_row, defScope s_Flip_on_row, [], []⟩
def d_Sign_init : He.DefD := ⟨("Sign", some "__init__"), "__init__", "Gate.__init__", defArgs s_Gate_init, defBody s_Gate_init, defScope s_Gate_init, [], []⟩
def d_Sign_on_row : He.DefD := ⟨("Sign", some "on_row"), "on_row", "Sign.on_row", defArgs s_Sign_on_row, defBody s_Sign_on_row, defScope s_Sign_on_row, [], []⟩
def d_Follow_init : He.DefD := ⟨("Follow", some "__init__"), "__init__", "Gate.__init__", defArgs s_Gate_init, defBody s_Gate_init, defScope s_Gate_init, [], []⟩
def d_Follow_on_row : He.DefD := ⟨("Follow", some "on_row"), "on_row", "Follow.on_row", defArgs s_Follow_on_row, defBody s_Follow_on_row, defScope s_Follow_on_row, [], []⟩
def d_Meet_init : He.DefD := ⟨("Meet", some "__init__"), "__init__", "Gate.__init__", defArgs s_Gate_init, defBody s_Gate_init, defScope s_Gate_init, [], []⟩
def d_Meet_on_row : He.DefD := ⟨("Meet", some "on_row"), "on_row", "Meet.on_row", defArgs s_Meet_on_row, defBody s_Meet_on_row, defScope s_Meet_on_row, [], []⟩
def d_Swap_init : He.DefD := ⟨("Swap", some "__init__"), "__init__", "Gate.__init__", defArgs s_Gate_init, defBody s_Gate_init, defScope s_Gate_init, [], []⟩
def d_Swap_on_row : He.DefD := ⟨("Swap", some "on_row"), "on_row", "Swap.on_row", defArgs s_Swap_on_row, defBody s_Swap_on_row, defScope s_Swap_on_row, [], []⟩
def d_Swap_changed : He.DefD := ⟨("Swap", some "changed"), "changed", "Swap.changed", defArgs s_Swap_changed, defBody s_Swap_changed, defScope s_Swap_changed, [], []⟩
def d_Desk_init : He.DefD := ⟨("Desk", some "__init__"), "__init__", "Desk.__init__", defArgs s_Desk_init, defBody s_Desk_init, defScope s_Desk_init, [], []⟩
def d_Desk_say : He.DefD := ⟨("Desk", some "say"), "say", "Desk.say", defArgs s_Desk_say, defBody s_Desk_say, defScope s_Desk_say, [], []⟩
def fn : List He.DefD := [d_bit_of, d_is_gate, d_gate_of, d_gates_from, d_first_images, d_images, d_start_beside, d_parting, d_read_figure, d_read_gate, d_read_gates, d_is_known, d_read_within, d_told_parting, d__law_cell, d__law_gate, d__law_bit, d__law_made, d__law_gcd, d__law_least, d__law_gates_text, d__law_otherwise, d__law_rewritten, d__law_end, d__law_alike, d_law, d_Mix_init, d_Mix_on_row, d_Flip_init, d_Flip_on_row, d_Sign_init, d_Sign_on_row, d_Follow_init, d_Follow_on_row, d_Meet_init, d_Meet_on_row, d_Swap_init, d_Swap_on_row, d_Swap_changed, d_Desk_init, d_Desk_say]
def fa0 : List He.Fa := [.glo "bit_of", .glo "is_gate", .glo "gate_of", .glo "gates_from", .glo "first_images", .glo "images", .glo "start_beside", .glo "parting", .glo "read_figure", .glo "read_gate", .glo "read_gates", .glo "is_known", .glo "read_within", .glo "told_parting", .glo "_law_cell", .glo "_law_gate", .glo "_law_bit", .glo "_law_made", .glo "_law_gcd", .glo "_law_least", .glo "_law_gates_text", .glo "_law_otherwise", .glo "_law_rewritten", .glo "_law_end", .glo "_law_alike", .glo "law", .glo "Mix", .cls "Mix", .mkr "Mix", .noat "Mix" "first"]
def fa1 : List He.Fa := [.noat "Mix" "second", .meth "Mix" "on_row", .glo "Flip", .cls "Flip", .mkr "Flip", .noat "Flip" "first", .noat "Flip" "second", .meth "Flip" "on_row", .glo "Sign", .cls "Sign", .mkr "Sign", .noat "Sign" "first", .noat "Sign" "second", .meth "Sign" "on_row", .glo "Follow", .cls "Follow", .mkr "Follow", .noat "Follow" "first", .noat "Follow" "second", .meth "Follow" "on_row", .glo "Meet", .cls "Meet", .mkr "Meet", .noat "Meet" "first", .noat "Meet" "second", .meth "Meet" "on_row", .glo "Swap", .cls "Swap", .mkr "Swap", .noat "Swap" "first"]
def fa2 : List He.Fa := [.noat "Swap" "second", .meth "Swap" "on_row", .meth "Swap" "changed", .glo "Desk", .cls "Desk", .mkr "Desk", .noat "Desk" "kept", .meth "Desk" "say", .free "len", .free "range", .free "enumerate", .free "isinstance", .free "tuple", .free "sum", .free "int", .free "str", .free "list", .free "abs", .free "all", .free "bool", .str "FIGURES" "0123456789", .glo "PARTS_gates", .glo "PARTS_texts"]
def fa : List He.Fa := fa0 ++ fa1 ++ fa2
def pkeys : List Str := ["mix", "flip", "sign", "follow", "meet", "swap"]
def pvals : List (Str × He.Dv) := [("mix", .int 2), ("flip", .int 2), ("sign", .int 2), ("follow", .int 3), ("meet", .int 3), ("swap", .int 3)]
def ts : List He.Tab := [(fun K => He.ga K "PARTS_gates", pkeys), (fun K => He.ga K "PARTS_texts", pkeys)]
def ex (K : PySem.W.Frag) : Bool := He.valsB K (He.ga K "PARTS_gates") pvals && He.valsB K (He.ga K "PARTS_texts") pvals
def Says (w : World) (K : PySem.W.Frag) : Prop := He.SaysT fa fn ts w K ∧ ex K = true
end TC
set_option Elab.async false
set_option linter.all false
set_option maxRecDepth 100000
set_option maxHeartbeats 0
/-! Turncoins: the head, by one run in the kernel (printed by gen.py). -/
namespace TC
open PySem PySem.Spec PyProof.Rows L2
abbrev R : PySem.W.OpenRow := PySem.W.OpenLaw.row PySem.Challenge.rw_turncoins_k82_whole_starts_that_part
/-- the addresses that the facts look at -/
def as0 : List Addr := [3, 221, 418, 425, 430, 712, 717, 724, 731, 910, 915, 920, 949, 970, 991, 1057, 1064, 1071, 1078, 1085, 1090, 1095, 1102, 1109, 1114, 1119, 1124, 252, 280, 304, 328, 352, 378, 409, 1046]
def as1 : List Addr := [214, 903, 220, 417, 424, 429, 711, 716, 723, 730, 909, 914, 919, 948, 969, 990, 1056, 1063, 1070, 1077, 1084, 1089, 1094, 1101, 1108, 1113, 1118, 1123, 251, 279, 303, 327, 351, 377, 408]
def as2 : List Addr := [1045, 235, 277, 301, 325, 349, 375, 394, 406, 1010, 1043, 234, 276, 300, 324, 348, 374, 393, 405, 1009, 1042]
def as_ : List Addr := as0 ++ (as1 ++ as2)
def obsA (g : Addr → Option Obj) : He.AlT × Bool := (He.obsT fa fn ts (He.frG g as_), ex (He.frG g as_))
def hk : PySem.W.Hook where
  α := He.AlT × Bool
  obs := fun s => obsA s.heap.get?
  val := fun w => (He.valT fn ts w, true)
  says := fun w h => ∃ K : PySem.W.Frag, K.In h ∧ Says w K
  of := fun _ _ e => ⟨_, He.frG_in, congrArg (fun z : He.AlT × Bool => z.1) e, congrArg (fun z : He.AlT × Bool => z.2) e⟩
  keeps := fun _ _ _ ⟨K, hK, c⟩ k => ⟨K, PySem.W.Frag.In.keeps hK k, c⟩
def ob (s : PySem.W.SharedT) : He.AlT × Bool := obsA (HandSHeadRun.getT s)
theorem ob_eq (s : PySem.W.SharedT) : ob s = hk.obs s.abs := by
  show obsA (HandSHeadRun.getT s) = obsA s.abs.heap.get?
  rw [show HandSHeadRun.getT s = s.abs.heap.get? from funext (HandSHeadRun.getT_eq s)]
def nm0 : List Str := ["_wall", "CoinError", "NoList", "NoGate", "NoLook", "NotFree", "NoRows", "NoShort", "NoCode", "CantMend", "NoText", "NoName", "NoLine", "coins_of", "divisor", "least", "first_list", "PARTS_gates", "bit_of", "Gate", "Mix", "Flip", "Sign", "Follow", "Meet", "Swap", "is_gate", "gate_of", "gates_from", "turned_by"]
def nm1 : List Str := ["many_bits", "sign_by", "laid", "product", "agree", "is_even", "letters", "fraction", "check_look", "chance", "looked", "columns_of", "lead_of", "cleared", "steps_of", "numbers_in", "check_free", "made_of", "least_rows", "MOST_COINS", "first_rows", "is_within", "checked", "rows_turned", "rows_behind", "rows_looked", "is_there", "list_of", "low_bit", "basis_of"]
def nm2 : List Str := ["rows_without", "row_with", "rows_of", "overlap", "all_made", "turns_of", "Code", "first_images", "images", "start_beside", "parting", "Telling", "LongTelling", "ShortTelling", "telling_of", "PARTS_texts", "FIGURES", "LETTERS", "read_figure", "read_gate", "read_gates", "show_row", "read_row", "ties", "COUNTS", "SMALL", "is_known", "is_name", "show_fraction", "read_within"]
def nm3 : List Str := ["row_of", "part_of", "told_parting", "told_mending", "Desk", "_law_cell", "_law_gate", "_law_bit", "_law_made", "_law_gcd", "_law_least", "_law_gates_text", "_law_otherwise", "_law_rewritten", "_law_end", "_law_alike"]
def loose : List Str := nm0 ++ nm1 ++ nm2 ++ nm3
theorem run0 (w : World) : HandSHeadRun.RunEq R (PySem.W.view R.prog [121]) hk ob 20000 loose (w.withFollow "special-get-raises" false) := by
  intro os
  kernel_rfl
theorem run1 (w : World) : HandSHeadRun.RunEq R (PySem.W.view R.prog [121]) hk ob 20000 loose (w.withFollow "special-get-raises" true) := by
  intro os
  kernel_rfl
theorem run (w : World) : HandSHeadRun.RunEq R (PySem.W.view R.prog [121]) hk ob 20000 loose w := PySem.W.byRow2 (P := fun w => HandSHeadRun.RunEq R (PySem.W.view R.prog [121]) hk ob 20000 loose w) "special-get-raises" run0 run1 w
end TC
set_option Elab.async false
set_option linter.all false
/-! Turncoins, the plain law: gates on lists and on rows of signs, with no program in sight. -/
namespace TC
/-! ### gates, rows, functions of places -/
inductive G where
  | mix (c : Nat) | flip (c : Nat) | sign (c : Nat) | follow (c d : Nat) | meet (c d : Nat) | swap (c d : Nat)
  deriving DecidableEq
def G.ok (n : Nat) : G → Prop
  | .mix c => c < n
  | .flip c => c < n
  | .sign c => c < n
  | .follow c d => c < n ∧ d < n ∧ c ≠ d
  | .meet c d => c < n ∧ d < n ∧ c ≠ d
  | .swap c d => c < n ∧ d < n ∧ c ≠ d
structure Row where
  s : Int
  x : Nat
  z : Nat
  deriving DecidableEq
def sg (b : Bool) : Int := if b then -1 else 1
def fl (b : Bool) (c : Nat) : Nat := if b then 2 ^ c else 0
def U : G → (Nat → Int) → Nat → Int
  | .mix c, f, p => f (p ^^^ 2 ^ c) + sg (p.testBit c) * f p
  | .flip c, f, p => f (p ^^^ 2 ^ c)
  | .sign c, f, p => sg (p.testBit c) * f p
  | .follow c d, f, p => f (p ^^^ fl (p.testBit c) d)
  | .meet c d, f, p => sg (p.testBit c && p.testBit d) * f p
  | .swap c d, f, p => f (p ^^^ fl (p.testBit c ^^ p.testBit d) c ^^^ fl (p.testBit c ^^ p.testBit d) d)
def chg (c d m : Nat) : Nat := m ^^^ fl (m.testBit c ^^ m.testBit d) c ^^^ fl (m.testBit c ^^ m.testBit d) d
def onRow : G → Row → Row
  | .mix c, r => ⟨r.s * sg (r.x.testBit c && r.z.testBit c), r.x ^^^ fl (r.x.testBit c ^^ r.z.testBit c) c, r.z ^^^ fl (r.x.testBit c ^^ r.z.testBit c) c⟩
  | .flip c, r => ⟨r.s * sg (r.z.testBit c), r.x, r.z⟩
  | .sign c, r => ⟨r.s * sg (r.x.testBit c), r.x, r.z⟩
  | .follow c d, r => ⟨r.s, r.x ^^^ fl (r.x.testBit c) d, r.z ^^^ fl (r.z.testBit d) c⟩
  | .meet c d, r => ⟨r.s * sg (r.x.testBit c && r.x.testBit d), r.x, r.z ^^^ fl (r.x.testBit c) d ^^^ fl (r.x.testBit d) c⟩
  | .swap c d, r => ⟨r.s, chg c d r.x, chg c d r.z⟩
/-! ### bits -/
theorem tb_fl (b : Bool) (c i : Nat) : (fl b c).testBit i = (b && decide (c = i)) := by
  cases b
  · show (0 : Nat).testBit i = _
    simp
  · show (2 ^ c).testBit i = _
    rw [Nat.testBit_two_pow]
    simp
theorem tb_x (p q i : Nat) : (p ^^^ q).testBit i = (p.testBit i ^^ q.testBit i) := Nat.testBit_xor p q i
theorem tb_p (c i : Nat) : (2 ^ c).testBit i = decide (c = i) := Nat.testBit_two_pow
theorem xx (p q : Nat) : p ^^^ q ^^^ q = p := by rw [Nat.xor_assoc, Nat.xor_self, Nat.xor_zero]
theorem xc (p q r : Nat) : p ^^^ q ^^^ r = p ^^^ r ^^^ q := by rw [Nat.xor_assoc, Nat.xor_comm q r, ← Nat.xor_assoc]
theorem fl_t (c : Nat) : fl true c = 2 ^ c := rfl
theorem fl_f (c : Nat) : fl false c = 0 := rfl
theorem fl_lt {b : Bool} {c n : Nat} (h : c < n) : fl b c < 2 ^ n := by
  cases b
  · exact Nat.two_pow_pos n
  · exact Nat.pow_lt_pow_right (by decide) h
theorem sg_mul (a b : Bool) : sg a * sg b = sg (a ^^ b) := by cases a <;> cases b <;> rfl
theorem sg_sq (a : Bool) : sg a * sg a = 1 := by cases a <;> rfl
theorem sg_ne (a : Bool) : sg a ≠ 0 := by cases a <;> decide
def par : Nat → Nat → Nat → Bool
  | 0, _, _ => false
  | n + 1, p, z => par n p z ^^ (p.testBit n && z.testBit n)
theorem par_xl : ∀ (n p q z : Nat), par n (p ^^^ q) z = (par n p z ^^ par n q z)
  | 0, _, _, _ => rfl
  | n + 1, p, q, z => by
    simp only [par, par_xl n p q z, tb_x]
    cases par n p z <;> cases par n q z <;> cases p.testBit n <;> cases q.testBit n <;> cases z.testBit n <;> rfl
theorem par_comm : ∀ (n p z : Nat), par n p z = par n z p
  | 0, _, _ => rfl
  | n + 1, p, z => by
    simp only [par, par_comm n p z]
    rw [Bool.and_comm]
theorem par_big : ∀ (n c z : Nat), n ≤ c → par n (2 ^ c) z = false
  | 0, _, _, _ => rfl
  | n + 1, c, z, h => by
    simp only [par, par_big n c z (by omega), tb_p]
    rw [decide_eq_false (by omega)]
    rfl
theorem par_one : ∀ (n c z : Nat), c < n → par n (2 ^ c) z = z.testBit c
  | 0, _, _, h => absurd h (Nat.not_lt_zero _)
  | n + 1, c, z, h => by
    simp only [par, tb_p]
    by_cases e : c = n
    · subst e
      rw [par_big c c z (Nat.le_refl _), decide_eq_true rfl]
      simp
    · rw [par_one n c z (by omega), decide_eq_false e]
      simp
theorem par_xr (n p q z : Nat) : par n z (p ^^^ q) = (par n z p ^^ par n z q) := by
  rw [par_comm, par_xl, par_comm n p, par_comm n q]
theorem par_zl : ∀ (n z : Nat), par n 0 z = false
  | 0, _ => rfl
  | n + 1, z => by simp [par, par_zl n z]
theorem par_zr (n z : Nat) : par n z 0 = false := by rw [par_comm, par_zl]
theorem par_fl (n c z : Nat) (b : Bool) (h : c < n) : par n (fl b c) z = (b && z.testBit c) := by
  cases b
  · rw [fl_f, par_zl]
    rfl
  · rw [fl_t, par_one n c z h]
    rfl
theorem par_flr (n c z : Nat) (b : Bool) (h : c < n) : par n z (fl b c) = (b && z.testBit c) := by rw [par_comm, par_fl n c z b h]
/-- what a row makes of a list (laid), by places -/
def act (r : Row) (f : Nat → Int) (p : Nat) : Int := r.s * (sg (par 6 (p ^^^ r.x) r.z) * f (p ^^^ r.x))
/-! ### a row moved by a gate does to the turned list what turning does to the list laid -/
theorem xe (p q r : Nat) : p ^^^ (q ^^^ r) = p ^^^ q ^^^ r := (Nat.xor_assoc p q r).symm
theorem x4 (p a b : Nat) : p ^^^ a ^^^ b ^^^ a ^^^ b = p := by rw [xc p a b, xx, xx]
theorem moved (g : G) (hg : g.ok 6) (r : Row) (f : Nat → Int) (p : Nat) : U g (act r f) p = act (onRow g r) (U g f) p := by
  obtain ⟨s, x, z⟩ := r
  cases g with
  | mix c =>
    have hc : c < 6 := hg
    simp only [U, act, onRow]
    cases hx : x.testBit c <;> cases hz : z.testBit c <;> cases hp : p.testBit c <;>
      simp [xe, fl, par_xl, par_xr, par_one _ _ _ hc, par_comm 6 _ (2 ^ c), tb_x, tb_p, hx, hz, hp, sg, xc p (2 ^ c) x, xx, Int.mul_add, Int.mul_neg, Int.neg_mul, Int.add_comm] <;>
      (cases par 6 p z <;> cases par 6 x z <;> simp [Int.mul_add, Int.mul_neg, Int.neg_mul, Int.add_comm])
  | flip c =>
    have hc : c < 6 := hg
    simp only [U, act, onRow]
    cases hz : z.testBit c <;> simp [par_xl, par_one _ _ _ hc, hz, sg, xc p (2 ^ c) x] <;>
      (cases par 6 p z <;> cases par 6 x z <;> simp [Int.mul_neg, Int.neg_mul])
  | sign c =>
    simp only [U, act, onRow]
    cases hx : x.testBit c <;> cases hp : p.testBit c <;> simp [tb_x, hx, hp, sg] <;>
      (cases par 6 (p ^^^ x) z <;> simp [Int.mul_neg, Int.neg_mul])
  | follow c d =>
    obtain ⟨hc, hd, hcd⟩ : c < 6 ∧ d < 6 ∧ c ≠ d := hg
    have hdc : ¬ d = c := fun e => hcd e.symm
    simp only [U, act, onRow]
    cases hx : x.testBit c <;> cases hz : z.testBit d <;> cases hp : p.testBit c <;>
      simp [xe, fl, par_xl, par_xr, par_one _ _ _ hc, par_one _ _ _ hd, par_comm 6 _ (2 ^ c), tb_x, tb_p, hx, hz, hp, hcd, hdc, sg, xc p (2 ^ d) x, xx] <;>
      (cases par 6 p z <;> cases par 6 x z <;> simp [Int.mul_neg, Int.neg_mul])
  | meet c d =>
    obtain ⟨hc, hd, hcd⟩ : c < 6 ∧ d < 6 ∧ c ≠ d := hg
    simp only [U, act, onRow]
    cases hx : x.testBit c <;> cases hx' : x.testBit d <;> cases hp : p.testBit c <;> cases hp' : p.testBit d <;>
      simp [xe, fl, par_xl, par_xr, par_one _ _ _ hc, par_one _ _ _ hd, par_comm 6 _ (2 ^ c), par_comm 6 _ (2 ^ d), tb_x, tb_p, hx, hx', hp, hp', sg] <;>
      (cases par 6 p z <;> cases par 6 x z <;> simp [Int.mul_neg, Int.neg_mul])
  | swap c d =>
    obtain ⟨hc, hd, hcd⟩ : c < 6 ∧ d < 6 ∧ c ≠ d := hg
    have hdc : ¬ d = c := fun e => hcd e.symm
    simp only [U, act, onRow, chg]
    cases hx : x.testBit c <;> cases hx' : x.testBit d <;> cases hp : p.testBit c <;> cases hp' : p.testBit d <;> cases hz : z.testBit c <;> cases hz' : z.testBit d <;>
      simp [xe, fl, par_xl, par_xr, par_one _ _ _ hc, par_one _ _ _ hd, par_comm 6 _ (2 ^ c), par_comm 6 _ (2 ^ d), tb_x, tb_p, hx, hx', hp, hp', hz, hz', hcd, hdc, sg, xc p (2 ^ d) x, xc p (2 ^ c) x, xc (p ^^^ 2 ^ c) (2 ^ d) x, xx, x4] <;>
      (cases par 6 p z <;> cases par 6 x z <;> simp [Int.mul_neg, Int.neg_mul])
/-! ### each gate twice -/
theorem chg_tb (c d m i : Nat) : (chg c d m).testBit i = (m.testBit i ^^ ((m.testBit c ^^ m.testBit d) && (decide (c = i) ^^ decide (d = i)))) := by
  unfold chg
  rw [tb_x, tb_x, tb_fl, tb_fl]
  cases m.testBit c ^^ m.testBit d <;> simp
theorem chg_chg {c d : Nat} (h : c ≠ d) (m : Nat) : chg c d (chg c d m) = m := by
  have h' : ¬ d = c := fun e => h e.symm
  apply Nat.eq_of_testBit_eq
  intro i
  rw [chg_tb, chg_tb, chg_tb, chg_tb, decide_eq_true (rfl : c = c), decide_eq_true (rfl : d = d), decide_eq_false h, decide_eq_false h']
  cases m.testBit i <;> cases m.testBit c <;> cases m.testBit d <;> cases decide (c = i) <;> cases decide (d = i) <;> rfl
theorem mul_sg_sg (s : Int) (b : Bool) : s * sg b * sg b = s := by rw [Int.mul_assoc, sg_sq, Int.mul_one]
theorem onRow_twice {n : Nat} (g : G) (hg : g.ok n) (r : Row) : onRow g (onRow g r) = r := by
  obtain ⟨s, x, z⟩ := r
  cases g with
  | mix c =>
    simp only [onRow]
    have e1 : ∀ b : Bool, (x ^^^ fl b c).testBit c = (x.testBit c ^^ b) := fun b => by rw [tb_x, tb_fl, decide_eq_true (rfl : c = c), Bool.and_true]
    have e2 : ∀ b : Bool, (z ^^^ fl b c).testBit c = (z.testBit c ^^ b) := fun b => by rw [tb_x, tb_fl, decide_eq_true (rfl : c = c), Bool.and_true]
    rw [e1, e2]
    cases hx : x.testBit c <;> cases hz : z.testBit c <;> simp [fl, sg, xx]
  | flip c => simp only [onRow, mul_sg_sg]
  | sign c => simp only [onRow, mul_sg_sg]
  | follow c d =>
    obtain ⟨_, _, h⟩ : c < n ∧ d < n ∧ c ≠ d := hg
    have h' : ¬ d = c := fun e => h e.symm
    simp only [onRow]
    have e1 : ∀ b : Bool, (x ^^^ fl b d).testBit c = x.testBit c := fun b => by rw [tb_x, tb_fl, decide_eq_false h']; simp
    have e2 : ∀ b : Bool, (z ^^^ fl b c).testBit d = z.testBit d := fun b => by rw [tb_x, tb_fl, decide_eq_false h]; simp
    rw [e1, e2, xx, xx]
  | meet c d =>
    simp only [onRow, mul_sg_sg]
    rw [show z ^^^ fl (x.testBit c) d ^^^ fl (x.testBit d) c ^^^ fl (x.testBit c) d ^^^ fl (x.testBit d) c = z from x4 _ _ _]
  | swap c d =>
    obtain ⟨_, _, h⟩ : c < n ∧ d < n ∧ c ≠ d := hg
    simp only [onRow, chg_chg h]
/-- what turning twice does: twice the list, or the list -/
def dbl : G → Int
  | .mix _ => 2
  | _ => 1
theorem dbl_ne (g : G) : dbl g ≠ 0 := by cases g <;> simp [dbl]
theorem U_twice {n : Nat} (g : G) (hg : g.ok n) (f : Nat → Int) (p : Nat) : U g (U g f) p = dbl g * f p := by
  cases g with
  | mix c =>
    simp only [U, dbl]
    rw [tb_x, tb_p, decide_eq_true rfl, xx]
    cases p.testBit c <;> simp [sg] <;> omega
  | flip c => simp only [U, dbl, xx, Int.one_mul]
  | sign c =>
    simp only [U, dbl]
    rw [← Int.mul_assoc, sg_sq]
  | follow c d =>
    obtain ⟨_, _, h⟩ : c < n ∧ d < n ∧ c ≠ d := hg
    have h' : ¬ d = c := fun e => h e.symm
    simp only [U, dbl]
    rw [tb_x, tb_fl, decide_eq_false h', Bool.and_false, Bool.xor_false, xx, Int.one_mul]
  | meet c d =>
    simp only [U, dbl]
    rw [← Int.mul_assoc, sg_sq]
  | swap c d =>
    obtain ⟨_, _, h⟩ : c < n ∧ d < n ∧ c ≠ d := hg
    simp only [U, dbl, Int.one_mul]
    exact congrArg f (chg_chg h p)
/-! ### places stay below 2 ^ n; turning is linear and looks at places below 2 ^ n alone -/
theorem U_congr {n : Nat} {g : G} (hg : g.ok n) {f h : Nat → Int} (e : ∀ p, p < 2 ^ n → f p = h p) : ∀ p, p < 2 ^ n → U g f p = U g h p := by
  intro p hp
  have two : ∀ {c}, c < n → 2 ^ c < 2 ^ n := fun hc => Nat.pow_lt_pow_right (by decide) hc
  cases g with
  | mix c =>
    have hc : c < n := hg
    simp only [U]
    rw [e p hp, e _ (Nat.xor_lt_two_pow hp (two hc))]
  | flip c =>
    have hc : c < n := hg
    exact e _ (Nat.xor_lt_two_pow hp (two hc))
  | sign c =>
    simp only [U]
    rw [e p hp]
  | follow c d =>
    obtain ⟨hc, hd, _⟩ : c < n ∧ d < n ∧ c ≠ d := hg
    exact e _ (Nat.xor_lt_two_pow hp (fl_lt hd))
  | meet c d =>
    simp only [U]
    rw [e p hp]
  | swap c d =>
    obtain ⟨hc, hd, _⟩ : c < n ∧ d < n ∧ c ≠ d := hg
    exact e _ (Nat.xor_lt_two_pow (Nat.xor_lt_two_pow hp (fl_lt hc)) (fl_lt hd))
theorem U_lin (g : G) (k : Int) (f : Nat → Int) (p : Nat) : U g (fun i => k * f i) p = k * U g f p := by
  cases g with
  | mix c =>
    simp only [U]
    rw [Int.mul_add, Int.mul_left_comm]
  | flip c => rfl
  | sign c =>
    simp only [U]
    rw [Int.mul_left_comm]
  | follow c d => rfl
  | meet c d =>
    simp only [U]
    rw [Int.mul_left_comm]
  | swap c d => rfl
/-! ### rows: signs, bits, letters -/
structure Row.ok (n : Nat) (r : Row) : Prop where
  s : r.s = 1 ∨ r.s = -1
  x : r.x < 2 ^ n
  z : r.z < 2 ^ n
theorem sgn_mul {s : Int} (h : s = 1 ∨ s = -1) (b : Bool) : s * sg b = 1 ∨ s * sg b = -1 := by
  rcases h with rfl | rfl <;> cases b <;> simp [sg]
theorem onRow_ok {n : Nat} {g : G} (hg : g.ok n) {r : Row} (h : r.ok n) : (onRow g r).ok n := by
  cases g with
  | mix c =>
    have hc : c < n := hg
    exact ⟨sgn_mul h.s _, Nat.xor_lt_two_pow h.x (fl_lt hc), Nat.xor_lt_two_pow h.z (fl_lt hc)⟩
  | flip c => exact ⟨sgn_mul h.s _, h.x, h.z⟩
  | sign c => exact ⟨sgn_mul h.s _, h.x, h.z⟩
  | follow c d =>
    obtain ⟨hc, hd, _⟩ : c < n ∧ d < n ∧ c ≠ d := hg
    exact ⟨h.s, Nat.xor_lt_two_pow h.x (fl_lt hd), Nat.xor_lt_two_pow h.z (fl_lt hc)⟩
  | meet c d =>
    obtain ⟨hc, hd, _⟩ : c < n ∧ d < n ∧ c ≠ d := hg
    exact ⟨sgn_mul h.s _, h.x, Nat.xor_lt_two_pow (Nat.xor_lt_two_pow h.z (fl_lt hd)) (fl_lt hc)⟩
  | swap c d =>
    obtain ⟨hc, hd, _⟩ : c < n ∧ d < n ∧ c ≠ d := hg
    exact ⟨h.s, Nat.xor_lt_two_pow (Nat.xor_lt_two_pow h.x (fl_lt hc)) (fl_lt hd), Nat.xor_lt_two_pow (Nat.xor_lt_two_pow h.z (fl_lt hc)) (fl_lt hd)⟩
theorem onRow_zero (g : G) (s : Int) : (onRow g ⟨s, 0, 0⟩).x = 0 ∧ (onRow g ⟨s, 0, 0⟩).z = 0 := by
  cases g <;> simp [onRow, fl, chg]
/-- a row without letters comes of one without letters alone -/
theorem onRow_letters {n : Nat} {g : G} (hg : g.ok n) {r : Row} (h : ¬ (r.x = 0 ∧ r.z = 0)) : ¬ ((onRow g r).x = 0 ∧ (onRow g r).z = 0) := by
  intro ⟨h1, h2⟩
  have e : onRow g r = ⟨(onRow g r).s, 0, 0⟩ := by
    cases q : onRow g r with
    | mk s x z =>
      rw [q] at h1 h2
      cases h1
      cases h2
      rfl
  have t := onRow_twice g hg r
  rw [e] at t
  rw [← t] at h
  exact h (onRow_zero g _)
/-! ### rows of gates -/
abbrev okAll (n : Nat) (gs : List G) : Prop := ∀ g ∈ gs, g.ok n
def goRow (gs : List G) (r : Row) : Row := gs.foldl (fun r g => onRow g r) r
def goU (gs : List G) (f : Nat → Int) : Nat → Int := gs.foldl (fun f g => U g f) f
theorem G.ok.mono {n m : Nat} (hnm : n ≤ m) {g : G} (h : g.ok n) : g.ok m := by
  cases g with
  | mix c => exact Nat.lt_of_lt_of_le (show c < n from h) hnm
  | flip c => exact Nat.lt_of_lt_of_le (show c < n from h) hnm
  | sign c => exact Nat.lt_of_lt_of_le (show c < n from h) hnm
  | follow c d => exact ⟨Nat.lt_of_lt_of_le h.1 hnm, Nat.lt_of_lt_of_le h.2.1 hnm, h.2.2⟩
  | meet c d => exact ⟨Nat.lt_of_lt_of_le h.1 hnm, Nat.lt_of_lt_of_le h.2.1 hnm, h.2.2⟩
  | swap c d => exact ⟨Nat.lt_of_lt_of_le h.1 hnm, Nat.lt_of_lt_of_le h.2.1 hnm, h.2.2⟩
theorem okAll.cons {n : Nat} {g : G} {gs : List G} (h : okAll n (g :: gs)) : g.ok n ∧ okAll n gs := ⟨h g (List.mem_cons_self ..), fun g' m => h g' (List.mem_cons_of_mem _ m)⟩
theorem okAll.rev {n : Nat} {gs : List G} (h : okAll n gs) : okAll n gs.reverse := fun g m => h g (List.mem_reverse.mp m)
theorem goRow_ok {n : Nat} : ∀ {gs : List G} (_ : okAll n gs) {r : Row}, r.ok n → (goRow gs r).ok n
  | [], _, _, h => h
  | _ :: gs, hg, _, h => goRow_ok (gs := gs) hg.cons.2 (onRow_ok hg.cons.1 h)
theorem goRow_letters {n : Nat} : ∀ {gs : List G} (_ : okAll n gs) {r : Row}, ¬ (r.x = 0 ∧ r.z = 0) → ¬ ((goRow gs r).x = 0 ∧ (goRow gs r).z = 0)
  | [], _, _, h => h
  | _ :: gs, hg, _, h => goRow_letters (gs := gs) hg.cons.2 (onRow_letters hg.cons.1 h)
theorem goRow_app (gs hs : List G) (r : Row) : goRow (gs ++ hs) r = goRow hs (goRow gs r) := List.foldl_append ..
theorem goRow_back {n : Nat} : ∀ {gs : List G} (_ : okAll n gs) (r : Row), goRow gs.reverse (goRow gs r) = r
  | [], _, _ => rfl
  | g :: gs, hg, r => by
    rw [List.reverse_cons, goRow_app]
    show onRow g (goRow gs.reverse (goRow gs (onRow g r))) = r
    rw [goRow_back hg.cons.2, onRow_twice g hg.cons.1]
theorem goRow_forth {n : Nat} {gs : List G} (h : okAll n gs) (r : Row) : goRow gs (goRow gs.reverse r) = r := by
  have e := goRow_back h.rev r
  rw [List.reverse_reverse] at e
  exact e
theorem goU_congr {n : Nat} : ∀ {gs : List G} (_ : okAll n gs) {f h : Nat → Int}, (∀ p, p < 2 ^ n → f p = h p) → ∀ p, p < 2 ^ n → goU gs f p = goU gs h p
  | [], _, _, _, e => e
  | _ :: gs, hg, _, _, e => goU_congr (gs := gs) hg.cons.2 (U_congr hg.cons.1 e)
theorem goU_lin : ∀ (gs : List G) (k : Int) (f : Nat → Int), goU gs (fun i => k * f i) = fun i => k * goU gs f i
  | [], _, _ => rfl
  | g :: gs, k, f => by
    show goU gs (U g fun i => k * f i) = fun i => k * goU gs (U g f) i
    rw [show (U g fun i => k * f i) = fun i => k * U g f i from funext (U_lin g k f)]
    exact goU_lin gs k (U g f)
theorem goU_app (gs hs : List G) (f : Nat → Int) : goU (gs ++ hs) f = goU hs (goU gs f) := List.foldl_append ..
def dbls : List G → Int
  | [] => 1
  | g :: gs => dbls gs * dbl g
theorem dbls_ne : ∀ gs : List G, dbls gs ≠ 0
  | [] => by decide
  | g :: gs => Int.mul_ne_zero (dbls_ne gs) (dbl_ne g)
theorem goU_back {n : Nat} : ∀ {gs : List G} (_ : okAll n gs) (f : Nat → Int), goU gs.reverse (goU gs f) = fun p => dbls gs * f p
  | [], _, f => funext fun p => (Int.one_mul (f p)).symm
  | g :: gs, hg, f => by
    rw [List.reverse_cons, goU_app]
    show U g (goU gs.reverse (goU gs (U g f))) = _
    rw [goU_back hg.cons.2]
    funext p
    rw [U_lin, U_twice g hg.cons.1, ← Int.mul_assoc]
    rfl
theorem goU_moved : ∀ {gs : List G} (_ : okAll 6 gs) (r : Row) (f : Nat → Int), goU gs (act r f) = act (goRow gs r) (goU gs f)
  | [], _, _, _ => rfl
  | g :: gs, hg, r, f => by
    show goU gs (U g (act r f)) = act (goRow gs (onRow g r)) (goU gs (U g f))
    rw [show U g (act r f) = act (onRow g r) (U g f) from funext (moved g hg.cons.1 r f)]
    exact goU_moved hg.cons.2 _ _
/-! ### starts -/
/-- the list of a start: 1 where no shut coin lies on its back -/
def S (m p : Nat) : Int := if p &&& m = 0 then 1 else 0
theorem S_zero (m : Nat) : S m 0 = 1 := by simp [S]
theorem and_zero_iff (p m : Nat) : p &&& m = 0 ↔ ∀ i, (p.testBit i && m.testBit i) = false := by
  constructor
  · intro h i
    rw [← Nat.testBit_and, h, Nat.zero_testBit]
  · intro h
    apply Nat.eq_of_testBit_eq
    intro i
    rw [Nat.testBit_and, h i, Nat.zero_testBit]
theorem S_shut {m p c : Nat} (h : m.testBit c = true) (hp : p.testBit c = true) : S m p = 0 := by
  unfold S
  rw [if_neg]
  intro e
  have q := (and_zero_iff p m).mp e c
  rw [h, hp] at q
  cases q
theorem S_open {m c : Nat} (h : m.testBit c = false) (p : Nat) : S m (p ^^^ 2 ^ c) = S m p := by
  unfold S
  have e : (p ^^^ 2 ^ c) &&& m = p &&& m := by
    apply Nat.eq_of_testBit_eq
    intro i
    rw [Nat.testBit_and, Nat.testBit_and, tb_x, tb_p]
    by_cases q : c = i
    · subst q
      rw [h]
      simp
    · rw [decide_eq_false q]
      simp
  rw [e]
theorem act_open {m c : Nat} (h : m.testBit c = false) : act ⟨1, 2 ^ c, 0⟩ (S m) = S m := by
  funext p
  simp only [act, par_zr]
  rw [S_open h]
  simp [sg]
theorem act_shut {m c : Nat} (hc : c < 6) (h : m.testBit c = true) : act ⟨1, 0, 2 ^ c⟩ (S m) = S m := by
  funext p
  simp only [act, Nat.xor_zero]
  rw [par_comm, par_one 6 c p hc]
  cases q : p.testBit c
  · simp [sg]
  · rw [S_shut h q]
    simp
/-- the row of a coin that keeps a start -/
def keeper (m c : Nat) : Row := if m.testBit c then ⟨1, 0, 2 ^ c⟩ else ⟨1, 2 ^ c, 0⟩
theorem act_keeper {m c : Nat} (hc : c < 6) : act (keeper m c) (S m) = S m := by
  unfold keeper
  cases h : m.testBit c
  · exact act_open h
  · exact act_shut hc h
/-- what all keepers keep is a multiple of the start -/
theorem kept_all {m : Nat} {t : Nat → Int} : ∀ {n : Nat}, n ≤ 6 → (∀ c, c < n → act (keeper m c) t = t) → ∀ p, p < 2 ^ n → t p = t 0 * S m p
  | 0, _, _, p, hp => by
    have e : p = 0 := by
      have q : p < 1 := hp
      omega
    subst e
    rw [S_zero, Int.mul_one]
  | n + 1, h6, hk, p, hp => by
    have ih := kept_all (m := m) (t := t) (n := n) (by omega) (fun c hc => hk c (by omega))
    by_cases hb : p.testBit n = true
    · have hq : p ^^^ 2 ^ n < 2 ^ n := by
        apply Nat.lt_pow_two_of_testBit
        intro j hj
        rw [tb_x, tb_p]
        by_cases e : n = j
        · subst e
          rw [hb, decide_eq_true rfl]
          rfl
        · rw [decide_eq_false e, Nat.testBit_lt_two_pow (Nat.lt_of_lt_of_le hp (Nat.pow_le_pow_right (by decide) (by omega)))]
          rfl
      have k := congrFun (hk n (by omega)) p
      unfold keeper at k
      cases hm : m.testBit n
      · rw [hm] at k
        simp only [act, par_zr] at k
        have e : t (p ^^^ 2 ^ n) = t p := by
          simpa [sg, par_zr] using k
        rw [← e, ih _ hq, S_open hm]
      · rw [hm, if_pos rfl] at k
        have k' : (1 : Int) * (sg (par 6 (p ^^^ 0) (2 ^ n)) * t (p ^^^ 0)) = t p := k
        rw [Nat.xor_zero, par_comm, par_one 6 n p (by omega), hb] at k'
        have e : t p = 0 := by
          have : sg true = -1 := rfl
          rw [this] at k'
          omega
        rw [e, S_shut hm hb, Int.mul_zero]
    · have hb' : p.testBit n = false := by
        cases q : p.testBit n
        · rfl
        · exact absurd q hb
      refine ih p ?_
      apply Nat.lt_pow_two_of_testBit
      intro j hj
      by_cases e : n = j
      · subst e
        exact hb'
      · exact Nat.testBit_lt_two_pow (Nat.lt_of_lt_of_le hp (Nat.pow_le_pow_right (by decide) (by omega)))
/-! ### the two answers -/
/-- the rows with one letter: x coin by coin, then z -/
def first (n k : Nat) : Row := if k < n then ⟨1, 2 ^ k, 0⟩ else ⟨1, 0, 2 ^ (k - n)⟩
def backRow (one other : List G) (r : Row) : Row := goRow other.reverse (goRow one r)
def prop (n : Nat) (f h : Nat → Int) : Prop := ∃ a b : Int, a ≠ 0 ∧ b ≠ 0 ∧ ∀ p, p < 2 ^ n → a * f p = b * h p
theorem keeper_first {m c n : Nat} (hc : c < n) : ∃ k, k < 2 * n ∧ keeper m c = first n k := by
  unfold keeper
  cases m.testBit c
  · refine ⟨c, Nat.lt_of_lt_of_le hc (by omega), ?_⟩
    unfold first
    rw [if_pos hc]
    rfl
  · refine ⟨n + c, by omega, ?_⟩
    unfold first
    rw [if_pos rfl, if_neg (show ¬ n + c < n by omega), Nat.add_sub_cancel_left]
/-- where the rows come back, the lists are alike -/
theorem same_of_back {n : Nat} (h6 : n ≤ 6) {one other : List G} (h1 : okAll n one) (h2 : okAll n other) (m : Nat)
    (hb : ∀ k, k < 2 * n → backRow one other (first n k) = first n k) : prop n (goU one (S m)) (goU other (S m)) := by
  have g1 : okAll 6 one := fun g q => (h1 g q).mono h6
  have g2 : okAll 6 other := fun g q => (h2 g q).mono h6
  let t := goU other.reverse (goU one (S m))
  have kt : ∀ c, c < n → act (keeper m c) t = t := by
    intro c hc
    obtain ⟨k, hk, ek⟩ := keeper_first (m := m) hc
    have e1 := goU_moved g1 (keeper m c) (S m)
    rw [act_keeper (by omega)] at e1
    have e2 := goU_moved g2.rev (goRow one (keeper m c)) (goU one (S m))
    rw [← e1] at e2
    have e3 := hb k hk
    rw [← ek] at e3
    unfold backRow at e3
    rw [e3] at e2
    exact e2.symm
  have ht := kept_all (m := m) (t := t) h6 kt
  -- other (back (one s)) = 2 ^ k one s
  have eb : goU other t = fun p => dbls other.reverse * goU one (S m) p := by
    have e := goU_back h2.rev (goU one (S m))
    rw [List.reverse_reverse] at e
    exact e
  have ec : ∀ p, p < 2 ^ n → goU other t p = t 0 * goU other (S m) p := by
    intro p hp
    have e := goU_congr h2 (f := t) (h := fun i => t 0 * S m i) ht p hp
    rw [e, goU_lin]
  refine ⟨dbls other.reverse, t 0, dbls_ne _, ?_, fun p hp => ?_⟩
  · intro z
    -- t 0 = 0: then t = 0, then one s = 0, then s = 0
    have e0 : ∀ p, p < 2 ^ n → goU one (S m) p = 0 := by
      intro p hp
      have e := ec p hp
      rw [z, Int.zero_mul, congrFun eb p] at e
      rcases Int.mul_eq_zero.mp e with q | q
      · exact absurd q (dbls_ne _)
      · exact q
    have e1 := goU_congr h1.rev (f := goU one (S m)) (h := fun i => 0 * S m i) (fun p hp => by rw [e0 p hp, Int.zero_mul]) 0 (Nat.two_pow_pos n)
    rw [goU_lin, goU_back h1] at e1
    have e2 : dbls one * S m 0 = 0 * goU one.reverse (S m) 0 := e1
    rw [Int.zero_mul, S_zero, Int.mul_one] at e2
    exact dbls_ne _ e2
  · rw [← ec p hp, congrFun eb p]
/-- a row that keeps the start beside it is the coin's own -/
theorem beside_keeps {n c : Nat} (h6 : n ≤ 6) (hc : c < n) {m : Nat} {r : Row} (hr : r.ok n) (hl : ¬ (r.x = 0 ∧ r.z = 0))
    (hm : ∀ o, o < n → o ≠ c → m.testBit o = !(!r.x.testBit o && r.z.testBit o)) (hk : ∀ p, p < 2 ^ n → act r (S m) p = S m p) : r = keeper m c := by
  obtain ⟨s, x, z⟩ := r
  have hx : x < 2 ^ n := hr.x
  have hz : z < 2 ^ n := hr.z
  have two : ∀ {o}, o < n → 2 ^ o < 2 ^ n := fun ho => Nat.pow_lt_pow_right (by decide) ho
  have k0 : s * (sg (par 6 x z) * S m x) = 1 := by
    have e := hk 0 (Nat.two_pow_pos n)
    simp only [act, Nat.zero_xor, S_zero] at e
    exact e
  have hSx : S m x = 1 := by
    unfold S at k0 ⊢
    by_cases q : x &&& m = 0
    · rw [if_pos q]
    · rw [if_neg q] at k0
      simp at k0
  -- no letter x elsewhere
  have nx : ∀ o, o < n → o ≠ c → x.testBit o = false := by
    intro o ho hne
    cases q : x.testBit o
    · rfl
    · have e := hm o ho hne
      simp only [q, Bool.not_true, Bool.false_and, Bool.not_false] at e
      rw [S_shut e q] at hSx
      cases hSx
  have kop : ∀ o, o < n → m.testBit o = false → z.testBit o = false := by
    intro o ho e
    cases q : z.testBit o
    · rfl
    · have e2 := hk (2 ^ o) (two ho)
      simp only [act] at e2
      rw [Nat.xor_comm, S_open e, hSx, show S m (2 ^ o) = 1 by rw [← Nat.zero_xor (2 ^ o), S_open e, S_zero], par_xl, par_one 6 o z (by omega), q] at e2
      rw [hSx] at k0
      cases h : par 6 x z <;> rw [h] at k0 e2 <;> simp [sg] at k0 e2 <;> omega
  have nz : ∀ o, o < n → o ≠ c → z.testBit o = false := by
    intro o ho hne
    cases q : z.testBit o
    · rfl
    · have e := hm o ho hne
      simp only [q, nx o ho hne, Bool.not_false, Bool.true_and, Bool.not_true] at e
      have e2 := kop o ho e
      rw [q] at e2
      cases e2
  have only : ∀ y, y < 2 ^ n → (∀ o, o < n → o ≠ c → y.testBit o = false) → y = fl (y.testBit c) c := by
    intro y hy h
    apply Nat.eq_of_testBit_eq
    intro i
    rw [tb_fl]
    by_cases e : c = i
    · subst e
      simp
    · rw [decide_eq_false e, Bool.and_false]
      by_cases hi : i < n
      · exact h i hi (fun q => e q.symm)
      · exact Nat.testBit_lt_two_pow (Nat.lt_of_lt_of_le hy (Nat.pow_le_pow_right (by decide) (by omega)))
  have ex := only x hx nx
  have ez := only z hz nz
  unfold keeper
  cases hmc : m.testBit c
  · -- open: the coin's own row is x
    have qz := kop c hc hmc
    rw [qz, fl_f] at ez
    subst ez
    have qx : x.testBit c = true := by
      cases q : x.testBit c
      · rw [q, fl_f] at ex
        exact absurd ⟨ex, rfl⟩ hl
      · rfl
    rw [qx, fl_t] at ex
    subst ex
    rw [par_zr, hSx] at k0
    have es : s = 1 := by simpa [sg] using k0
    subst es
    rfl
  · -- shut: the coin's own row is z
    have qx : x.testBit c = false := by
      cases q : x.testBit c
      · rfl
      · rw [S_shut hmc q] at hSx
        cases hSx
    rw [qx, fl_f] at ex
    subst ex
    have qz : z.testBit c = true := by
      cases q : z.testBit c
      · rw [q, fl_f] at ez
        exact absurd ⟨rfl, ez⟩ hl
      · rfl
    rw [qz, fl_t] at ez
    subst ez
    rw [par_zl, hSx] at k0
    have es : s = 1 := by simpa [sg] using k0
    subst es
    rfl
theorem first_ok {n k : Nat} (hk : k < 2 * n) : (first n k).ok n := by
  unfold first
  split
  · exact ⟨.inl rfl, Nat.pow_lt_pow_right (by decide) (by assumption), Nat.two_pow_pos n⟩
  · exact ⟨.inl rfl, Nat.two_pow_pos n, Nat.pow_lt_pow_right (by decide) (by omega)⟩
theorem first_letters (n k : Nat) : ¬ ((first n k).x = 0 ∧ (first n k).z = 0) := by
  unfold first
  split
  · intro ⟨h, _⟩
    exact absurd h (Nat.ne_of_gt (Nat.two_pow_pos k))
  · intro ⟨_, h⟩
    exact absurd h (Nat.ne_of_gt (Nat.two_pow_pos (k - n)))
/-- where a row does not come back, the start beside it leads to unlike lists -/
theorem unlike_of_back {n k : Nat} (h6 : n ≤ 6) (hk : k < 2 * n) {one other : List G} (h1 : okAll n one) (h2 : okAll n other) {m : Nat}
    (hne : backRow one other (first n k) ≠ first n k)
    (hm : ∀ o, o < n → o ≠ k % n → m.testBit o = !(!(backRow one other (first n k)).x.testBit o && (backRow one other (first n k)).z.testBit o))
    (hc : m.testBit (k % n) = decide (n ≤ k)) : ¬ prop n (goU one (S m)) (goU other (S m)) := by
  intro ⟨a, b, ha, hb, e⟩
  have g1 : okAll 6 one := fun g q => (h1 g q).mono h6
  have g2 : okAll 6 other := fun g q => (h2 g q).mono h6
  have hn : 0 < n := by omega
  have ekm : keeper m (k % n) = first n k := by
    unfold keeper first
    rw [hc]
    by_cases q : k < n
    · rw [if_pos q, decide_eq_false (by omega), Nat.mod_eq_of_lt q]
      rfl
    · rw [if_neg q, decide_eq_true (by omega)]
      have e2 : k % n = k - n := by
        rw [Nat.mod_eq_sub_mod (by omega), Nat.mod_eq_of_lt (by omega)]
      rw [e2]
      rfl
  have hr : (backRow one other (first n k)).ok n := goRow_ok h2.rev (goRow_ok h1 (first_ok hk))
  have hl := goRow_letters h2.rev (goRow_letters h1 (first_letters n k))
  refine hne ((beside_keeps h6 (Nat.mod_lt k hn) (m := m) hr hl hm fun p hp => ?_).trans ekm)
  -- w = back (one s); b' other s = a' one s
  let t := goU other.reverse (goU one (S m))
  have e1 := goU_moved g1 (keeper m (k % n)) (S m)
  rw [act_keeper (Nat.lt_of_lt_of_le (Nat.mod_lt k hn) h6)] at e1
  have e2 := goU_moved g2.rev (goRow one (keeper m (k % n))) (goU one (S m))
  rw [← e1, ekm] at e2
  -- t is a multiple of s
  have et : ∀ p, p < 2 ^ n → a * t p = b * (dbls other * S m p) := by
    intro p hp
    have q := goU_congr h2.rev (f := fun i => a * goU one (S m) i) (h := fun i => b * goU other (S m) i) e p hp
    rw [goU_lin, goU_lin, goU_back h2] at q
    exact q
  have q := congrFun e2 p
  have hpx : p ^^^ (backRow one other (first n k)).x < 2 ^ n := Nat.xor_lt_two_pow hp hr.x
  -- multiply by a
  have q2 : a * t p = a * act (backRow one other (first n k)) t p := congrArg (a * ·) q
  rw [et p hp] at q2
  simp only [act] at q2 ⊢
  rw [show a * ((backRow one other (first n k)).s * (sg (par 6 (p ^^^ (backRow one other (first n k)).x) (backRow one other (first n k)).z) * t (p ^^^ (backRow one other (first n k)).x)))
      = (backRow one other (first n k)).s * (sg (par 6 (p ^^^ (backRow one other (first n k)).x) (backRow one other (first n k)).z) * (a * t (p ^^^ (backRow one other (first n k)).x))) by
    rw [Int.mul_left_comm a, Int.mul_left_comm a], et _ hpx] at q2
  have hbd : b * dbls other ≠ 0 := Int.mul_ne_zero hb (dbls_ne _)
  apply Int.eq_of_mul_eq_mul_left hbd
  rw [Int.mul_assoc b, Int.mul_assoc b, q2]
  ac_rfl
end TC
set_option Elab.async false
set_option linter.all false
/-! Turncoins, the plain law: lists, their least form, ends. -/
namespace TC
def fnOf (l : List Int) (i : Nat) : Int := l.getD i 0
def madeL (g : G) (l : List Int) : List Int := (List.range l.length).map (U g (fnOf l))
def gcdF (a : Nat) (l : List Int) : Nat := l.foldl (fun a x => Nat.gcd a x.natAbs) a
def gcdL (l : List Int) : Nat := gcdF 0 l
def fnz (l : List Int) : Int := (l.filter fun x => !decide (x = 0)).headD 0
def com (l : List Int) : Int := if fnz l < 0 then 0 - (gcdL l : Int) else (gcdL l : Int)
def leastL (l : List Int) : List Int := l.map fun x => Int.fdiv x (com l)
def endL (gs : List G) (l : List Int) : List Int := gs.foldl (fun l g => leastL (madeL g l)) l
def rawL (gs : List G) (l : List Int) : List Int := gs.foldl (fun l g => madeL g l) l
def mulL (k : Int) (l : List Int) : List Int := l.map (k * ·)
def startL (n m : Nat) : List Int := (List.range (2 ^ n)).map (S m)
theorem fnOf_eq {l : List Int} {i : Nat} {x : Int} (h : l[i]? = some x) : fnOf l i = x := by
  unfold fnOf
  rw [List.getD_eq_getElem?_getD, h]
  rfl
theorem len_made (g : G) (l : List Int) : (madeL g l).length = l.length := by simp [madeL]
theorem len_least (l : List Int) : (leastL l).length = l.length := by simp [leastL]
theorem len_mul (k : Int) (l : List Int) : (mulL k l).length = l.length := by simp [mulL]
theorem len_start (n m : Nat) : (startL n m).length = 2 ^ n := by simp [startL]
theorem made_at {g : G} {l : List Int} {p : Nat} (h : p < l.length) : (madeL g l)[p]? = some (U g (fnOf l) p) := by
  unfold madeL
  rw [List.getElem?_map, List.getElem?_range h]
  rfl
theorem fn_made {g : G} {l : List Int} {p : Nat} (h : p < l.length) : fnOf (madeL g l) p = U g (fnOf l) p := fnOf_eq (made_at h)
theorem fn_start {n m p : Nat} (h : p < 2 ^ n) : fnOf (startL n m) p = S m p := by
  apply fnOf_eq
  unfold startL
  rw [List.getElem?_map, List.getElem?_range h]
  rfl
theorem fn_mul (k : Int) (l : List Int) (p : Nat) : fnOf (mulL k l) p = k * fnOf l p := by
  unfold fnOf mulL
  rw [List.getD_eq_getElem?_getD, List.getElem?_map, List.getD_eq_getElem?_getD]
  cases l[p]? <;> simp
theorem ext_fn {l m : List Int} (hl : l.length = m.length) (h : ∀ p, p < l.length → fnOf l p = fnOf m p) : l = m := by
  apply List.ext_getElem? 
  intro i
  by_cases hi : i < l.length
  · have e := h i hi
    rw [List.getElem?_eq_getElem hi, List.getElem?_eq_getElem (hl ▸ hi)]
    rw [fnOf_eq (List.getElem?_eq_getElem hi), fnOf_eq (List.getElem?_eq_getElem (hl ▸ hi))] at e
    rw [e]
  · rw [List.getElem?_eq_none (by omega), List.getElem?_eq_none (by omega)]
/-! ### the greatest divisor -/
theorem gcdF_dvd : ∀ (l : List Int) (a : Nat), gcdF a l ∣ a ∧ ∀ x ∈ l, gcdF a l ∣ x.natAbs
  | [], a => ⟨Nat.dvd_refl a, fun _ h => by cases h⟩
  | y :: l, a => by
    have ih := gcdF_dvd l (Nat.gcd a y.natAbs)
    refine ⟨Nat.dvd_trans ih.1 (Nat.gcd_dvd_left ..), fun x h => ?_⟩
    rcases List.mem_cons.mp h with rfl | h
    · exact Nat.dvd_trans ih.1 (Nat.gcd_dvd_right ..)
    · exact ih.2 x h
theorem dvd_gcdF : ∀ (l : List Int) (a d : Nat), d ∣ a → (∀ x ∈ l, d ∣ x.natAbs) → d ∣ gcdF a l
  | [], _, _, h, _ => h
  | y :: l, a, d, h, hx => dvd_gcdF l _ d (Nat.dvd_gcd h (hx y (List.mem_cons_self ..))) fun x q => hx x (List.mem_cons_of_mem _ q)
theorem gcdF_mul (k : Int) : ∀ (l : List Int) (a : Nat), gcdF (k.natAbs * a) (mulL k l) = k.natAbs * gcdF a l
  | [], _ => rfl
  | y :: l, a => by
    show gcdF (Nat.gcd (k.natAbs * a) (k * y).natAbs) (mulL k l) = k.natAbs * gcdF (Nat.gcd a y.natAbs) l
    rw [Int.natAbs_mul, Nat.gcd_mul_left]
    exact gcdF_mul k l _
theorem gcdL_mul (k : Int) (l : List Int) : gcdL (mulL k l) = k.natAbs * gcdL l := by
  have e := gcdF_mul k l 0
  rw [Nat.mul_zero] at e
  exact e
theorem gcdL_dvd {l : List Int} {x : Int} (h : x ∈ l) : (gcdL l : Int) ∣ x := Int.natAbs_dvd_natAbs.mp (by
  rw [Int.natAbs_natCast]
  exact (gcdF_dvd l 0).2 x h)
theorem fn_mem {l : List Int} {p : Nat} (h : p < l.length) : fnOf l p ∈ l := by
  rw [fnOf_eq (List.getElem?_eq_getElem h)]
  exact List.getElem_mem h
/-- not noughts alone -/
def Nz (l : List Int) : Prop := ∃ x ∈ l, x ≠ 0
theorem gcdL_ne {l : List Int} (h : Nz l) : gcdL l ≠ 0 := by
  intro e
  obtain ⟨x, hx, hn⟩ := h
  have d := gcdL_dvd hx
  rw [e] at d
  exact hn (Int.zero_dvd.mp d)
theorem fnz_mul {k : Int} (hk : k ≠ 0) : ∀ l : List Int, fnz (mulL k l) = k * fnz l
  | [] => (Int.mul_zero k).symm
  | x :: l => by
    have ih := fnz_mul hk l
    unfold fnz at ih ⊢
    by_cases e : x = 0
    · subst e
      simp only [mulL, List.map_cons, Int.mul_zero]
      simp only [List.filter_cons, decide_true, Bool.not_true, Bool.false_eq_true, if_false]
      exact ih
    · have e2 : k * x ≠ 0 := Int.mul_ne_zero hk e
      simp [mulL, List.filter_cons, e, e2, hk]
theorem com_mul {k : Int} (hk : k ≠ 0) {l : List Int} (h : Nz l) : com (mulL k l) = k * com l := by
  have hz : fnz l ≠ 0 := by
    obtain ⟨x, hx, hn⟩ := h
    unfold fnz
    have hm : x ∈ l.filter fun x => !decide (x = 0) := List.mem_filter.mpr ⟨hx, by simp [hn]⟩
    cases q : l.filter fun x => !decide (x = 0) with
    | nil =>
      rw [q] at hm
      cases hm
    | cons y r =>
      have hy : y ∈ l.filter fun x => !decide (x = 0) := by rw [q]; exact List.mem_cons_self ..
      have := (List.mem_filter.mp hy).2
      simpa using this
  unfold com
  rw [fnz_mul hk, gcdL_mul]
  rcases Int.lt_or_gt_of_ne hk with hk' | hk'
  · have e : ((k.natAbs * gcdL l : Nat) : Int) = - k * (gcdL l : Int) := by
      rw [Int.natCast_mul]
      congr 1
      omega
    rcases Int.lt_or_gt_of_ne hz with q | q
    · rw [if_pos q, if_neg (Int.not_lt.mpr (Int.le_of_lt (Int.mul_pos_of_neg_of_neg hk' q))), e, Int.zero_sub, Int.mul_neg, Int.neg_mul]
    · rw [if_neg (Int.not_lt.mpr (Int.le_of_lt q)), if_pos (Int.mul_neg_of_neg_of_pos hk' q), e, Int.zero_sub, Int.neg_mul, Int.neg_neg]
  · have e : ((k.natAbs * gcdL l : Nat) : Int) = k * (gcdL l : Int) := by
      rw [Int.natCast_mul]
      congr 1
      omega
    rcases Int.lt_or_gt_of_ne hz with q | q
    · rw [if_pos q, if_pos (Int.mul_neg_of_pos_of_neg hk' q), e, Int.zero_sub, Int.zero_sub, Int.mul_neg]
    · rw [if_neg (Int.not_lt.mpr (Int.le_of_lt q)), if_neg (Int.not_lt.mpr (Int.le_of_lt (Int.mul_pos hk' q))), e]
theorem com_natAbs (l : List Int) : (com l).natAbs = gcdL l := by
  unfold com
  split <;> omega
theorem com_ne {l : List Int} (h : Nz l) : com l ≠ 0 := by
  intro e
  have := com_natAbs l
  rw [e] at this
  exact gcdL_ne h this.symm
theorem com_dvd {l : List Int} {x : Int} (h : x ∈ l) : com l ∣ x := by
  have d := gcdL_dvd h
  rw [← Int.natAbs_dvd, com_natAbs]
  exact d
theorem fdiv_exact {c y : Int} (h : c ≠ 0) : Int.fdiv (c * y) c = y := Int.mul_fdiv_cancel_left y h
/-- a list is its divisor times its least form -/
theorem mul_least {l : List Int} (h : Nz l) : mulL (com l) (leastL l) = l := by
  unfold mulL leastL
  rw [List.map_map]
  conv => rhs; rw [← List.map_id l]
  apply List.map_congr_left
  intro x hx
  obtain ⟨y, rfl⟩ := com_dvd hx
  show com l * Int.fdiv (com l * y) (com l) = _
  rw [fdiv_exact (com_ne h)]
  rfl
theorem Nz.mul {k : Int} (hk : k ≠ 0) {l : List Int} (h : Nz l) : Nz (mulL k l) := by
  obtain ⟨x, hx, hn⟩ := h
  exact ⟨k * x, List.mem_map.mpr ⟨x, hx, rfl⟩, Int.mul_ne_zero hk hn⟩
theorem Nz.of_mul {k : Int} {l : List Int} (h : Nz (mulL k l)) : Nz l := by
  obtain ⟨x, hx, hn⟩ := h
  obtain ⟨y, hy, rfl⟩ := List.mem_map.mp hx
  exact ⟨y, hy, fun e => hn (by subst e; exact Int.mul_zero k)⟩
theorem least_mul {k : Int} (hk : k ≠ 0) {l : List Int} (h : Nz l) : leastL (mulL k l) = leastL l := by
  unfold leastL
  rw [com_mul hk h]
  show (mulL k l).map _ = _
  unfold mulL
  rw [List.map_map]
  apply List.map_congr_left
  intro x hx
  obtain ⟨y, rfl⟩ := com_dvd hx
  show Int.fdiv (k * (com l * y)) (k * com l) = Int.fdiv (com l * y) (com l)
  rw [fdiv_exact (com_ne h), ← Int.mul_assoc, fdiv_exact (Int.mul_ne_zero hk (com_ne h))]
theorem Nz.least {l : List Int} (h : Nz l) : Nz (leastL l) := Nz.of_mul (k := com l) (by rw [mul_least h]; exact h)
theorem least_least {l : List Int} (h : Nz l) : leastL (leastL l) = leastL l := by
  rw [← least_mul (com_ne h) h.least, mul_least h]
theorem gcd_least {l : List Int} (h : Nz l) : gcdL (leastL l) = 1 := by
  have e := gcdL_mul (com l) (leastL l)
  rw [mul_least h, com_natAbs] at e
  have hp : 0 < gcdL l := Nat.pos_of_ne_zero (gcdL_ne h)
  exact (Nat.eq_of_mul_eq_mul_left hp (by rw [Nat.mul_one]; exact e)).symm
/-! ### made lists -/
theorem made_mul (g : G) (k : Int) (l : List Int) : madeL g (mulL k l) = mulL k (madeL g l) := by
  apply ext_fn
  · rw [len_made, len_mul, len_mul, len_made]
  · intro p hp
    rw [len_made] at hp
    rw [fn_made hp, fn_mul, fn_made (by rw [len_mul] at hp; exact hp)]
    rw [show fnOf (mulL k l) = fun i => k * fnOf l i from funext (fn_mul k l)]
    exact U_lin g k _ p
theorem made_twice {n : Nat} {g : G} (hg : g.ok n) {l : List Int} (hl : l.length = 2 ^ n) : madeL g (madeL g l) = mulL (dbl g) l := by
  apply ext_fn
  · rw [len_made, len_made, len_mul]
  · intro p hp
    rw [len_made, len_made] at hp
    rw [fn_made (by rw [len_made]; exact hp), fn_mul]
    rw [hl] at hp
    rw [U_congr hg (f := fnOf (madeL g l)) (h := U g (fnOf l)) (fun q hq => fn_made (by rw [hl]; exact hq)) p hp]
    exact U_twice g hg _ p
theorem Nz.made {n : Nat} {g : G} (hg : g.ok n) {l : List Int} (hl : l.length = 2 ^ n) (h : Nz l) : Nz (madeL g l) := by
  have h2 : Nz (madeL g (madeL g l)) := by
    rw [made_twice hg hl]
    exact h.mul (dbl_ne g)
  -- a list of noughts is made to noughts
  by_cases q : Nz (madeL g l)
  · exact q
  · exfalso
    obtain ⟨x, hx, hn⟩ := h2
    have z : madeL g l = mulL 0 (madeL g l) := by
      apply ext_fn
      · rw [len_mul]
      · intro p hp
        rw [fn_mul, Int.zero_mul]
        by_cases e : fnOf (madeL g l) p = 0
        · exact e
        · exact absurd ⟨_, fn_mem hp, e⟩ q
    rw [z, made_mul] at hx
    obtain ⟨y, _, rfl⟩ := List.mem_map.mp hx
    exact hn (Int.zero_mul y)
/-- behind a gate the divisor of a list in least form is 1 or 2 -/
theorem gcd_made {n : Nat} {g : G} (hg : g.ok n) {l : List Int} (hl : l.length = 2 ^ n) (h1 : gcdL l = 1) : gcdL (madeL g l) ∣ 2 := by
  have d : gcdL (madeL g l) ∣ gcdL (mulL (dbl g) l) := by
    rw [← made_twice hg hl]
    refine dvd_gcdF _ _ _ (Nat.dvd_zero _) fun x hx => ?_
    -- each number of the list made again is a whole sum of such
    have e : madeL g l = mulL (gcdL (madeL g l)) ((madeL g l).map fun x => x / (gcdL (madeL g l) : Int)) := by
      unfold mulL
      rw [List.map_map]
      conv => lhs; rw [← List.map_id (madeL g l)]
      apply List.map_congr_left
      intro y hy
      exact (Int.mul_ediv_cancel' (gcdL_dvd hy)).symm
    rw [e, made_mul] at hx
    obtain ⟨y, _, rfl⟩ := List.mem_map.mp hx
    rw [Int.natAbs_mul, Int.natAbs_natCast]
    exact Nat.dvd_mul_right ..
  rw [gcdL_mul, h1, Nat.mul_one] at d
  refine Nat.dvd_trans d ?_
  cases g <;> simp [dbl]
theorem com_bound {n : Nat} {g : G} (hg : g.ok n) {l : List Int} (hl : l.length = 2 ^ n) (h1 : gcdL l = 1) : com (madeL g l) ≠ 0 ∧ (com (madeL g l)).natAbs ≤ 2 := by
  have d := gcd_made hg hl h1
  have hp := Nat.pos_of_dvd_of_pos d (by decide)
  have hle := Nat.le_of_dvd (by decide) d
  have e := com_natAbs (madeL g l)
  exact ⟨by omega, by omega⟩
/-! ### ends -/
theorem nz_start (n m : Nat) : Nz (startL n m) := ⟨1, List.mem_map.mpr ⟨0, List.mem_range.mpr (Nat.two_pow_pos n), S_zero m⟩, by decide⟩
theorem start_cons (n m : Nat) : ∃ r, startL n m = 1 :: r := by
  unfold startL
  have hp := Nat.two_pow_pos n
  cases q : 2 ^ n with
  | zero => omega
  | succ k =>
    rw [List.range_succ_eq_map, List.map_cons, S_zero]
    exact ⟨_, rfl⟩
theorem gcd_start (n m : Nat) : gcdL (startL n m) = 1 := by
  obtain ⟨r, e⟩ := start_cons n m
  have d := gcdL_dvd (l := startL n m) (x := 1) (by rw [e]; exact List.mem_cons_self ..)
  exact Nat.dvd_one.mp (Int.natCast_dvd_natCast.mp d)
theorem least_start (n m : Nat) : leastL (startL n m) = startL n m := by
  have h : com (startL n m) = 1 := by
    unfold com
    rw [gcd_start]
    obtain ⟨r, e⟩ := start_cons n m
    have : fnz (startL n m) = 1 := by
      rw [e]
      rfl
    rw [this]
    rfl
  unfold leastL
  rw [h]
  conv => rhs; rw [← List.map_id (startL n m)]
  apply List.map_congr_left
  intro x _
  exact Int.fdiv_one x
theorem len_end : ∀ (gs : List G) (l : List Int), (endL gs l).length = l.length
  | [], _ => rfl
  | g :: gs, l => by
    show (endL gs (leastL (madeL g l))).length = _
    rw [len_end, len_least, len_made]
theorem len_raw : ∀ (gs : List G) (l : List Int), (rawL gs l).length = l.length
  | [], _ => rfl
  | g :: gs, l => by
    show (rawL gs (madeL g l)).length = _
    rw [len_raw, len_made]
theorem fn_raw {n : Nat} : ∀ {gs : List G} (_ : okAll n gs) {l : List Int} (_ : l.length = 2 ^ n) {p : Nat}, p < 2 ^ n → fnOf (rawL gs l) p = goU gs (fnOf l) p
  | [], _, _, _, _, _ => rfl
  | g :: gs, hg, l, hl, p, hp => by
    show fnOf (rawL gs (madeL g l)) p = goU gs (U g (fnOf l)) p
    rw [fn_raw hg.cons.2 (by rw [len_made]; exact hl) hp]
    exact goU_congr hg.cons.2 (fun q hq => fn_made (by rw [hl]; exact hq)) p hp
/-- the end in least forms, and the end as it comes -/
theorem end_raw {n : Nat} : ∀ {gs : List G} (_ : okAll n gs) {l : List Int} (_ : l.length = 2 ^ n) (_ : Nz l) (_ : leastL l = l) (k : Int) (_ : k ≠ 0),
    ∃ c : Int, c ≠ 0 ∧ rawL gs (mulL k l) = mulL c (endL gs l) ∧ Nz (endL gs l) ∧ leastL (endL gs l) = endL gs l
  | [], _, l, _, hz, hL, k, hk => ⟨k, hk, rfl, hz, hL⟩
  | g :: gs, hg, l, hl, hz, hL, k, hk => by
    have hm := hz.made hg.cons.1 hl
    have e : madeL g (mulL k l) = mulL (k * com (madeL g l)) (leastL (madeL g l)) := by
      rw [made_mul]
      conv => lhs; rw [← mul_least hm]
      unfold mulL
      rw [List.map_map]
      apply List.map_congr_left
      intro x _
      exact (Int.mul_assoc ..).symm
    have ih := end_raw (gs := gs) hg.cons.2 (l := leastL (madeL g l)) (by rw [len_least, len_made]; exact hl) hm.least (least_least hm) (k * com (madeL g l)) (Int.mul_ne_zero hk (com_ne hm))
    obtain ⟨c, hc, e2, hz2, hL2⟩ := ih
    refine ⟨c, hc, ?_, hz2, hL2⟩
    show rawL gs (madeL g (mulL k l)) = mulL c (endL gs (leastL (madeL g l)))
    rw [e]
    exact e2
theorem mul_one' (l : List Int) : mulL 1 l = l := by
  unfold mulL
  conv => rhs; rw [← List.map_id l]
  apply List.map_congr_left
  intro x _
  exact Int.one_mul x
theorem end_start {n m : Nat} {gs : List G} (hg : okAll n gs) :
    ∃ c : Int, c ≠ 0 ∧ (∀ p, p < 2 ^ n → goU gs (S m) p = c * fnOf (endL gs (startL n m)) p) ∧ Nz (endL gs (startL n m)) ∧ leastL (endL gs (startL n m)) = endL gs (startL n m) := by
  obtain ⟨c, hc, e, hz, hL⟩ := end_raw hg (len_start n m) (nz_start n m) (least_start n m) 1 (by decide)
  refine ⟨c, hc, fun p hp => ?_, hz, hL⟩
  rw [mul_one'] at e
  rw [← fn_mul, ← e, fn_raw hg (len_start n m) hp]
  exact goU_congr hg (fun q hq => (fn_start hq).symm) p hp
/-- the ends are one list just where what comes is told alike -/
theorem end_iff {n m : Nat} {one other : List G} (h1 : okAll n one) (h2 : okAll n other) :
    endL one (startL n m) = endL other (startL n m) ↔ prop n (goU one (S m)) (goU other (S m)) := by
  obtain ⟨c, hc, e1, z1, L1⟩ := end_start (m := m) h1
  obtain ⟨d, hd, e2, z2, L2⟩ := end_start (m := m) h2
  constructor
  · intro e
    refine ⟨d, c, hd, hc, fun p hp => ?_⟩
    rw [e1 p hp, e2 p hp, e]
    exact Int.mul_left_comm ..
  · rintro ⟨a, b, ha, hb, e⟩
    have q : mulL (a * c) (endL one (startL n m)) = mulL (b * d) (endL other (startL n m)) := by
      apply ext_fn
      · rw [len_mul, len_mul, len_end, len_end]
      · intro p hp
        rw [len_mul, len_end, len_start] at hp
        rw [fn_mul, fn_mul, Int.mul_assoc, Int.mul_assoc, ← e1 p hp, ← e2 p hp]
        exact e p hp
    rw [← L1, ← L2, ← least_mul (Int.mul_ne_zero ha hc) z1, ← least_mul (Int.mul_ne_zero hb hd) z2, q]
/-! ### the program's answer: a start that parts, or none -/
/-- the rows' places, and what comes back -/
def parts (n : Nat) (one other : List G) (k : Nat) : Bool := !decide (backRow one other (first n k) = first n k)
/-- a start beside a row: true is +, false is 0 -/
def beside (n c : Nat) (own : Bool) (r : Row) : List Bool := (List.range n).map fun o => if o = c then own else (!r.x.testBit o && r.z.testBit o)
def partAt (n : Nat) (one other : List G) (k : Nat) : List Bool := beside n (k % n) (decide (k < n)) (backRow one other (first n k))
def parting (n : Nat) (one other : List G) : Option (List Bool) := ((List.range (2 * n)).find? (parts n one other)).map (partAt n one other)
/-- the shut coins of a start, as bits -/
def maskN (q : Nat → Bool) : Nat → Nat
  | 0 => 0
  | n + 1 => maskN q n + fl (q n) n
theorem maskN_lt (q : Nat → Bool) : ∀ n, maskN q n < 2 ^ n
  | 0 => Nat.one_pos
  | n + 1 => by
    have ih := maskN_lt q n
    show maskN q n + fl (q n) n < 2 ^ (n + 1)
    rw [Nat.pow_succ]
    cases q n
    · rw [fl_f]
      omega
    · rw [fl_t]
      omega
theorem maskN_tb (q : Nat → Bool) : ∀ n i, (maskN q n).testBit i = (decide (i < n) && q i)
  | 0, i => by
    show (0 : Nat).testBit i = _
    simp
  | n + 1, i => by
    have ih := maskN_tb q n i
    have lt := maskN_lt q n
    have e : maskN q (n + 1) = fl (q n) n ||| maskN q n := by
      show maskN q n + fl (q n) n = _
      cases q n
      · rw [fl_f, Nat.zero_or]
        rfl
      · rw [fl_t, Nat.add_comm]
        have := Nat.two_pow_add_eq_or_of_lt lt 1
        rw [Nat.mul_one] at this
        exact this
    rw [e, Nat.testBit_or, tb_fl, ih]
    by_cases h : n = i
    · subst h
      simp
    · by_cases h2 : i < n
      · simp [h, h2, Nat.lt_succ_of_lt h2]
      · simp [h, h2, show ¬ i < n + 1 by omega]
def shutOf (bs : List Bool) : Nat := maskN (fun i => !bs.getD i true) bs.length
theorem beside_len (n c : Nat) (own : Bool) (r : Row) : (beside n c own r).length = n := by simp [beside]
theorem partAt_len (n : Nat) (one other : List G) (k : Nat) : (partAt n one other k).length = n := beside_len ..
theorem shut_beside {n c : Nat} {own : Bool} {r : Row} {o : Nat} (ho : o < n) : (shutOf (beside n c own r)).testBit o = !(if o = c then own else (!r.x.testBit o && r.z.testBit o)) := by
  unfold shutOf
  rw [maskN_tb, beside_len, decide_eq_true ho, Bool.true_and]
  congr 1
  unfold beside
  rw [List.getD_eq_getElem?_getD, List.getElem?_map, List.getElem?_range ho]
  rfl
theorem parting_some {n : Nat} (h6 : n ≤ 6) {one other : List G} (h1 : okAll n one) (h2 : okAll n other) {bs : List Bool} (h : parting n one other = some bs) :
    bs.length = n ∧ endL one (startL n (shutOf bs)) ≠ endL other (startL n (shutOf bs)) := by
  unfold parting at h
  cases q : (List.range (2 * n)).find? (parts n one other) with
  | none =>
    rw [q] at h
    cases h
  | some k =>
    rw [q] at h
    have e : partAt n one other k = bs := Option.some.inj h
    subst e
    have hk : k < 2 * n := List.mem_range.mp (List.mem_of_find?_eq_some q)
    have hp := List.find?_some q
    refine ⟨partAt_len .., fun e => ?_⟩
    have hne : backRow one other (first n k) ≠ first n k := by
      unfold parts at hp
      simpa using hp
    refine unlike_of_back h6 hk h1 h2 (m := shutOf (partAt n one other k)) hne (fun o ho hoc => ?_) ?_ ((end_iff h1 h2).mp e)
    · unfold partAt
      rw [shut_beside ho, if_neg hoc]
    · have hn : 0 < n := by omega
      unfold partAt
      rw [shut_beside (Nat.mod_lt k hn), if_pos rfl]
      by_cases c : k < n
      · rw [decide_eq_true c, decide_eq_false (by omega)]
        rfl
      · rw [decide_eq_false c, decide_eq_true (by omega)]
        rfl
theorem parting_none {n : Nat} (h6 : n ≤ 6) {one other : List G} (h1 : okAll n one) (h2 : okAll n other) (h : parting n one other = none) (m : Nat) :
    endL one (startL n m) = endL other (startL n m) := by
  refine (end_iff h1 h2).mpr (same_of_back h6 h1 h2 m fun k hk => ?_)
  unfold parting at h
  have q := Option.map_eq_none_iff.mp h
  have e := List.find?_eq_none.mp q k (List.mem_range.mpr hk)
  unfold parts at e
  simpa using e
theorem back_swap {n : Nat} {one other : List G} (h1 : okAll n one) (h2 : okAll n other) {r : Row} (h : backRow one other r = r) : backRow other one r = r := by
  unfold backRow at h ⊢
  have e : goRow other r = goRow one r := by
    conv => lhs; rw [← h]
    exact goRow_forth h2 _
  rw [e]
  exact goRow_back h1 r
theorem parting_sym {n : Nat} {one other : List G} (h1 : okAll n one) (h2 : okAll n other) (h : parting n one other = none) : parting n other one = none := by
  unfold parting at h ⊢
  have q := Option.map_eq_none_iff.mp h
  apply Option.map_eq_none_iff.mpr
  apply List.find?_eq_none.mpr
  intro k hk
  have e := List.find?_eq_none.mp q k hk
  unfold parts at e ⊢
  have e2 : backRow one other (first n k) = first n k := by simpa using e
  simp [back_swap h1 h2 e2]
end TC
set_option Elab.async false
set_option linter.all false
set_option maxRecDepth 100000
set_option maxHeartbeats 4000000
/-! Turncoins: words for the walks: defs by name, heaps, rows, gates, texts. -/
namespace TC
open PySem PySem.Spec PyProof.Rows L2
/-! ### defs by name -/
section
variable {P : Program} {w : World} {K : PySem.W.Frag} {mg : Str → Option Value} {base : Heap}
/-- a def of the module as the top has left it -/
def Def (K : PySem.W.Frag) (mg : Str → Option Value) (x : Str) (st : Stmt) : Prop := ∃ (f : Addr) (fd : FuncData), FnP K x x st f fd ∧ mg x = some (.ref f)
/-- .. that may be called, with its promise -/
def Has (P : Program) (w : World) (K : PySem.W.Frag) (mg : Str → Option Value) (base : Heap) (k : Nat) (x : Str) (ps : List Str) (sp : Sp) : Prop :=
  ∃ (f : Addr) (fd : FuncData), FnOk P w K mg base CX0 k f fd ps sp ∧ mg x = some (.ref f) ∧ PySem.W.keepIn K (.ref f) = true ∧ Binds K fd ps []
/-- a method of the class at C -/
def HasM (P : Program) (w : World) (K : PySem.W.Frag) (mg : Str → Option Value) (base : Heap) (k : Nat) (C : Addr) (m : Str) (ps : List Str) (sp : Sp) : Prop :=
  ∃ (f : Addr) (fd : FuncData), Cls K C ∧ Meth K C m f ∧ FnOk P w K mg base CX0 k f fd ps sp ∧ Binds K fd ps []
/-- a class that may be made by its name; sp: its __init__ -/
def HasC (P : Program) (w : World) (K : PySem.W.Frag) (mg : Str → Option Value) (base : Heap) (k : Nat) (x : Str) (C : Addr) (ps : List Str) (sp : Sp) : Prop :=
  ∃ (f : Addr) (fd : FuncData), Mk K C f ∧ FnOk P w K mg base CX0 k f fd ps sp ∧ mg x = some (.ref C) ∧ Binds K fd ps []
/-- a promise by the body, nothing raised -/
theorem fn_ok {x qual : Str} {st : Stmt} {f : Addr} {fd : FuncData} {N ps : List Str} {k : Nat} {sp : Sp} (F : FnP K x qual st f fd) (S : FnScope N ps (defScope st)) (len : ∀ vs H Q E, sp vs H Q E → vs.length = ps.length)
    (hbody : ∀ (cdv : Value) (A : Around) (outer : List Env) (s : Shared) (H : Hp) (vs : List V) (Q : VK) (E : XK), Room k (A.deeper (envOfC qual (defScope st) s.heap.objs.size f cdv)) → sp vs H Q E →
      ∃ t, PSs (cxOf CX0 P w K mg base N qual (defScope st) f cdv A outer s H E).nox (defBody st) t ∧ t { nx := fun _ H' => Q .non H', rt := Q } (start N vs) H) : FnOk P w K mg base CX0 (k + 1) f fd ps sp :=
  F.ok S len fun cdv A outer s H vs Q E hr hsp => by
    obtain ⟨t, h, q⟩ := hbody cdv A outer s H vs Q E hr hsp
    exact ⟨t, h.nox, q⟩
theorem has_of {x : Str} {st : Stmt} {N ps : List Str} {k : Nat} {sp : Sp} (D : Def K mg x st) (S : FnScope N ps (defScope st)) (len : ∀ vs H Q E, sp vs H Q E → vs.length = ps.length)
    (bnd : ∀ (kV doc pm : Value) (an : Option Addr) (cdv ct : Value) (us : List Value), us.length = ps.length → bindArgs (PySem.W.fnOf x x (defArgs st) (defBody st) (defScope st) .none kV doc pm an cdv ct) ⟨us, []⟩ = pure (ps.zip us))
    (hbody : ∀ (f : Addr) (cdv : Value) (A : Around) (outer : List Env) (s : Shared) (H : Hp) (vs : List V) (Q : VK) (E : XK), Room k (A.deeper (envOfC x (defScope st) s.heap.objs.size f cdv)) → sp vs H Q E →
      ∃ t, PSs (cxOf CX0 P w K mg base N x (defScope st) f cdv A outer s H E).nox (defBody st) t ∧ t { nx := fun _ H' => Q .non H', rt := Q } (start N vs) H) : Has P w K mg base (k + 1) x ps sp := by
  obtain ⟨f, fd, F, g⟩ := D
  exact ⟨f, fd, fn_ok F S len (hbody f), g, F.kp, FunD.bindsN F bnd⟩
theorem Has.imp {k : Nat} {x : Str} {ps : List Str} {sp sp' : Sp} (h : Has P w K mg base k x ps sp) (i : ∀ vs H Q E, sp' vs H Q E → sp vs H Q E) : Has P w K mg base k x ps sp' := by
  obtain ⟨f, fd, F, g, kp, b⟩ := h
  exact ⟨f, fd, F.imp i, g, kp, b⟩
end
section
variable {X : Cx} {k j : Nat} {C : Addr} {x m : Str} {ps : List Str} {sp : Sp} {p pos apos : Pos} {e o : Expr} {es : List Expr} {ta : TE} {t : TA}
theorem pe_h (c : Has X.prog X.w X.K X.mg X.base k x ps sp) (hr : Room j X.A) (hk : k ≤ j) (hg : Gl X x) (ha : PA X (e :: es) t)
    (hdb : (x == ("__debug__" : Str)) = false := by decide) (he : starEach (e :: es) X.env = (false, eval e X.env) :: starEach es X.env := by rfl) (hpl : (backTo pos (starEach es X.env)).any (·.1) = false := by rfl) :
    PE X (.Call (.Name x p) (e :: es) [] pos) (tCall sp [] E0 t) := by
  obtain ⟨f, fd, F, hm, kp, b⟩ := c
  exact pe_call F (hr.mono hk) hg hm kp b .nil pass0 ha hdb he hpl
theorem pe_mk (c : HasC X.prog X.w X.K X.mg X.base k x C ps sp) (hr : Room j X.A) (hk : k + 1 ≤ j) (hg : Gl X x) (ha : PA X (e :: es) t)
    (hdb : (x == ("__debug__" : Str)) = false := by decide) (he : starEach (e :: es) X.env = (false, eval e X.env) :: starEach es X.env := by rfl) (hpl : (backTo pos (starEach es X.env)).any (·.1) = false := by rfl) :
    PE X (.Call (.Name x p) (e :: es) [] pos) (tMake C sp [] E0 t) := by
  obtain ⟨f, fd, M, F, hm, b⟩ := c
  exact pe_make M F (hr.mono hk) hg hm b .nil pass0 ha hdb he hpl
theorem pe_mk0 (c : HasC X.prog X.w X.K X.mg X.base k x C ps sp) (hr : Room j X.A) (hk : k + 1 ≤ j) (hg : Gl X x) (hdb : (x == ("__debug__" : Str)) = false := by decide) :
    PE X (.Call (.Name x p) [] [] pos) (tMake C sp [] E0 tNil) := by
  obtain ⟨f, fd, M, F, hm, b⟩ := c
  exact pe_make0 M F (hr.mono hk) hg hm b .nil pass0 hdb
theorem pe_mt {pl : Sem Bool} (c : HasM X.prog X.w X.K X.mg X.base k C m ps sp) (hr : Room j X.A) (hk : k ≤ j) (he : PE X o ta) (ha : PA X (e :: es) t)
    (hst : starEach (e :: es) X.env = (false, eval e X.env) :: starEach es X.env := by rfl) (hpl : (backTo pos (starEach es X.env)).any (·.1) = false := by rfl)
    (ht : eval (.Call (.Attribute o m apos) (e :: es) [] pos) X.env = (do
      let ov ← eval o X.env
      standAt apos.atName
      let (f, first) ← holding [ov] (getMethod ov m pl)
      callWith pos f first (backTo pos (starEach (e :: es) X.env)) (backToKw pos (keywordEach [] X.env))) := by rfl) :
    PE X (.Call (.Attribute o m apos) (e :: es) [] pos) (tMeth C m sp [] E0 ta t) := by
  obtain ⟨f, fd, hc, hm, F, b⟩ := c
  exact pe_meth (pl := pl) he hc hm F (hr.mono hk) b .nil pass0 ha hst hpl ht
/-- one expression, several readings: choose when it is read -/
def tAny {ι : Type} (t : ι → TE) : TE := fun σ H Q => ∃ i, t i σ H Q
theorem pe_any {ι : Type} {t : ι → TE} (h : ∀ i, PE X e (t i)) : PE X e (tAny t) := ⟨fun pins s σ H Q I q => by
  obtain ⟨i, q⟩ := q
  exact (h i).run pins s σ H Q I q⟩
end
/-! ### heaps -/
theorem Same.tup {K : PySem.W.Frag} {H H' : Hp} {a : Addr} {xs : List V} (e : Same H H') (h : SqT K H a xs) : SqT K H' a xs := by
  rcases h with (h | ⟨o, h⟩) | h
  · exact .inl (.inl (e _ _ h))
  · exact .inl (.inr ⟨o, e _ _ h⟩)
  · exact .inr h
theorem same_upd {H : Hp} {p : Addr} {o : HO} (h : H p = none) : Same H (upd H p o) := fun b x e => by
  rw [upd_ne (ne_of_none e h)]
  exact e
/-- what stood before D was made stands behind a change of D -/
theorem same_at {H0 H : Hp} {D : Addr} {o : HO} (hD : H0 D = none) (s : Same H0 H) : Same H0 (upd H D o) := fun b x e => by
  rw [upd_ne (ne_of_none e hD)]
  exact s b x e
/-- values that stand for things, place by place -/
structure Reps {α : Type} (R : V → α → Prop) (vs : List V) (xs : List α) : Prop where
  len : vs.length = xs.length
  at_ : ∀ (i : Nat) (v : V) (x : α), vs[i]? = some v → xs[i]? = some x → R v x
section
variable {α : Type} {R R' : V → α → Prop} {vs : List V} {xs : List α}
theorem Reps.nil : Reps R [] ([] : List α) := ⟨rfl, fun i v x h => by simp at h⟩
theorem Reps.mono (h : Reps R vs xs) (m : ∀ v x, R v x → R' v x) : Reps R' vs xs := ⟨h.len, fun i v x a b => m v x (h.at_ i v x a b)⟩
theorem Reps.snoc (h : Reps R vs xs) {v : V} {x : α} (r : R v x) : Reps R (vs ++ [v]) (xs ++ [x]) := by
  refine ⟨by rw [List.length_append, List.length_append, h.len]; rfl, fun i u y a b => ?_⟩
  by_cases hi : i < vs.length
  · rw [List.getElem?_append_left hi] at a
    rw [List.getElem?_append_left (by rw [← h.len]; exact hi)] at b
    exact h.at_ i u y a b
  · rw [List.getElem?_append_right (by omega)] at a
    rw [List.getElem?_append_right (by rw [← h.len]; omega), ← h.len] at b
    cases hk : i - vs.length with
    | zero =>
      rw [hk] at a b
      have e1 : v = u := Option.some.inj a
      have e2 : x = y := Option.some.inj b
      subst e1 e2
      exact r
    | succ n =>
      rw [hk] at a
      simp at a
theorem Reps.get (h : Reps R vs xs) {i : Nat} {v : V} (a : vs[i]? = some v) : ∃ x, xs[i]? = some x ∧ R v x := by
  have hi : i < xs.length := by
    rw [← h.len]
    exact (List.getElem?_eq_some_iff.mp a).1
  exact ⟨xs[i], List.getElem?_eq_getElem hi, h.at_ i v _ a (List.getElem?_eq_getElem hi)⟩
theorem Reps.get' (h : Reps R vs xs) {i : Nat} {x : α} (a : xs[i]? = some x) : ∃ v, vs[i]? = some v ∧ R v x := by
  have hi : i < vs.length := by
    rw [h.len]
    exact (List.getElem?_eq_some_iff.mp a).1
  exact ⟨vs[i], List.getElem?_eq_getElem hi, h.at_ i _ x (List.getElem?_eq_getElem hi) a⟩
theorem Reps.app {us : List V} {ys : List α} (h : Reps R vs xs) (g : Reps R us ys) : Reps R (vs ++ us) (xs ++ ys) := by
  refine ⟨by rw [List.length_append, List.length_append, h.len, g.len], fun i u y a b => ?_⟩
  by_cases hi : i < vs.length
  · rw [List.getElem?_append_left hi] at a
    rw [List.getElem?_append_left (by rw [← h.len]; exact hi)] at b
    exact h.at_ i u y a b
  · rw [List.getElem?_append_right (by omega)] at a
    rw [List.getElem?_append_right (by rw [← h.len]; omega), ← h.len] at b
    exact g.at_ _ u y a b
theorem Reps.take (h : Reps R vs xs) (n : Nat) : Reps R (vs.take n) (xs.take n) := by
  refine ⟨by rw [List.length_take, List.length_take, h.len], fun i u y a b => ?_⟩
  rw [List.getElem?_take] at a b
  by_cases hi : i < n
  · rw [if_pos hi] at a b
    exact h.at_ i u y a b
  · rw [if_neg hi] at a
    cases a
theorem Reps.drop (h : Reps R vs xs) (n : Nat) : Reps R (vs.drop n) (xs.drop n) := by
  refine ⟨by rw [List.length_drop, List.length_drop, h.len], fun i u y a b => ?_⟩
  rw [List.getElem?_drop] at a b
  exact h.at_ _ u y a b
theorem Reps.rev (h : Reps R vs xs) : Reps R vs.reverse xs.reverse := by
  refine ⟨by rw [List.length_reverse, List.length_reverse, h.len], fun i u y a b => ?_⟩
  have hi : i < vs.length := by
    have := (List.getElem?_eq_some_iff.mp a).1
    rwa [List.length_reverse] at this
  rw [List.getElem?_reverse hi] at a
  rw [List.getElem?_reverse (by rw [← h.len]; exact hi), ← h.len] at b
  exact h.at_ _ u y a b
end
theorem take_snoc {α : Type} {xs : List α} {i : Nat} {x : α} (h : xs[i]? = some x) : xs.take (i + 1) = xs.take i ++ [x] := by
  rw [List.take_add_one, h]
  rfl
/-! ### rows, gates -/
abbrev rowV (r : Row) : List V := [.int r.s, .int (r.x : Int), .int (r.z : Int)]
/-- v is a tuple of the row -/
def RowAt (K : PySem.W.Frag) (H : Hp) (v : V) (r : Row) : Prop := ∃ a, v = .ref a ∧ SqT K H a (rowV r)
theorem RowAt.mono {K : PySem.W.Frag} {H H' : Hp} (e : Same H H') {v : V} {r : Row} (h : RowAt K H v r) : RowAt K H' v r := by
  obtain ⟨a, e1, e2⟩ := h
  exact ⟨a, e1, Same.tup e e2⟩
inductive Kd where
  | mix | flip | sign | follow | meet | swap
  deriving DecidableEq
def Kd.name : Kd → Str
  | .mix => "Mix"
  | .flip => "Flip"
  | .sign => "Sign"
  | .follow => "Follow"
  | .meet => "Meet"
  | .swap => "Swap"
def Kd.mk : Kd → Nat → Nat → G
  | .mix, c, _ => .mix c
  | .flip, c, _ => .flip c
  | .sign, c, _ => .sign c
  | .follow, c, d => .follow c d
  | .meet, c, d => .meet c d
  | .swap, c, d => .swap c d
abbrev Kd.C (K : PySem.W.Frag) (k : Kd) : Addr := He.ga K k.name
/-- a gate's word -/
def W : G → Str
  | .mix _ => "mix"
  | .flip _ => "flip"
  | .sign _ => "sign"
  | .follow _ _ => "follow"
  | .meet _ _ => "meet"
  | .swap _ _ => "swap"
/-- its coins -/
def cs : G → List Nat
  | .mix c => [c]
  | .flip c => [c]
  | .sign c => [c]
  | .follow c d => [c, d]
  | .meet c d => [c, d]
  | .swap c d => [c, d]
def gtup (g : G) : List V := .str (W g) :: (cs g).map fun (c : Nat) => V.int (c : Int)
/-- v is a tuple that tells the gate -/
def GT (K : PySem.W.Frag) (H : Hp) (v : V) (g : G) : Prop := ∃ a, v = .ref a ∧ SqT K H a (gtup g)
theorem GT.mono {K : PySem.W.Frag} {H H' : Hp} (e : Same H H') {v : V} {g : G} (h : GT K H v g) : GT K H' v g := by
  obtain ⟨a, e1, e2⟩ := h
  exact ⟨a, e1, Same.tup e e2⟩
/-- the attributes of a gate's object -/
def gfs (c d : Int) : List (Str × V) := putF "second" (.int d) (putF "first" (.int c) [])
theorem fs_ : ¬ (("first" : Str) = "second") := by decide +kernel
theorem gfs_eq (c d : Int) : gfs c d = ([("first", V.int c), ("second", V.int d)] : List (Str × V)) := by
  show (if ("first" : Str) = "second" then [(("first" : Str), V.int d)] else (("first" : Str), V.int c) :: putF "second" (V.int d) []) = _
  rw [if_neg fs_]
  all_goals rfl
theorem gfs_first (c d : Int) : (gfs c d).lookup ("first" : Str) = some (.int c) := by
  unfold gfs
  rw [lookup_putF, if_neg fs_, lookup_putF, if_pos rfl]
theorem gfs_second (c d : Int) : (gfs c d).lookup ("second" : Str) = some (.int d) := by
  unfold gfs
  rw [lookup_putF, if_pos rfl]
theorem gfs_no (c d : Int) {m : Str} (h1 : ¬ m = "second") (h2 : ¬ m = "first") : (gfs c d).lookup m = none := by
  unfold gfs
  rw [lookup_putF, if_neg h1, lookup_putF, if_neg h2]
  all_goals rfl
/-- v is a gate's object -/
def GO (K : PySem.W.Frag) (H : Hp) (v : V) (g : G) : Prop := ∃ (k : Kd) (c d : Nat) (o dx : Addr), v = .ref o ∧ g = k.mk c d ∧ H o = some (.ins (k.C K) dx (gfs c d)) ∧ c < 6 ∧ d < 6
theorem GO.mono {K : PySem.W.Frag} {H H' : Hp} (e : Same H H') {v : V} {g : G} (h : GO K H v g) : GO K H' v g := by
  obtain ⟨k, c, d, o, dx, e1, e2, e3⟩ := h
  exact ⟨k, c, d, o, dx, e1, e2, e _ _ e3.1, e3.2⟩
/-- a list that is written stands apart from tuples and instances -/
theorem SqT.upd {K : PySem.W.Frag} {H : Hp} {D a : Addr} {us : List V} {o : HO} {xs : List V} (h : H D = some (.lst us)) (q : SqT K H a xs) : SqT K (upd H D o) a xs := by
  rcases q with (q | ⟨ob, q⟩) | q
  · exact .inl (.inl (by rw [upd_ne (ne_of q h (by intro z; cases z))]; exact q))
  · exact .inl (.inr ⟨ob, by rw [upd_ne (ne_of q h (by intro z; cases z))]; exact q⟩)
  · exact .inr q
theorem RowAt.upd {K : PySem.W.Frag} {H : Hp} {D : Addr} {us : List V} {o : HO} (h : H D = some (.lst us)) {v : V} {r : Row} (q : RowAt K H v r) : RowAt K (upd H D o) v r := by
  obtain ⟨a, e1, e2⟩ := q
  exact ⟨a, e1, SqT.upd h e2⟩
theorem GT.upd {K : PySem.W.Frag} {H : Hp} {D : Addr} {us : List V} {o : HO} (h : H D = some (.lst us)) {v : V} {g : G} (q : GT K H v g) : GT K (upd H D o) v g := by
  obtain ⟨a, e1, e2⟩ := q
  exact ⟨a, e1, SqT.upd h e2⟩
theorem GO.upd {K : PySem.W.Frag} {H : Hp} {D : Addr} {us : List V} {o : HO} (h : H D = some (.lst us)) {v : V} {g : G} (q : GO K H v g) : GO K (upd H D o) v g := by
  obtain ⟨k, c, d, p, dx, e1, e2, e3, e4⟩ := q
  exact ⟨k, c, d, p, dx, e1, e2, by rw [upd_ne (ne_of e3 h (by intro z; cases z))]; exact e3, e4⟩
/-- at a stands a list of such things -/
def LsAt {α : Type} (K : PySem.W.Frag) (R : Hp → V → α → Prop) (H : Hp) (a : Addr) (xs : List α) : Prop := ∃ vs, H a = some (.lst vs) ∧ Reps (R H) vs xs
theorem LsAt.mono {α : Type} {K : PySem.W.Frag} {R : Hp → V → α → Prop} (m : ∀ {H H' : Hp}, Same H H' → ∀ {v : V} {x : α}, R H v x → R H' v x) {H H' : Hp} (e : Same H H') {a : Addr} {xs : List α} (h : LsAt K R H a xs) : LsAt K R H' a xs := by
  obtain ⟨vs, e1, e2⟩ := h
  exact ⟨vs, e _ _ e1, e2.mono fun v x r => m e r⟩
abbrev GTs (K : PySem.W.Frag) := LsAt K (GT K)
abbrev GOs (K : PySem.W.Frag) := LsAt K (GO K)
abbrev Rows (K : PySem.W.Frag) := LsAt K (RowAt K)
/-! ### small numbers -/
def bi (b : Bool) : Int := if b then 1 else 0
theorem one_two (b : Bool) : (1 : Int) - 2 * bi b = sg b := by cases b <;> rfl
theorem xor_bi (a b : Bool) : Builtin.bitXor (bi a) (bi b) = bi (a ^^ b) := by cases a <;> cases b <;> decide
theorem and_bi (a b : Bool) : Builtin.bitAnd (bi a) (bi b) = bi (a && b) := by cases a <;> cases b <;> decide
theorem shl_bi (b : Bool) (c : Nat) : bi b * 2 ^ (c : Int).toNat = ((fl b c : Nat) : Int) := by
  rw [Int.toNat_natCast]
  cases b
  · rw [show bi false = 0 from rfl, Int.zero_mul]
    rfl
  · rw [show bi true = 1 from rfl, Int.one_mul]
    show (2 : Int) ^ c = ((2 ^ c : Nat) : Int)
    rw [Int.natCast_pow]
    rfl
theorem xor_nn (a b : Nat) : Builtin.bitXor (a : Int) (b : Int) = ((a ^^^ b : Nat) : Int) := by
  rw [Bits.bitXor_pp (by omega) (by omega), Int.toNat_natCast, Int.toNat_natCast]
theorem or_nn (a b : Nat) : Builtin.bitOr (a : Int) (b : Int) = ((a ||| b : Nat) : Int) := by
  rw [Bits.bitOr_pp (by omega) (by omega), Int.toNat_natCast, Int.toNat_natCast]
theorem bit_is (n c : Nat) : Builtin.bitAnd ((n : Int) / 2 ^ (c : Int).toNat) 1 = bi (n.testBit c) := by
  have h := Bits.bit_at (x := (n : Int)) c
  have hp : (0 : Int) ≤ 2 ^ c := by
    rw [show (2 : Int) ^ c = ((2 ^ c : Nat) : Int) by rw [Int.natCast_pow]; rfl]
    exact Int.natCast_nonneg _
  rw [Int.fdiv_eq_ediv_of_nonneg _ hp] at h
  rw [Int.toNat_natCast, h]
  rw [show (n : Int) / 2 ^ c % 2 = ((n / 2 ^ c % 2 : Nat) : Int) by
    rw [Int.natCast_emod, Int.natCast_ediv, Int.natCast_pow]
    rfl]
  rw [Nat.testBit_eq_decide_div_mod_eq]
  have h2 : n / 2 ^ c % 2 < 2 := Nat.mod_lt _ (by decide)
  by_cases e : n / 2 ^ c % 2 = 1
  · rw [e]
    rfl
  · rw [show n / 2 ^ c % 2 = 0 by omega]
    rfl
theorem sg_abs {s : Int} (h : s = 1 ∨ s = -1) : -(2 ^ 64) < s ∧ s < 2 ^ 64 := by
  rcases h with rfl | rfl <;> decide
/-! ### operators over small numbers -/
section
variable {X : Cx}
theorem op_xorN : OpR X (binaryOp .BitXor) (fun x y H Q => ∃ a b : Nat, x = .int (a : Int) ∧ y = .int (b : Int) ∧ Q (.int ((a ^^^ b : Nat) : Int)) H) := fun pins s σ H x y v u Q I rx ry ⟨a, b, e1, e2, q⟩ =>
  op_xor pins s σ H x y v u Q I rx ry ⟨a, b, e1, e2, by
    show Q (.int (Builtin.bitXor (a : Int) (b : Int))) H
    rw [xor_nn]
    exact q⟩
theorem op_orN : OpR X (binaryOp .BitOr) (fun x y H Q => ∃ a b : Nat, x = .int (a : Int) ∧ y = .int (b : Int) ∧ Q (.int ((a ||| b : Nat) : Int)) H) := fun pins s σ H x y v u Q I rx ry ⟨a, b, e1, e2, q⟩ =>
  op_or pins s σ H x y v u Q I rx ry ⟨a, b, e1, e2, by
    show Q (.int (Builtin.bitOr (a : Int) (b : Int))) H
    rw [or_nn]
    exact q⟩
theorem and_nn (a b : Nat) : Builtin.bitAnd (a : Int) (b : Int) = ((a &&& b : Nat) : Int) := by
  rw [PyProof.Rows.bitAnd_pp (by omega) (by omega), Int.toNat_natCast, Int.toNat_natCast]
theorem op_andN : OpR X (binaryOp .BitAnd) (fun x y H Q => ∃ a b : Nat, x = .int (a : Int) ∧ y = .int (b : Int) ∧ Q (.int ((a &&& b : Nat) : Int)) H) := fun pins s σ H x y v u Q I rx ry ⟨a, b, e1, e2, q⟩ =>
  op_and pins s σ H x y v u Q I rx ry ⟨a, b, e1, e2, by
    show Q (.int (Builtin.bitAnd (a : Int) (b : Int))) H
    rw [and_nn]
    exact q⟩
theorem op_xorB : OpR X (binaryOp .BitXor) (fun x y H Q => ∃ a b : Bool, x = .int (bi a) ∧ y = .int (bi b) ∧ Q (.int (bi (a ^^ b))) H) := fun pins s σ H x y v u Q I rx ry ⟨a, b, e1, e2, q⟩ =>
  op_xor pins s σ H x y v u Q I rx ry ⟨_, _, e1, e2, by
    show Q (.int (Builtin.bitXor (bi a) (bi b))) H
    rw [xor_bi]
    exact q⟩
theorem op_andB : OpR X (binaryOp .BitAnd) (fun x y H Q => ∃ a b : Bool, x = .int (bi a) ∧ y = .int (bi b) ∧ Q (.int (bi (a && b))) H) := fun pins s σ H x y v u Q I rx ry ⟨a, b, e1, e2, q⟩ =>
  op_and pins s σ H x y v u Q I rx ry ⟨_, _, e1, e2, by
    show Q (.int (Builtin.bitAnd (bi a) (bi b))) H
    rw [and_bi]
    exact q⟩
theorem op_shlB : OpR X (binaryOp .LShift) (fun x y H Q => ∃ (a : Bool) (c : Nat), x = .int (bi a) ∧ y = .int (c : Int) ∧ c < 64 ∧ Q (.int ((fl a c : Nat) : Int)) H) := fun pins s σ H x y v u Q I rx ry ⟨a, c, e1, e2, hc, q⟩ =>
  op_shl pins s σ H x y v u Q I rx ry ⟨_, _, e1, e2, ⟨by omega, by omega, by cases a <;> decide⟩, by
    show Q (.int (bi a * 2 ^ (c : Int).toNat)) H
    rw [shl_bi]
    exact q⟩
theorem op_shl1 : OpR X (binaryOp .LShift) (fun x y H Q => ∃ (c : Nat), x = .int 1 ∧ y = .int (c : Int) ∧ c < 64 ∧ Q (.int ((2 ^ c : Nat) : Int)) H) := fun pins s σ H x y v u Q I rx ry ⟨c, e1, e2, hc, q⟩ =>
  op_shlB pins s σ H x y v u Q I rx ry ⟨true, c, e1, e2, hc, q⟩
/-- (n >> c) & 1 -/
theorem op_bit : OpR X (binaryOp .BitAnd) (fun x y H Q => ∃ a c : Nat, x = .int ((a : Int) / 2 ^ (c : Int).toNat) ∧ y = .int 1 ∧ Q (.int (bi (a.testBit c))) H) := fun pins s σ H x y v u Q I rx ry ⟨a, c, e1, e2, q⟩ =>
  op_and pins s σ H x y v u Q I rx ry ⟨_, _, e1, e2, by
    show Q (.int (Builtin.bitAnd ((a : Int) / 2 ^ (c : Int).toNat) 1)) H
    rw [bit_is]
    exact q⟩
/-- 1 - 2 * bit -/
theorem op_sg : OpR X (binaryOp .Sub) (fun x y H Q => ∃ b : Bool, x = .int 1 ∧ y = .int (2 * bi b) ∧ Q (.int (sg b)) H) := fun pins s σ H x y v u Q I rx ry ⟨b, e1, e2, q⟩ =>
  op_sub pins s σ H x y v u Q I rx ry ⟨_, _, e1, e2, by
    show Q (.int (1 - 2 * bi b)) H
    rw [one_two]
    exact q⟩
end
/-! ### texts of signs -/
/-- a start as a text -/
def tx (bs : List Bool) : Str := SX.S (bs.map fun b => if b then 43 else 48)
theorem tx_len (bs : List Bool) : (tx bs).length = bs.length := by
  unfold tx
  rw [SX.S_len, List.length_map]
section
variable {X : Cx}
theorem op_catS : OpR X (binaryOp .Add) (fun x y H Q => ∃ a b : List Nat, x = .str (SX.S a) ∧ y = .str (SX.S b) ∧ a.length + b.length ≤ sizeLine ∧ Q (.str (SX.S (a ++ b))) H) := fun pins s σ H x y v u Q I rx ry ⟨a, b, e1, e2, hz, q⟩ =>
  op_add_str pins s σ H x y v u Q I rx ry ⟨_, _, e1, e2, by rw [SX.S_len, SX.S_len]; exact hz, by rw [SX.S_cat]; exact q⟩
end
theorem s_plus : ("+" : Str) = SX.S [43] := by decide +kernel
theorem s_nought : ("0" : Str) = SX.S [48] := by decide +kernel
theorem s_empty : ("" : Str) = SX.S [] := by decide +kernel
/-! ### rows compared -/
def rowD (r : Row) : PyData := .tuple [.int r.s, .int (r.x : Int), .int (r.z : Int)]
theorem RowAt.dp {K : PySem.W.Frag} {H : Hp} {v : V} {r : Row} (h : RowAt K H v r) : Dp K H v (rowD r) := by
  obtain ⟨a, rfl, h⟩ := h
  exact .tup h (.cons (.int _) (.cons (.int _) (.cons (.int _) .nil)))
theorem rowD_shaped (r : Row) : SeqAt.shaped (rowD r) = true := rfl
theorem rowD_eqv (r t : Row) : PyData.eqv (rowD r) (rowD t) = decide (r = t) := by
  obtain ⟨s, x, z⟩ := r
  obtain ⟨s', x', z'⟩ := t
  show PyData.eqv (.tuple [.int s, .int (x : Int), .int (z : Int)]) (.tuple [.int s', .int (x' : Int), .int (z' : Int)]) = _
  simp only [PyData.eqv, PyData.eqvAll]
  by_cases h1 : s = s' <;> by_cases h2 : x = x' <;> by_cases h3 : z = z' <;> simp [h1, h2, h3] <;> omega
/-! ### % and // of numbers from 0 on -/
section
variable {X : Cx}
theorem op_modK : OpR X (binaryOp .Mod) (fun x y H Q => ∃ a b : Nat, x = .int (a : Int) ∧ y = .int (b : Int) ∧ 0 < b ∧ Q (.int ((a % b : Nat) : Int)) H) := fun pins s σ H x y v u Q I rx ry ⟨a, b, e1, e2, hb, q⟩ =>
  op_mod pins s σ H x y v u Q I rx ry ⟨_, _, e1, e2, by show (0 : Int) < (b : Int); omega, by
    show Q (.int ((a : Int) % (b : Int))) H
    rw [← Int.natCast_emod]
    exact q⟩
theorem op_fdivK : OpR X (binaryOp .FloorDiv) (fun x y H Q => ∃ a b : Nat, x = .int (a : Int) ∧ y = .int (b : Int) ∧ 0 < b ∧ b < 1073741824 ∧ Q (.int ((a / b : Nat) : Int)) H) := fun pins s σ H x y v u Q I rx ry ⟨a, b, e1, e2, hb, hb2, q⟩ =>
  op_fdiv pins s σ H x y v u Q I rx ry ⟨_, _, e1, e2, ⟨by show (0 : Int) < (b : Int); omega, by show (b : Int) < 1073741824; omega⟩, by
    show Q (.int ((a : Int) / (b : Int))) H
    rw [← Int.natCast_ediv]
    exact q⟩
end
end TC
set_option Elab.async false
set_option linter.all false
set_option maxRecDepth 100000
set_option maxHeartbeats 4000000
/-! Turncoins: bit_of, the gates' objects, rows moved. -/
namespace TC
open PySem PySem.Spec PyProof.Rows L2
section
variable {P : Program} {w : World} {K : PySem.W.Frag} {mg : Str → Option Value} {base : Heap}
def spBit : Sp := fun vs H Q _ => ∃ n c : Nat, vs = [.int (n : Int), .int (c : Int)] ∧ Q (.int (bi (n.testBit c))) H
theorem scBit : FnScope ["number", "coin"] ["number", "coin"] (defScope s_bit_of) := ⟨rfl, rfl, rfl, by decide +kernel, rfl, by decide +kernel, by decide +kernel⟩
theorem ok_bit (D : Def K mg "bit_of" s_bit_of) : Has P w K mg base 1 "bit_of" ["number", "coin"] spBit := by
  refine has_of D scBit (fun vs H Q E h => ?_) (fun _ _ _ _ _ _ us hl => match us, hl with | [_, _], _ => rfl) (fun f cdv A outer s H vs Q E hr h => ?_)
  · obtain ⟨n, c, rfl, _⟩ := h
    rfl
  · obtain ⟨n, c, rfl, q⟩ := h
    refine ⟨_, pss_one (ps_ret (pe_op op_bit (pe_op op_shr (pv 0) (pv 1)) pe_int)), ?_⟩
    exact ⟨_, rfl, _, rfl, _, _, rfl, rfl, Int.natCast_nonneg _, n, c, rfl, rfl, q⟩
/-- what the top has left of a gate's class -/
structure KTxt (K : PySem.W.Frag) (k : Kd) : Prop where
  cl : Cls K (k.C K)
  nf : NoAttr K (k.C K) "first"
  ns : NoAttr K (k.C K) "second"
def DefM (K : PySem.W.Frag) (C : Addr) (m qual : Str) (st : Stmt) : Prop := ∃ (f : Addr) (fd : FuncData), FnP K m qual st f fd ∧ Cls K C ∧ Meth K C m f
theorem hasM_of {C : Addr} {m qual : Str} {st : Stmt} {N ps : List Str} {k : Nat} {sp : Sp} (D : DefM K C m qual st) (S : FnScope N ps (defScope st)) (len : ∀ vs H Q E, sp vs H Q E → vs.length = ps.length)
    (bnd : ∀ (kV doc pm : Value) (an : Option Addr) (cdv ct : Value) (us : List Value), us.length = ps.length → bindArgs (PySem.W.fnOf m qual (defArgs st) (defBody st) (defScope st) .none kV doc pm an cdv ct) ⟨us, []⟩ = pure (ps.zip us))
    (hbody : ∀ (f : Addr) (cdv : Value) (A : Around) (outer : List Env) (s : Shared) (H : Hp) (vs : List V) (Q : VK) (E : XK), Room k (A.deeper (envOfC qual (defScope st) s.heap.objs.size f cdv)) → sp vs H Q E →
      ∃ t, PSs (cxOf CX0 P w K mg base N qual (defScope st) f cdv A outer s H E).nox (defBody st) t ∧ t { nx := fun _ H' => Q .non H', rt := Q } (start N vs) H) : HasM P w K mg base (k + 1) C m ps sp := by
  obtain ⟨f, fd, F, c, me⟩ := D
  exact ⟨f, fd, c, me, fn_ok F S len (hbody f), FunD.bindsN F bnd⟩
def spOnRow (K : PySem.W.Frag) (k : Kd) : Sp := fun vs H Q _ => ∃ (o dx : Addr) (c d : Nat) (v : V) (r : Row), vs = [.ref o, v] ∧ H o = some (.ins (k.C K) dx (gfs c d)) ∧ RowAt K H v r ∧ (r.s = 1 ∨ r.s = -1) ∧ c < 6 ∧ d < 6 ∧
  ∀ H' v', Same H H' → RowAt K H' v' (onRow (k.mk c d) r) → Q v' H'
theorem scMix : FnScope ["self", "row", "sign", "xs", "zs", "x", "z", "turned_over"] ["self", "row"] (defScope s_Mix_on_row) := ⟨rfl, rfl, rfl, by decide +kernel, rfl, by decide +kernel, by decide +kernel⟩
theorem ok_mix (D : DefM K (Kd.mix.C K) "on_row" "Mix.on_row" s_Mix_on_row) (T : KTxt K .mix) (B : Has P w K mg base 1 "bit_of" ["number", "coin"] spBit) : HasM P w K mg base 2 (Kd.mix.C K) "on_row" ["self", "row"] (spOnRow K .mix) := by
  refine hasM_of D scMix (fun vs H Q E h => ?_) (fun _ _ _ _ _ _ us hl => match us, hl with | [_, _], _ => rfl) (fun f cdv A outer s H vs Q E hr h => ?_)
  · obtain ⟨o, dx, c, d, v, r, rfl, _⟩ := h
    rfl
  · obtain ⟨o, dx, c, d, v, r, rfl, ho, ⟨a, rfl, hR⟩, hs, hc, hd, q⟩ := h
    refine ⟨_, pss_cons (ps_asg (pv 1) (pg_tup rfl (pgs_cons (pg_name (i := 2) scMix.nd rfl (.inl rfl)) (pgs_cons (pg_name (i := 3) scMix.nd rfl (.inl rfl)) (pgs_cons (pg_name (i := 4) scMix.nd rfl (.inl rfl)) pgs_nil)))))
      (pss_cons (ps_set (i := 5) scMix.nd rfl (.inl rfl) (pe_h B hr (Nat.le_refl _) (by rfl) (pa_cons (pv 3) (pa_cons (pe_fld (pv 0) rfl) pa_nil))))
      (pss_cons (ps_set (i := 6) scMix.nd rfl (.inl rfl) (pe_h B hr (Nat.le_refl _) (by rfl) (pa_cons (pv 4) (pa_cons (pe_fld (pv 0) rfl) pa_nil))))
      (pss_cons (ps_set (i := 7) scMix.nd rfl (.inl rfl) (pe_op op_shlB (pe_op op_xorB (pv 5) (pv 6)) (pe_fld (pv 0) rfl)))
      (pss_one (ps_ret (pe_tup (pa_cons (pe_op op_mul (pv 2) (pe_op op_sg pe_int (pe_op op_mul pe_int (pe_op op_andB (pv 5) (pv 6))))) (pa_cons (pe_op op_xorN (pv 3) (pv 7)) (pa_cons (pe_op op_xorN (pv 4) (pv 7)) pa_nil))))))))), ?_⟩
    refine ⟨_, rfl, a, rowV r, rfl, hR, rfl, _, _, rfl, _, _, rfl, _, _, rfl, rfl, ?_⟩
    refine ⟨_, rfl, _, rfl, o, _, dx, _, _, rfl, ho, T.cl, T.nf, gfs_first _ _, r.x, c, rfl, ?_⟩
    refine ⟨_, rfl, _, rfl, o, _, dx, _, _, rfl, ho, T.cl, T.nf, gfs_first _ _, r.z, c, rfl, ?_⟩
    refine ⟨_, rfl, _, rfl, r.x.testBit c, r.z.testBit c, rfl, rfl, _, rfl, o, _, dx, _, _, rfl, ho, T.cl, T.nf, gfs_first _ _, _, c, rfl, rfl, by omega, ?_⟩
    refine ⟨_, rfl, _, rfl, _, rfl, r.x.testBit c, r.z.testBit c, rfl, rfl, _, _, rfl, rfl, .inl (by decide), _, rfl, rfl, _, _, rfl, rfl, .inl (sg_abs hs), ?_⟩
    refine ⟨_, rfl, _, rfl, _, _, rfl, rfl, _, rfl, _, rfl, _, _, rfl, rfl, (by show 3 ≤ sizeLine; decide), fun p hp => ?_⟩
    exact q _ _ (same_upd hp) ⟨p, rfl, SqT.of upd_same⟩
theorem scFlip : FnScope ["self", "row"] ["self", "row"] (defScope s_Flip_on_row) := ⟨rfl, rfl, rfl, by decide +kernel, rfl, by decide +kernel, by decide +kernel⟩
theorem ok_flip (D : DefM K (Kd.flip.C K) "on_row" "Flip.on_row" s_Flip_on_row) (T : KTxt K .flip) (B : Has P w K mg base 1 "bit_of" ["number", "coin"] spBit) : HasM P w K mg base 2 (Kd.flip.C K) "on_row" ["self", "row"] (spOnRow K .flip) := by
  refine hasM_of D scFlip (fun vs H Q E h => ?_) (fun _ _ _ _ _ _ us hl => match us, hl with | [_, _], _ => rfl) (fun f cdv A outer s H vs Q E hr h => ?_)
  · obtain ⟨o, dx, c, d, v, r, rfl, _⟩ := h
    rfl
  · obtain ⟨o, dx, c, d, v, r, rfl, ho, ⟨a, rfl, hR⟩, hs, hc, hd, q⟩ := h
    refine ⟨_, pss_one (ps_ret (pe_tup (pa_cons (pe_op op_mul (pe_ix ix_tup (pv 1) pe_int (fun _ _ => rfl)) (pe_op op_sg pe_int (pe_op op_mul pe_int (pe_h B hr (by decide) (by rfl) (pa_cons (pe_ix ix_tup (pv 1) pe_int (fun _ _ => rfl)) (pa_cons (pe_fld (pv 0) rfl) pa_nil)))))) (pa_cons (pe_ix ix_tup (pv 1) pe_int (fun _ _ => rfl)) (pa_cons (pe_ix ix_tup (pv 1) pe_int (fun _ _ => rfl)) pa_nil))))), ?_⟩
    refine ⟨_, rfl, a, rowV r, _, _, rfl, rfl, hR, atI_nat (j := 0) rfl, _, rfl, a, rowV r, _, _, rfl, rfl, hR, atI_nat (j := 2) rfl, _, rfl, o, _, dx, _, _, rfl, ho, T.cl, T.nf, gfs_first _ _, r.z, c, rfl, _, _, rfl, rfl, .inl (by decide), _, rfl, rfl, _, _, rfl, rfl, .inl (sg_abs hs), ?_⟩
    refine ⟨_, rfl, a, rowV r, _, _, rfl, rfl, hR, atI_nat (j := 1) rfl, _, rfl, a, rowV r, _, _, rfl, rfl, hR, atI_nat (j := 2) rfl, (by show 3 ≤ sizeLine; decide), fun p hp => ?_⟩
    exact q _ _ (same_upd hp) ⟨p, rfl, SqT.of upd_same⟩
theorem scSign : FnScope ["self", "row"] ["self", "row"] (defScope s_Sign_on_row) := ⟨rfl, rfl, rfl, by decide +kernel, rfl, by decide +kernel, by decide +kernel⟩
theorem ok_sign (D : DefM K (Kd.sign.C K) "on_row" "Sign.on_row" s_Sign_on_row) (T : KTxt K .sign) (B : Has P w K mg base 1 "bit_of" ["number", "coin"] spBit) : HasM P w K mg base 2 (Kd.sign.C K) "on_row" ["self", "row"] (spOnRow K .sign) := by
  refine hasM_of D scSign (fun vs H Q E h => ?_) (fun _ _ _ _ _ _ us hl => match us, hl with | [_, _], _ => rfl) (fun f cdv A outer s H vs Q E hr h => ?_)
  · obtain ⟨o, dx, c, d, v, r, rfl, _⟩ := h
    rfl
  · obtain ⟨o, dx, c, d, v, r, rfl, ho, ⟨a, rfl, hR⟩, hs, hc, hd, q⟩ := h
    refine ⟨_, pss_one (ps_ret (pe_tup (pa_cons (pe_op op_mul (pe_ix ix_tup (pv 1) pe_int (fun _ _ => rfl)) (pe_op op_sg pe_int (pe_op op_mul pe_int (pe_h B hr (by decide) (by rfl) (pa_cons (pe_ix ix_tup (pv 1) pe_int (fun _ _ => rfl)) (pa_cons (pe_fld (pv 0) rfl) pa_nil)))))) (pa_cons (pe_ix ix_tup (pv 1) pe_int (fun _ _ => rfl)) (pa_cons (pe_ix ix_tup (pv 1) pe_int (fun _ _ => rfl)) pa_nil))))), ?_⟩
    refine ⟨_, rfl, a, rowV r, _, _, rfl, rfl, hR, atI_nat (j := 0) rfl, _, rfl, a, rowV r, _, _, rfl, rfl, hR, atI_nat (j := 1) rfl, _, rfl, o, _, dx, _, _, rfl, ho, T.cl, T.nf, gfs_first _ _, r.x, c, rfl, _, _, rfl, rfl, .inl (by decide), _, rfl, rfl, _, _, rfl, rfl, .inl (sg_abs hs), ?_⟩
    refine ⟨_, rfl, a, rowV r, _, _, rfl, rfl, hR, atI_nat (j := 1) rfl, _, rfl, a, rowV r, _, _, rfl, rfl, hR, atI_nat (j := 2) rfl, (by show 3 ≤ sizeLine; decide), fun p hp => ?_⟩
    exact q _ _ (same_upd hp) ⟨p, rfl, SqT.of upd_same⟩
theorem scFollow : FnScope ["self", "row", "sign", "xs", "zs"] ["self", "row"] (defScope s_Follow_on_row) := ⟨rfl, rfl, rfl, by decide +kernel, rfl, by decide +kernel, by decide +kernel⟩
theorem ok_follow (D : DefM K (Kd.follow.C K) "on_row" "Follow.on_row" s_Follow_on_row) (T : KTxt K .follow) (B : Has P w K mg base 1 "bit_of" ["number", "coin"] spBit) : HasM P w K mg base 2 (Kd.follow.C K) "on_row" ["self", "row"] (spOnRow K .follow) := by
  refine hasM_of D scFollow (fun vs H Q E h => ?_) (fun _ _ _ _ _ _ us hl => match us, hl with | [_, _], _ => rfl) (fun f cdv A outer s H vs Q E hr h => ?_)
  · obtain ⟨o, dx, c, d, v, r, rfl, _⟩ := h
    rfl
  · obtain ⟨o, dx, c, d, v, r, rfl, ho, ⟨a, rfl, hR⟩, hs, hc, hd, q⟩ := h
    refine ⟨_, pss_cons (ps_asg (pv 1) (pg_tup rfl (pgs_cons (pg_name (i := 2) scFollow.nd rfl (.inl rfl)) (pgs_cons (pg_name (i := 3) scFollow.nd rfl (.inl rfl)) (pgs_cons (pg_name (i := 4) scFollow.nd rfl (.inl rfl)) pgs_nil)))))
      (pss_cons (ps_set (i := 3) scFollow.nd rfl (.inl rfl) (pe_op op_xorN (pv 3) (pe_op op_shlB (pe_h B hr (by decide) (by rfl) (pa_cons (pv 3) (pa_cons (pe_fld (pv 0) rfl) pa_nil))) (pe_fld (pv 0) rfl))))
      (pss_cons (ps_set (i := 4) scFollow.nd rfl (.inl rfl) (pe_op op_xorN (pv 4) (pe_op op_shlB (pe_h B hr (by decide) (by rfl) (pa_cons (pv 4) (pa_cons (pe_fld (pv 0) rfl) pa_nil))) (pe_fld (pv 0) rfl))))
      (pss_one (ps_ret (pe_tup (pa_cons (pv 2) (pa_cons (pv 3) (pa_cons (pv 4) pa_nil)))))))), ?_⟩
    refine ⟨_, rfl, a, rowV r, rfl, hR, rfl, _, _, rfl, _, _, rfl, _, _, rfl, rfl, ?_⟩
    refine ⟨_, rfl, _, rfl, _, rfl, o, _, dx, _, _, rfl, ho, T.cl, T.nf, gfs_first _ _, r.x, c, rfl, _, rfl, o, _, dx, _, _, rfl, ho, T.cl, T.ns, gfs_second _ _, _, d, rfl, rfl, by omega, _, _, rfl, rfl, ?_⟩
    refine ⟨_, rfl, _, rfl, _, rfl, o, _, dx, _, _, rfl, ho, T.cl, T.ns, gfs_second _ _, r.z, d, rfl, _, rfl, o, _, dx, _, _, rfl, ho, T.cl, T.nf, gfs_first _ _, _, c, rfl, rfl, by omega, _, _, rfl, rfl, ?_⟩
    refine ⟨_, rfl, _, rfl, _, rfl, (by show 3 ≤ sizeLine; decide), fun p hp => ?_⟩
    exact q _ _ (same_upd hp) ⟨p, rfl, SqT.of upd_same⟩
theorem scMeet : FnScope ["self", "row", "sign", "xs", "zs", "one", "other"] ["self", "row"] (defScope s_Meet_on_row) := ⟨rfl, rfl, rfl, by decide +kernel, rfl, by decide +kernel, by decide +kernel⟩
theorem ok_meet (D : DefM K (Kd.meet.C K) "on_row" "Meet.on_row" s_Meet_on_row) (T : KTxt K .meet) (B : Has P w K mg base 1 "bit_of" ["number", "coin"] spBit) : HasM P w K mg base 2 (Kd.meet.C K) "on_row" ["self", "row"] (spOnRow K .meet) := by
  refine hasM_of D scMeet (fun vs H Q E h => ?_) (fun _ _ _ _ _ _ us hl => match us, hl with | [_, _], _ => rfl) (fun f cdv A outer s H vs Q E hr h => ?_)
  · obtain ⟨o, dx, c, d, v, r, rfl, _⟩ := h
    rfl
  · obtain ⟨o, dx, c, d, v, r, rfl, ho, ⟨a, rfl, hR⟩, hs, hc, hd, q⟩ := h
    refine ⟨_, pss_cons (ps_asg (pv 1) (pg_tup rfl (pgs_cons (pg_name (i := 2) scMeet.nd rfl (.inl rfl)) (pgs_cons (pg_name (i := 3) scMeet.nd rfl (.inl rfl)) (pgs_cons (pg_name (i := 4) scMeet.nd rfl (.inl rfl)) pgs_nil)))))
      (pss_cons (ps_set (i := 5) scMeet.nd rfl (.inl rfl) (pe_h B hr (by decide) (by rfl) (pa_cons (pv 3) (pa_cons (pe_fld (pv 0) rfl) pa_nil))))
      (pss_cons (ps_set (i := 6) scMeet.nd rfl (.inl rfl) (pe_h B hr (by decide) (by rfl) (pa_cons (pv 3) (pa_cons (pe_fld (pv 0) rfl) pa_nil))))
      (pss_one (ps_ret (pe_tup (pa_cons (pe_op op_mul (pv 2) (pe_op op_sg pe_int (pe_op op_mul pe_int (pe_op op_andB (pv 5) (pv 6))))) (pa_cons (pv 3) (pa_cons (pe_op op_xorN (pe_op op_xorN (pv 4) (pe_op op_shlB (pv 5) (pe_fld (pv 0) rfl))) (pe_op op_shlB (pv 6) (pe_fld (pv 0) rfl))) pa_nil)))))))), ?_⟩
    refine ⟨_, rfl, a, rowV r, rfl, hR, rfl, _, _, rfl, _, _, rfl, _, _, rfl, rfl, ?_⟩
    refine ⟨_, rfl, _, rfl, o, _, dx, _, _, rfl, ho, T.cl, T.nf, gfs_first _ _, r.x, c, rfl, ?_⟩
    refine ⟨_, rfl, _, rfl, o, _, dx, _, _, rfl, ho, T.cl, T.ns, gfs_second _ _, r.x, d, rfl, ?_⟩
    refine ⟨_, rfl, _, rfl, _, rfl, r.x.testBit c, r.x.testBit d, rfl, rfl, _, _, rfl, rfl, .inl (by decide), _, rfl, rfl, _, _, rfl, rfl, .inl (sg_abs hs), ?_⟩
    refine ⟨_, rfl, _, rfl, _, rfl, _, rfl, o, _, dx, _, _, rfl, ho, T.cl, T.ns, gfs_second _ _, _, d, rfl, rfl, by omega, _, _, rfl, rfl, _, rfl, _, rfl, o, _, dx, _, _, rfl, ho, T.cl, T.nf, gfs_first _ _, _, c, rfl, rfl, by omega, _, _, rfl, rfl, (by show 3 ≤ sizeLine; decide), fun p hp => ?_⟩
    exact q _ _ (same_upd hp) ⟨p, rfl, SqT.of upd_same⟩
def spChg (K : PySem.W.Frag) : Sp := fun vs H Q _ => ∃ (o dx : Addr) (c d n : Nat), vs = [.ref o, .int (n : Int)] ∧ H o = some (.ins (Kd.swap.C K) dx (gfs c d)) ∧ c < 6 ∧ d < 6 ∧ Q (.int ((chg c d n : Nat) : Int)) H
theorem scChg : FnScope ["self", "number", "unlike"] ["self", "number"] (defScope s_Swap_changed) := ⟨rfl, rfl, rfl, by decide +kernel, rfl, by decide +kernel, by decide +kernel⟩
theorem ok_chg (D : DefM K (Kd.swap.C K) "changed" "Swap.changed" s_Swap_changed) (T : KTxt K .swap) (B : Has P w K mg base 1 "bit_of" ["number", "coin"] spBit) : HasM P w K mg base 2 (Kd.swap.C K) "changed" ["self", "number"] (spChg K) := by
  refine hasM_of D scChg (fun vs H Q E h => ?_) (fun _ _ _ _ _ _ us hl => match us, hl with | [_, _], _ => rfl) (fun f cdv A outer s H vs Q E hr h => ?_)
  · obtain ⟨o, dx, c, d, n, rfl, _⟩ := h
    rfl
  · obtain ⟨o, dx, c, d, n, rfl, ho, hc, hd, q⟩ := h
    refine ⟨_, pss_cons (ps_set (i := 2) scChg.nd rfl (.inl rfl) (pe_op op_xorB (pe_h B hr (by decide) (by rfl) (pa_cons (pv 1) (pa_cons (pe_fld (pv 0) rfl) pa_nil))) (pe_h B hr (by decide) (by rfl) (pa_cons (pv 1) (pa_cons (pe_fld (pv 0) rfl) pa_nil)))))
      (pss_one (ps_ret (pe_op op_xorN (pe_op op_xorN (pv 1) (pe_op op_shlB (pv 2) (pe_fld (pv 0) rfl))) (pe_op op_shlB (pv 2) (pe_fld (pv 0) rfl))))), ?_⟩
    refine ⟨_, rfl, _, rfl, o, _, dx, _, _, rfl, ho, T.cl, T.nf, gfs_first _ _, n, c, rfl, _, rfl, _, rfl, o, _, dx, _, _, rfl, ho, T.cl, T.ns, gfs_second _ _, n, d, rfl, _, _, rfl, rfl, ?_⟩
    exact ⟨_, rfl, _, rfl, _, rfl, o, _, dx, _, _, rfl, ho, T.cl, T.nf, gfs_first _ _, _, c, rfl, rfl, by omega, _, _, rfl, rfl, _, rfl, _, rfl, o, _, dx, _, _, rfl, ho, T.cl, T.ns, gfs_second _ _, _, d, rfl, rfl, by omega, _, _, rfl, rfl, q⟩
theorem scSwap : FnScope ["self", "row"] ["self", "row"] (defScope s_Swap_on_row) := ⟨rfl, rfl, rfl, by decide +kernel, rfl, by decide +kernel, by decide +kernel⟩
theorem ok_swap (D : DefM K (Kd.swap.C K) "on_row" "Swap.on_row" s_Swap_on_row) (T : KTxt K .swap) (B : Has P w K mg base 1 "bit_of" ["number", "coin"] spBit) (CH : HasM P w K mg base 2 (Kd.swap.C K) "changed" ["self", "number"] (spChg K)) : HasM P w K mg base 3 (Kd.swap.C K) "on_row" ["self", "row"] (spOnRow K .swap) := by
  refine hasM_of D scSwap (fun vs H Q E h => ?_) (fun _ _ _ _ _ _ us hl => match us, hl with | [_, _], _ => rfl) (fun f cdv A outer s H vs Q E hr h => ?_)
  · obtain ⟨o, dx, c, d, v, r, rfl, _⟩ := h
    rfl
  · obtain ⟨o, dx, c, d, v, r, rfl, ho, ⟨a, rfl, hR⟩, hs, hc, hd, q⟩ := h
    refine ⟨_, pss_one (ps_ret (pe_tup (pa_cons (pe_ix ix_tup (pv 1) pe_int (fun _ _ => rfl)) (pa_cons (pe_mt CH hr (by decide) (pv 0) (pa_cons (pe_ix ix_tup (pv 1) pe_int (fun _ _ => rfl)) pa_nil)) (pa_cons (pe_mt CH hr (by decide) (pv 0) (pa_cons (pe_ix ix_tup (pv 1) pe_int (fun _ _ => rfl)) pa_nil)) pa_nil))))), ?_⟩
    refine ⟨_, rfl, a, rowV r, _, _, rfl, rfl, hR, atI_nat (j := 0) rfl, _, rfl, o, dx, _, rfl, ho, gfs_no _ _ (by decide +kernel) (by decide +kernel), _, rfl, a, rowV r, _, _, rfl, rfl, hR, atI_nat (j := 1) rfl, o, dx, c, d, r.x, rfl, ho, hc, hd, _, rfl, o, dx, _, rfl, ho, gfs_no _ _ (by decide +kernel) (by decide +kernel), _, rfl, a, rowV r, _, _, rfl, rfl, hR, atI_nat (j := 2) rfl, o, dx, c, d, r.z, rfl, ho, hc, hd, (by show 3 ≤ sizeLine; decide), fun p hp => ?_⟩
    exact q _ _ (same_upd hp) ⟨p, rfl, SqT.of upd_same⟩
def spGInit (C : Addr) : Sp := fun vs H Q _ => ∃ (x dx : Addr) (c d : Int), vs = [.ref x, .int c, .int d] ∧ H x = some (.ins C dx []) ∧ ∀ H' : Hp, (∀ b, b ≠ x → H' b = H b) → H' x = some (.ins C dx (gfs c d)) → Q .non H'
theorem scGInit : FnScope ["self", "first", "second"] ["self", "first", "second"] (defScope s_Gate_init) := ⟨rfl, rfl, rfl, by decide +kernel, rfl, by decide +kernel, by decide +kernel⟩
theorem ok_ginit {k : Kd} {f : Addr} {fd : FuncData} (F : FnP K "__init__" "Gate.__init__" s_Gate_init f fd) (T : KTxt K k) : FnOk P w K mg base CX0 1 f fd ["self", "first", "second"] (spGInit (k.C K)) := by
  refine fn_ok F scGInit (fun vs H Q E h => ?_) (fun cdv A outer s H vs Q E hr h => ?_)
  · obtain ⟨x, dx, c, d, rfl, _⟩ := h
    rfl
  · obtain ⟨x, dx, c, d, rfl, hx, q⟩ := h
    refine ⟨_, pss_cons (ps_fld (pv 0) (pv 1) rfl) (pss_one (ps_fld (pv 0) (pv 2) rfl)), ?_⟩
    refine ⟨_, rfl, _, rfl, x, _, dx, _, rfl, hx, T.cl, T.nf, (by show 0 < 1000; decide), _, rfl, _, rfl, x, _, dx, _, rfl, upd_same, T.cl, T.ns, (by show 1 < 1000; decide), ?_⟩
    exact q _ (fun b hb => by rw [upd_ne hb, upd_ne hb]) upd_same
theorem ok_gmake {k : Kd} {f : Addr} {fd : FuncData} (F : FnP K "__init__" "Gate.__init__" s_Gate_init f fd) (T : KTxt K k) (M : Mk K (k.C K) f) (hm : mg k.name = some (.ref (k.C K))) : HasC P w K mg base 1 k.name (k.C K) ["self", "first", "second"] (spGInit (k.C K)) :=
  ⟨f, fd, M, ok_ginit F T, hm, FunD.bindsN F fun _ _ _ _ _ _ us hl => match us, hl with | [_, _, _], _ => rfl⟩
end
end TC
set_option Elab.async false
set_option linter.all false
set_option maxRecDepth 100000
set_option maxHeartbeats 4000000
/-! Turncoins: is_gate, gate_of, gates_from. -/
namespace TC
open PySem PySem.Spec PyProof.Rows L2
theorem ifT {c : Bool} {A B : Prop} (h : c = true) (a : A) : if c = true then A else B := by
  rw [if_pos h]
  exact a
theorem ifF {c : Bool} {A B : Prop} (h : c = false) (b : B) : if c = true then A else B := by
  rw [h]
  exact b
/-- the built-in names are still the built-in ones -/
structure Free (mg : Str → Option Value) : Prop where
  len : mg "len" = none
  range : mg "range" = none
  enumerate : mg "enumerate" = none
  isinstance : mg "isinstance" = none
  tuple : mg "tuple" = none
  sum : mg "sum" = none
  int : mg "int" = none
  str : mg "str" = none
  list : mg "list" = none
  abs : mg "abs" = none
  all : mg "all" = none
  bool : mg "bool" = none
/-- the table of the gates' words stands by the name x -/
def PartsAt (K : PySem.W.Frag) (mg : Str → Option Value) (w : World) (x : Str) : Prop := ∃ (d : Addr) (es : Array DictEntry) (n : Nat), KDict K w d es n ∧ mg x = some (.ref d) ∧
  ∀ g : G, ∃ u, PySem.W.nsIn K d (W g) = some (some u) ∧ RelV (.int ((gtup g).length : Int)) u
section
variable {X : Cx} {o e f : Expr} {td ty tx : TE} {apos cpos : Pos} {d : Addr} {es : Array DictEntry} {n : Nat}
/-- d.get(k, x), d a written table of the module with text keys, the key there -/
theorem pe_kget2 (D : KDict X.K X.w d es n) (ho : PE X o td) (he : PE X e ty) (hf : PE X f tx) (m : M2 X o "get" apos e f cpos) : PE X (.Call (.Attribute o "get" apos) [e, f] [] cpos)
    (fun σ H Q => td σ H fun x H1 => x = .ref d ∧ ty σ H1 fun y H2 => tx σ H2 fun z H3 => ∃ (k : Str) (u : Value) (v : V), y = .str k ∧ PySem.W.nsIn X.K d k = some (some u) ∧ RelV v u ∧ Q v H3) := by
  refine ⟨fun pins s σ H Q I h => ?_⟩
  refine wpAny_Call_method m.base m.few m.line PySem.F.plainAttrs_dict PySem.F.slot_dict_get PySem.F.type_dict_get (thn (ho.run pins s σ H _ I h) fun u s1 ⟨x, H1, I1, rx, ex, q1⟩ => ?_)
  subst ex
  obtain rfl : u = Value.ref d := rx
  refine ⟨kd_type D I1, fun b q => ?_, ?_⟩
  · cases q
    exact ⟨_, I1.kIn d _ D.at_, rfl⟩
  rw [m.trees]
  refine Calls.callWith_builtin rfl (Calls.evalArgs_plain (Calls.spliced_cons (thn (he.run pins s1 σ H1 _ I1 q1) fun iv s2 ⟨y, H2, I2, ry, q2⟩ =>
    Calls.spliced_cons (thn (hf.run pins s2 σ H2 _ I2 q2) fun fv s3 ⟨z, H3, I3, rz, k, u0, v, ey, hk, rv, q3⟩ => Calls.spliced_nil ?_))))
  subst ey
  obtain ⟨t, rfl⟩ := ry
  refine call_meetsIn PySem.F.slot_dict_get (kd_type D I3) PySem.F.entry_dict_get (PySem.F.args_dict_get_3 _ _ _) (meets_dict_get_default (strKind X.prog X.w) d (PySem.strKind_is X.prog X.w k t) D.low fv) ⟨_, PySem.W.mapOf_K (prog := X.prog) I3.kIn D.at_ D.lit, ?_⟩
  rw [PySem.W.find_K D.at_ hk]
  exact ⟨v, H3, I3.tok _, rv, q3⟩
end
/-! ### comprehensions and loops over enumerate(list) -/
theorem lc_enum {K : PySem.W.Frag} {a : Addr} {xs : List V} {g : TG} {tt : TT} {te : TE} {vs : List Nat} {σ : L2.St} {H1 : Hp} {D : Addr} {Qd : Hp → Prop} (Pv : Nat → Hp → Prop) (h0 : Pv 0 (upd H1 D (.lst []))) (hl : ∀ i H, i ≤ xs.length → Pv i H → SqL K H a xs)
    (hs : ∀ i x H T, xs[i]? = some x → Pv i H → H T = none → g (.ref T) (wipe σ vs) (upd H T (.tup [.int (i : Nat), x])) fun σ2 H2 => wipe σ2 vs = wipe σ vs ∧ tt σ2 H2 fun b H3 =>
      if b = true then te σ2 H3 fun y H4 => ∃ acc, H4 D = some (.lst acc) ∧ acc.length < sizeLine ∧ Pv (i + 1) (upd H4 D (.lst (acc ++ [y]))) else Pv (i + 1) H3) (hd : ∀ H, Pv xs.length H → Qd H) :
    ∃ W : Nat → Nat → Hp → Prop, (∃ m, W 0 m (upd H1 D (.lst []))) ∧ ∀ i m H, W i m H →
      ((Ite K a).stop i H ∧ Qd H) ∨ ((Ite K a).go i H ∧ ∃ Nx : Hp → Prop, (∀ H', Nx H' → ∃ m', m' < m ∧ W (i + 1) m' H') ∧ ∀ x H', (Ite K a).yld i H x H' → g x (wipe σ vs) H' fun σ2 H2 => wipe σ2 vs = wipe σ vs ∧ tt σ2 H2 fun b H3 =>
        if b = true then te σ2 H3 fun y H4 => ∃ acc, H4 D = some (.lst acc) ∧ acc.length < sizeLine ∧ Nx (upd H4 D (.lst (acc ++ [y]))) else Nx H3) := by
  refine ⟨fun i m H => m = xs.length - i ∧ i ≤ xs.length ∧ Pv i H, ⟨xs.length, by simp, Nat.zero_le _, h0⟩, ?_⟩
  rintro i m H ⟨rfl, hi, p⟩
  have q := hl i H hi p
  by_cases hlt : i < xs.length
  · refine .inr ⟨⟨xs, xs[i], q, by simp [hlt]⟩, Pv (i + 1), fun H' p' => ⟨xs.length - (i + 1), by omega, rfl, hlt, p'⟩, fun x H' y => ?_⟩
    obtain ⟨T, z, rfl, nT, rfl, y⟩ := y
    exact hs i z H T (y xs q) p nT
  · have e : i = xs.length := by omega
    subst e
    exact .inl ⟨⟨xs, q, Nat.le_refl _⟩, hd H p⟩
theorem for_enum {K : PySem.W.Frag} {a : Addr} {xs : List V} {g : TG} {tb : TS} {D : Ends} {σ : L2.St} {H : Hp} (Pv : Nat → L2.St → Hp → Prop) (h0 : Pv 0 σ H) (hl : ∀ i σ H, i ≤ xs.length → Pv i σ H → SqL K H a xs)
    (hs : ∀ i x σ H T, xs[i]? = some x → Pv i σ H → H T = none → g (.ref T) σ (upd H T (.tup [.int (i : Nat), x])) fun σ2 H2 => tb { D with nx := Pv (i + 1), ct := Pv (i + 1), bk := D.nx } σ2 H2) (hd : ∀ σ H, Pv xs.length σ H → D.nx σ H) :
    ∃ W : Nat → Nat → L2.St → Hp → Prop, (∃ m, W 0 m σ H) ∧ ∀ i m σ H, W i m σ H →
      ((Ite K a).stop i H ∧ D.nx σ H) ∨ ((Ite K a).go i H ∧ ∃ N : L2.St → Hp → Prop, (∀ σ' H', N σ' H' → ∃ m', m' < m ∧ W (i + 1) m' σ' H') ∧ ∀ x H', (Ite K a).yld i H x H' → g x σ H' fun σ2 H2 => tb { D with nx := N, ct := N, bk := D.nx } σ2 H2) := by
  refine ⟨fun i m σ H => m = xs.length - i ∧ i ≤ xs.length ∧ Pv i σ H, ⟨xs.length, by simp, Nat.zero_le _, h0⟩, ?_⟩
  rintro i m σ H ⟨rfl, hi, p⟩
  have q := hl i σ H hi p
  by_cases hlt : i < xs.length
  · refine .inr ⟨⟨xs, xs[i], q, by simp [hlt]⟩, Pv (i + 1), fun σ' H' p' => ⟨xs.length - (i + 1), by omega, rfl, hlt, p'⟩, fun x H' y => ?_⟩
    obtain ⟨T, z, rfl, nT, rfl, y⟩ := y
    exact hs i z σ H T (y xs q) p nT
  · have e : i = xs.length := by omega
    subst e
    exact .inl ⟨⟨xs, q, Nat.le_refl _⟩, hd σ H p⟩
/-- a pair of names as a target -/
theorem pg_pair {X : Cx} {i j k : Nat} {x y : Str} {p q pos : Pos} (hc : X.calm = true) (hN : X.N.Nodup) (hi : X.N[i]? = some x) (hj : X.N[j]? = some y) (hx : Loc X.env.scope x) (hy : Loc X.env.scope y)
    (hf : X.fn x = true ∨ X.env.scope.names.lookup x = some .local := by first | exact .inl rfl | exact .inr rfl | assumption) (hf' : X.fn y = true ∨ X.env.scope.names.lookup y = some .local := by first | exact .inl rfl | exact .inr rfl | assumption) :
    PG X (.Tuple [.Name x p, .Name y q] k pos) (gTup X.K 2 (gCons (gName i) (gCons (gName j) gNil))) :=
  pg_tup (n := 2) hc (pgs_cons (pg_name hN hi hx hf) (pgs_cons (pg_name hN hj hy hf') pgs_nil))
theorem cut1 (xs : List V) : cutV xs (some 1) none = xs.drop 1 := by
  unfold cutV
  rw [show HT.sIx xs.length 0 (some 1) = min 1 xs.length from HT.sIx_nat xs.length 0 1, HT.sIx_none]
  cases xs with
  | nil => rfl
  | cons x r =>
    rw [show min 1 (x :: r).length = 1 by
      rw [List.length_cons]
      omega]
    show (List.take ((x :: r).length - 1) r) = r
    rw [List.length_cons, Nat.add_sub_cancel]
    exact List.take_length
theorem gtup_len (g : G) : (gtup g).length = (cs g).length + 1 := by simp [gtup]
theorem cs_lt {n : Nat} {g : G} (h : g.ok n) : ∀ c ∈ cs g, c < n := by
  cases g with
  | mix c => intro x hx; rw [List.mem_singleton.mp hx]; exact h
  | flip c => intro x hx; rw [List.mem_singleton.mp hx]; exact h
  | sign c => intro x hx; rw [List.mem_singleton.mp hx]; exact h
  | follow c d => intro x hx; rcases List.mem_cons.mp hx with rfl | hx; exact h.1; rw [List.mem_singleton.mp hx]; exact h.2.1
  | meet c d => intro x hx; rcases List.mem_cons.mp hx with rfl | hx; exact h.1; rw [List.mem_singleton.mp hx]; exact h.2.1
  | swap c d => intro x hx; rcases List.mem_cons.mp hx with rfl | hx; exact h.1; rw [List.mem_singleton.mp hx]; exact h.2.1
section
variable {P : Program} {w : World} {K : PySem.W.Frag} {mg : Str → Option Value} {base : Heap}
def spIsGate (K : PySem.W.Frag) : Sp := fun vs H Q _ => ∃ (v : V) (n : Nat) (g : G), vs = [v, .int (n : Int)] ∧ GT K H v g ∧ g.ok n ∧ ∀ H', Same H H' → Q (.bl true) H'
theorem scIsGate : FnScope ["gate", "coins", "coin"] ["gate", "coins"] (defScope s_is_gate) := ⟨rfl, rfl, rfl, by decide +kernel, rfl, by decide +kernel, by decide +kernel⟩
theorem ok_isgate (D : Def K mg "is_gate" s_is_gate) (T : Free mg) (PT : PartsAt K mg w "PARTS_gates") : Has P w K mg base 1 "is_gate" ["gate", "coins"] (spIsGate K) := by
  obtain ⟨dp, es, nn, KD, mgP, hP⟩ := PT
  refine has_of D scIsGate (fun vs H Q E h => ?_) (fun _ _ _ _ _ _ us hl => match us, hl with | [_, _], _ => rfl) (fun f cdv A outer s H vs Q E hr h => ?_)
  · obtain ⟨v, n, g, rfl, _⟩ := h
    rfl
  · obtain ⟨v, n, g, rfl, ⟨a, rfl, hA⟩, hok, q⟩ := h
    obtain ⟨u, hu, ru⟩ := hP g
    refine ⟨_, pss_cons (ps_if (PW.pt (pw_or (pt_cmpR op_lt (pe_callB call_len_seq (by rfl) T.len PySem.boot_len (pa_cons (pv 0) pa_nil)) pe_int (nomark _))
        (pw_or (pt_not (pt_val (pe_callB call_isi (by rfl) T.isinstance (by decide +kernel) (pa_cons (pe_ix ix_tup (pv 0) pe_int (fun _ _ => rfl)) (pa_cons (pe_bltn (v := .ty "str") (by rfl) T.str (by decide +kernel) rfl) pa_nil)))))
        (pw_or1 (pt_cmpR op_ne (pe_callB call_len_seq (by rfl) T.len PySem.boot_len (pa_cons (pv 0) pa_nil)) (pe_kget2 KD (pe_glob (v := .ref dp) (by rfl) mgP rfl) (pe_ix ix_tup (pv 0) pe_int (fun _ _ => rfl)) pe_int ⟨rfl, rfl, rfl, rfl⟩) (nomark _))))))
        (pss_one (ps_ret pe_bl)) pss_nil)
      (pss_cons (ps_for PassesOwn.never rfl (pi_tup (pe_slice sl_tup (pv 0) (po_some pe_int) po_none)) (pg_name (i := 2) scIsGate.nd rfl (.inl rfl))
        (pss_one (ps_if (PW.pt (pw_or (pt_not (pt_val (pe_callB call_isi (by rfl) T.isinstance (by decide +kernel) (pa_cons (pv 2) (pa_cons (pe_bltn (v := .ty "int") (by rfl) T.int (by decide +kernel) rfl) pa_nil)))))
          (pw_or (pt_val (pe_callB call_isi (by rfl) T.isinstance (by decide +kernel) (pa_cons (pv 2) (pa_cons (pe_bltn (v := .ty "bool") (by rfl) T.bool (by decide +kernel) rfl) pa_nil))))
          (pw_or (pt_cmpR op_lt (pv 2) pe_int (nomark _)) (pw_or1 (pt_cmpR op_ge (pv 2) (pv 1) (nomark _)))))))
          (pss_one (ps_ret pe_bl)) pss_nil)))
      (pss_one (ps_ret (pe_or (pe_cmpR op_eq (pe_callB call_len_seq (by rfl) T.len PySem.boot_len (pa_cons (pv 0) pa_nil)) pe_int (nomark _)) (pe_one (pe_cmpR op_ne (pe_ix ix_tup (pv 0) pe_int (fun _ _ => rfl)) (pe_ix ix_tup (pv 0) pe_int (fun _ _ => rfl)) (nomark _))))))), ?_⟩
    have hlen : (1 : Nat) < (gtup g).length := by
      rw [gtup_len]
      cases g <;> simp [cs]
    -- the first test
    refine ⟨_, rfl, a, _, rfl, .inr hA, _, _, rfl, rfl, _, rfl, ?_⟩
    refine ifF (decide_eq_false (by omega)) ?_
    refine ⟨_, rfl, a, _, _, _, rfl, rfl, hA, atI_nat (j := 0) rfl, _, _, _, _, true, rfl, .ty _, .base (.str _), kit_ty (by decide +kernel), true, rfl, ifF rfl ?_⟩
    refine ⟨_, rfl, a, _, rfl, .inr hA, rfl, _, rfl, a, _, _, _, rfl, rfl, hA, atI_nat (j := 0) rfl, _, u, _, rfl, hu, ru, rfl, _, rfl, ifF ?_ ?_⟩
    · rw [decide_eq_true rfl]
      rfl
    -- the loop
    have ec : cutV (gtup g) (some 1) none = (cs g).map fun (c : Nat) => V.int (c : Int) := cut1 _
    refine ⟨_, rfl, 1, rfl, a, _, rfl, hA, fun ⟨z, _⟩ => ?_, fun p np => ?_⟩
    · rw [show HT.sIx (gtup g).length 0 (some 1) = min 1 (gtup g).length from HT.sIx_nat _ 0 1] at z
      omega
    rw [ec]
    have hS : Same H (upd H p (.tup ((cs g).map fun (c : Nat) => V.int (c : Int)))) := same_upd np
    refine ⟨p, rfl, ⟨_, SqT.of upd_same⟩, for_tup (K := K) (a := p) (xs := (cs g).map fun (c : Nat) => V.int (c : Int)) (fun i σ H' => ∃ v, σ = [some (.ref a), some (.int (n : Int)), v] ∧ H' = upd H p (.tup ((cs g).map fun (c : Nat) => V.int (c : Int))))
      ⟨_, rfl, rfl⟩ (fun i σ H' _ ⟨_, _, e⟩ => by rw [e]; exact SqT.of upd_same) ?_ ?_⟩
    · rintro i x σ H' hi ⟨v, rfl, rfl⟩
      rw [List.getElem?_map] at hi
      obtain ⟨c, hc, rfl⟩ := Option.map_eq_some_iff.mp hi
      have hcn := cs_lt hok c (List.mem_of_getElem? hc)
      refine ⟨_, rfl, _, _, _, _, true, rfl, .ty _, .base (.int _), kit_ty (by decide +kernel), true, rfl, ifF rfl ?_⟩
      refine ⟨_, rfl, _, _, _, _, false, rfl, .ty _, .base (.int _), kit_ty (by decide +kernel), false, rfl, ifF rfl ?_⟩
      refine ⟨_, rfl, _, _, rfl, rfl, _, rfl, ifF (decide_eq_false (by omega)) ?_⟩
      refine ⟨_, rfl, _, rfl, _, _, rfl, rfl, _, rfl, ifF (decide_eq_false (by omega)) ?_⟩
      exact ⟨_, rfl, rfl⟩
    · rintro σ H' ⟨v, rfl, rfl⟩
      refine ⟨_, rfl, a, _, rfl, .inr (Same.tup hS hA), rfl, _, rfl, ?_⟩
      by_cases h2 : (cs g).length = 1
      · refine ifT (decide_eq_true ?_) (q _ hS)
        rw [gtup_len, h2]
        rfl
      · refine ifF (decide_eq_false ?_) ?_
        · rw [gtup_len]
          intro e
          have e1 := V.int.inj e
          omega
        · obtain ⟨c, d, hcd, hne⟩ : ∃ c d, cs g = [c, d] ∧ c ≠ d := by
            cases g with
            | mix c => exact absurd rfl h2
            | flip c => exact absurd rfl h2
            | sign c => exact absurd rfl h2
            | follow c d => exact ⟨c, d, rfl, hok.2.2⟩
            | meet c d => exact ⟨c, d, rfl, hok.2.2⟩
            | swap c d => exact ⟨c, d, rfl, hok.2.2⟩
          have hg : gtup g = [.str (W g), .int (c : Int), .int (d : Int)] := by
            unfold gtup
            rw [hcd]
            rfl
          have hA2 := Same.tup hS hA
          rw [hg] at hA2
          refine ⟨_, rfl, a, _, _, _, rfl, rfl, hA2, atI_nat (j := 1) rfl, _, rfl, a, _, _, _, rfl, rfl, hA2, atI_nat (j := 2) rfl, rfl, ?_⟩
          have e : (!decide (V.int (c : Int) = V.int (d : Int))) = true := by
            rw [decide_eq_false fun e => hne (by have := V.int.inj e; omega)]
            rfl
          show Q (V.bl (!decide (V.int (c : Int) = V.int (d : Int)))) _
          rw [e]
          exact q _ hS
def spGateOf (K : PySem.W.Frag) : Sp := fun vs H Q _ => ∃ (v : V) (n : Nat) (z : V) (g : G), vs = [v, .int (n : Int), z] ∧ GT K H v g ∧ g.ok n ∧ n ≤ 6 ∧ ∀ H' v', Same H H' → GO K H' v' g → Q v' H'
theorem scGateOf : FnScope ["gate", "coins", "at"] ["gate", "coins", "at"] (defScope s_gate_of) := ⟨rfl, rfl, rfl, by decide +kernel, rfl, by decide +kernel, by decide +kernel⟩
/-- a new instance, its fields set, and nothing else -/
theorem same_made {H H' : Hp} {x dx C : Addr} (nx : H x = none) (nd : H dx = none) (k : ∀ b, b ≠ x → H' b = (upd (upd H dx (.own x)) x (.ins C dx [])) b) : Same H H' := fun b o e => by
  have h1 : b ≠ x := ne_of_none e nx
  rw [k b h1, upd_ne h1, upd_ne (ne_of_none e nd)]
  exact e
theorem ok_gateof (D : Def K mg "gate_of" s_gate_of) (I : Has P w K mg base 1 "is_gate" ["gate", "coins"] (spIsGate K)) (Mmix : HasC P w K mg base 1 "Mix" (Kd.mix.C K) ["self", "first", "second"] (spGInit (Kd.mix.C K)))  (Mflip : HasC P w K mg base 1 "Flip" (Kd.flip.C K) ["self", "first", "second"] (spGInit (Kd.flip.C K)))  (Msign : HasC P w K mg base 1 "Sign" (Kd.sign.C K) ["self", "first", "second"] (spGInit (Kd.sign.C K)))  (Mfollow : HasC P w K mg base 1 "Follow" (Kd.follow.C K) ["self", "first", "second"] (spGInit (Kd.follow.C K)))  (Mmeet : HasC P w K mg base 1 "Meet" (Kd.meet.C K) ["self", "first", "second"] (spGInit (Kd.meet.C K)))  (Mswap : HasC P w K mg base 1 "Swap" (Kd.swap.C K) ["self", "first", "second"] (spGInit (Kd.swap.C K))) : Has P w K mg base 3 "gate_of" ["gate", "coins", "at"] (spGateOf K) := by
  refine has_of D scGateOf (fun vs H Q E h => ?_) (fun _ _ _ _ _ _ us hl => match us, hl with | [_, _, _], _ => rfl) (fun f cdv A outer s H vs Q E hr h => ?_)
  · obtain ⟨v, n, z, g, rfl, _⟩ := h
    rfl
  · obtain ⟨v, n, z, g, rfl, hG, hok, h6, q⟩ := h
    refine ⟨_, pss_cons (ps_if (pt_not (pt_val (pe_h I hr (by decide) (by rfl) (pa_cons (pv 0) (pa_cons (pv 1) pa_nil))))) (pss_one ps_never) pss_nil)
      (pss_cons (ps_if (pt_cmpR op_eq (pe_ix ix_tup (pv 0) pe_int (fun _ _ => rfl)) pe_str (nomark _)) (pss_one (ps_ret (pe_mk Mmix hr (by decide) (by rfl) (pa_cons (pe_ix ix_tup (pv 0) pe_int (fun _ _ => rfl)) (pa_cons (pe_ix ix_tup (pv 0) pe_int (fun _ _ => rfl)) pa_nil))))) pss_nil)
      (pss_cons (ps_if (pt_cmpR op_eq (pe_ix ix_tup (pv 0) pe_int (fun _ _ => rfl)) pe_str (nomark _)) (pss_one (ps_ret (pe_mk Mflip hr (by decide) (by rfl) (pa_cons (pe_ix ix_tup (pv 0) pe_int (fun _ _ => rfl)) (pa_cons (pe_ix ix_tup (pv 0) pe_int (fun _ _ => rfl)) pa_nil))))) pss_nil)
      (pss_cons (ps_if (pt_cmpR op_eq (pe_ix ix_tup (pv 0) pe_int (fun _ _ => rfl)) pe_str (nomark _)) (pss_one (ps_ret (pe_mk Msign hr (by decide) (by rfl) (pa_cons (pe_ix ix_tup (pv 0) pe_int (fun _ _ => rfl)) (pa_cons (pe_ix ix_tup (pv 0) pe_int (fun _ _ => rfl)) pa_nil))))) pss_nil)
      (pss_cons (ps_if (pt_cmpR op_eq (pe_ix ix_tup (pv 0) pe_int (fun _ _ => rfl)) pe_str (nomark _)) (pss_one (ps_ret (pe_mk Mfollow hr (by decide) (by rfl) (pa_cons (pe_ix ix_tup (pv 0) pe_int (fun _ _ => rfl)) (pa_cons (pe_ix ix_tup (pv 0) pe_int (fun _ _ => rfl)) pa_nil))))) pss_nil)
      (pss_cons (ps_if (pt_cmpR op_eq (pe_ix ix_tup (pv 0) pe_int (fun _ _ => rfl)) pe_str (nomark _)) (pss_one (ps_ret (pe_mk Mmeet hr (by decide) (by rfl) (pa_cons (pe_ix ix_tup (pv 0) pe_int (fun _ _ => rfl)) (pa_cons (pe_ix ix_tup (pv 0) pe_int (fun _ _ => rfl)) pa_nil))))) pss_nil)
      (pss_one (ps_ret (pe_mk Mswap hr (by decide) (by rfl) (pa_cons (pe_ix ix_tup (pv 0) pe_int (fun _ _ => rfl)) (pa_cons (pe_ix ix_tup (pv 0) pe_int (fun _ _ => rfl)) pa_nil)))))))))), ?_⟩
    obtain ⟨a, rfl, hA0⟩ := id hG
    refine ⟨_, rfl, _, rfl, _, n, g, rfl, hG, hok, fun H1 s1 => ⟨true, rfl, ifF rfl ?_⟩⟩
    have hA := Same.tup s1 hA0
    clear hA0 hG
    cases g with
    | mix c =>
      have hc : c < n := hok
      refine ⟨_, rfl, a, _, _, _, rfl, rfl, hA, atI_nat (j := 0) rfl, rfl, _, rfl, ifT (show decide (V.str ("mix" : Str) = V.str ("mix" : Str)) = true by decide +kernel) ?_⟩
      refine ⟨_, rfl, a, _, _, _, rfl, rfl, hA, atI_nat (j := 1) rfl, _, rfl, a, _, _, _, rfl, rfl, hA, atI_nat (j := 1) rfl, fun x dx nx ndx nex => ?_⟩
      refine ⟨x, dx, c, c, rfl, upd_same, fun H' hk hx => ⟨rfl, q H' _ (s1.trans (same_made nx ndx hk)) ⟨.mix, c, c, x, dx, rfl, rfl, hx, by omega, by omega⟩⟩⟩
    | flip c =>
      have hc : c < n := hok
      refine ⟨_, rfl, a, _, _, _, rfl, rfl, hA, atI_nat (j := 0) rfl, rfl, _, rfl, ifF (show decide (V.str ("flip" : Str) = V.str ("mix" : Str)) = false by decide +kernel) ?_⟩
      refine ⟨_, rfl, a, _, _, _, rfl, rfl, hA, atI_nat (j := 0) rfl, rfl, _, rfl, ifT (show decide (V.str ("flip" : Str) = V.str ("flip" : Str)) = true by decide +kernel) ?_⟩
      refine ⟨_, rfl, a, _, _, _, rfl, rfl, hA, atI_nat (j := 1) rfl, _, rfl, a, _, _, _, rfl, rfl, hA, atI_nat (j := 1) rfl, fun x dx nx ndx nex => ?_⟩
      refine ⟨x, dx, c, c, rfl, upd_same, fun H' hk hx => ⟨rfl, q H' _ (s1.trans (same_made nx ndx hk)) ⟨.flip, c, c, x, dx, rfl, rfl, hx, by omega, by omega⟩⟩⟩
    | sign c =>
      have hc : c < n := hok
      refine ⟨_, rfl, a, _, _, _, rfl, rfl, hA, atI_nat (j := 0) rfl, rfl, _, rfl, ifF (show decide (V.str ("sign" : Str) = V.str ("mix" : Str)) = false by decide +kernel) ?_⟩
      refine ⟨_, rfl, a, _, _, _, rfl, rfl, hA, atI_nat (j := 0) rfl, rfl, _, rfl, ifF (show decide (V.str ("sign" : Str) = V.str ("flip" : Str)) = false by decide +kernel) ?_⟩
      refine ⟨_, rfl, a, _, _, _, rfl, rfl, hA, atI_nat (j := 0) rfl, rfl, _, rfl, ifT (show decide (V.str ("sign" : Str) = V.str ("sign" : Str)) = true by decide +kernel) ?_⟩
      refine ⟨_, rfl, a, _, _, _, rfl, rfl, hA, atI_nat (j := 1) rfl, _, rfl, a, _, _, _, rfl, rfl, hA, atI_nat (j := 1) rfl, fun x dx nx ndx nex => ?_⟩
      refine ⟨x, dx, c, c, rfl, upd_same, fun H' hk hx => ⟨rfl, q H' _ (s1.trans (same_made nx ndx hk)) ⟨.sign, c, c, x, dx, rfl, rfl, hx, by omega, by omega⟩⟩⟩
    | follow c d =>
      obtain ⟨hc, hd, _⟩ : c < n ∧ d < n ∧ c ≠ d := hok
      refine ⟨_, rfl, a, _, _, _, rfl, rfl, hA, atI_nat (j := 0) rfl, rfl, _, rfl, ifF (show decide (V.str ("follow" : Str) = V.str ("mix" : Str)) = false by decide +kernel) ?_⟩
      refine ⟨_, rfl, a, _, _, _, rfl, rfl, hA, atI_nat (j := 0) rfl, rfl, _, rfl, ifF (show decide (V.str ("follow" : Str) = V.str ("flip" : Str)) = false by decide +kernel) ?_⟩
      refine ⟨_, rfl, a, _, _, _, rfl, rfl, hA, atI_nat (j := 0) rfl, rfl, _, rfl, ifF (show decide (V.str ("follow" : Str) = V.str ("sign" : Str)) = false by decide +kernel) ?_⟩
      refine ⟨_, rfl, a, _, _, _, rfl, rfl, hA, atI_nat (j := 0) rfl, rfl, _, rfl, ifT (show decide (V.str ("follow" : Str) = V.str ("follow" : Str)) = true by decide +kernel) ?_⟩
      refine ⟨_, rfl, a, _, _, _, rfl, rfl, hA, atI_nat (j := 1) rfl, _, rfl, a, _, _, _, rfl, rfl, hA, atI_nat (j := 2) rfl, fun x dx nx ndx nex => ?_⟩
      refine ⟨x, dx, c, d, rfl, upd_same, fun H' hk hx => ⟨rfl, q H' _ (s1.trans (same_made nx ndx hk)) ⟨.follow, c, d, x, dx, rfl, rfl, hx, by omega, by omega⟩⟩⟩
    | meet c d =>
      obtain ⟨hc, hd, _⟩ : c < n ∧ d < n ∧ c ≠ d := hok
      refine ⟨_, rfl, a, _, _, _, rfl, rfl, hA, atI_nat (j := 0) rfl, rfl, _, rfl, ifF (show decide (V.str ("meet" : Str) = V.str ("mix" : Str)) = false by decide +kernel) ?_⟩
      refine ⟨_, rfl, a, _, _, _, rfl, rfl, hA, atI_nat (j := 0) rfl, rfl, _, rfl, ifF (show decide (V.str ("meet" : Str) = V.str ("flip" : Str)) = false by decide +kernel) ?_⟩
      refine ⟨_, rfl, a, _, _, _, rfl, rfl, hA, atI_nat (j := 0) rfl, rfl, _, rfl, ifF (show decide (V.str ("meet" : Str) = V.str ("sign" : Str)) = false by decide +kernel) ?_⟩
      refine ⟨_, rfl, a, _, _, _, rfl, rfl, hA, atI_nat (j := 0) rfl, rfl, _, rfl, ifF (show decide (V.str ("meet" : Str) = V.str ("follow" : Str)) = false by decide +kernel) ?_⟩
      refine ⟨_, rfl, a, _, _, _, rfl, rfl, hA, atI_nat (j := 0) rfl, rfl, _, rfl, ifT (show decide (V.str ("meet" : Str) = V.str ("meet" : Str)) = true by decide +kernel) ?_⟩
      refine ⟨_, rfl, a, _, _, _, rfl, rfl, hA, atI_nat (j := 1) rfl, _, rfl, a, _, _, _, rfl, rfl, hA, atI_nat (j := 2) rfl, fun x dx nx ndx nex => ?_⟩
      refine ⟨x, dx, c, d, rfl, upd_same, fun H' hk hx => ⟨rfl, q H' _ (s1.trans (same_made nx ndx hk)) ⟨.meet, c, d, x, dx, rfl, rfl, hx, by omega, by omega⟩⟩⟩
    | swap c d =>
      obtain ⟨hc, hd, _⟩ : c < n ∧ d < n ∧ c ≠ d := hok
      refine ⟨_, rfl, a, _, _, _, rfl, rfl, hA, atI_nat (j := 0) rfl, rfl, _, rfl, ifF (show decide (V.str ("swap" : Str) = V.str ("mix" : Str)) = false by decide +kernel) ?_⟩
      refine ⟨_, rfl, a, _, _, _, rfl, rfl, hA, atI_nat (j := 0) rfl, rfl, _, rfl, ifF (show decide (V.str ("swap" : Str) = V.str ("flip" : Str)) = false by decide +kernel) ?_⟩
      refine ⟨_, rfl, a, _, _, _, rfl, rfl, hA, atI_nat (j := 0) rfl, rfl, _, rfl, ifF (show decide (V.str ("swap" : Str) = V.str ("sign" : Str)) = false by decide +kernel) ?_⟩
      refine ⟨_, rfl, a, _, _, _, rfl, rfl, hA, atI_nat (j := 0) rfl, rfl, _, rfl, ifF (show decide (V.str ("swap" : Str) = V.str ("follow" : Str)) = false by decide +kernel) ?_⟩
      refine ⟨_, rfl, a, _, _, _, rfl, rfl, hA, atI_nat (j := 0) rfl, rfl, _, rfl, ifF (show decide (V.str ("swap" : Str) = V.str ("meet" : Str)) = false by decide +kernel) ?_⟩
      refine ⟨_, rfl, a, _, _, _, rfl, rfl, hA, atI_nat (j := 1) rfl, _, rfl, a, _, _, _, rfl, rfl, hA, atI_nat (j := 2) rfl, fun x dx nx ndx nex => ?_⟩
      refine ⟨x, dx, c, d, rfl, upd_same, fun H' hk hx => ⟨rfl, q H' _ (s1.trans (same_made nx ndx hk)) ⟨.swap, c, d, x, dx, rfl, rfl, hx, by omega, by omega⟩⟩⟩
def spGatesFrom (K : PySem.W.Frag) : Sp := fun vs H Q _ => ∃ (a : Addr) (n : Nat) (gs : List G), vs = [.ref a, .int (n : Int)] ∧ GTs K H a gs ∧ okAll n gs ∧ n ≤ 6 ∧ gs.length ≤ 200 ∧ ∀ H' p, Same H H' → GOs K H' p gs → Q (.ref p) H'
theorem scGatesFrom : FnScope ["gates", "coins", "at", "gate"] ["gates", "coins"] (defScope s_gates_from) := ⟨rfl, rfl, rfl, by decide +kernel, rfl, by decide +kernel, by decide +kernel⟩
theorem ok_gatesfrom (D : Def K mg "gates_from" s_gates_from) (T : Free mg) (GOF : Has P w K mg base 3 "gate_of" ["gate", "coins", "at"] (spGateOf K)) : Has P w K mg base 4 "gates_from" ["gates", "coins"] (spGatesFrom K) := by
  refine has_of D scGatesFrom (fun vs H Q E h => ?_) (fun _ _ _ _ _ _ us hl => match us, hl with | [_, _], _ => rfl) (fun f cdv A outer s H vs Q E hr h => ?_)
  · obtain ⟨a, n, gs, rfl, _⟩ := h
    rfl
  · obtain ⟨a, n, gs, rfl, ⟨vs, hL, hR⟩, hok, h6, h200, q⟩ := h
    refine ⟨_, pss_one (ps_ret (pe_lc (own := [("at", 2), ("gate", 3)]) (g := gTup K 2 (gCons (gName 2) (gCons (gName 3) gNil))) (tt := tYes) rfl scGatesFrom.nd (pi_enum (by rfl) T.enumerate (pa_cons (pv 0) pa_nil))
      (blkOk_by (own := [("at", 2), ("gate", 3)]) (N := ["gates", "coins", "at", "gate"]) (sc := defScope s_gates_from) (by decide +kernel))
      (fun _ _ _ _ _ => pg_pair (i := 2) (j := 3) rfl scGatesFrom.nd rfl rfl (Or.inl rfl) (Or.inl rfl))
      (fun _ _ _ _ _ => pts_nil) (fun _ _ _ _ _ => by exact pe_h GOF hr (by decide) (by rfl) (pa_cons (pv 3) (pa_cons (pv 1) (pa_cons (pv 2) pa_nil)))))), ?_⟩
    refine ⟨_, rfl, a, vs, rfl, SqL.of hL, fun Dd nD => lc_enum (K := K) (a := a) (xs := vs) (fun i H' => Same H H' ∧ ∃ us, H' Dd = some (.lst us) ∧ Reps (GO K H') us (gs.take i))
      ⟨same_upd nD, [], upd_same, Reps.nil⟩ (fun i H' _ ⟨s1, _⟩ => s1.seq (SqL.of hL)) ?_ ?_⟩
    · rintro i x H' Tp hi ⟨s1, us, hD, hU⟩ nT
      have nTD : Dd ≠ Tp := ne_of_none hD nT
      obtain ⟨g, hg, hx⟩ := hR.get hi
      have s2 : Same H' (upd H' Tp (.tup [.int (i : Nat), x])) := same_upd nT
      refine ⟨Tp, _, rfl, SqT.of upd_same, rfl, _, _, rfl, _, _, rfl, rfl, rfl, ?_⟩
      refine ⟨_, rfl, _, rfl, _, rfl, _, n, _, g, rfl, GT.mono (s1.trans s2) hx, hok g (List.mem_of_getElem? hg), h6, fun H2 v' s3 hv => ?_⟩
      have hD2 : H2 Dd = some (.lst us) := s3 _ _ (by rw [upd_ne nTD]; exact hD)
      have lt : us.length < sizeLine := small1000 (by
        rw [hU.len, List.length_take]
        omega)
      have s4 : Same H' H2 := s2.trans s3
      refine ⟨us, hD2, lt, same_at nD (s1.trans s4), us ++ [v'], upd_same, ?_⟩
      rw [take_snoc hg]
      exact (hU.mono fun v x r => GO.upd hD2 (GO.mono s4 r)).snoc (GO.upd hD2 hv)
    · rintro H' ⟨s1, us, hD, hU⟩
      rw [hR.len, List.take_length] at hU
      exact q H' Dd s1 ⟨us, hD, hU⟩
end
end TC
set_option Elab.async false
set_option linter.all false
set_option maxRecDepth 100000
set_option maxHeartbeats 4000000
/-! Turncoins: first_images, images, start_beside. -/
namespace TC
open PySem PySem.Spec PyProof.Rows L2
def firsts (n : Nat) : List Row := (List.range (2 * n)).map (first n)
theorem firsts_eq (n : Nat) : firsts n = (List.range n).map (fun c => (⟨1, 2 ^ c, 0⟩ : Row)) ++ (List.range n).map (fun c => (⟨1, 0, 2 ^ c⟩ : Row)) := by
  unfold firsts
  rw [show 2 * n = n + n by omega, List.range_add, List.map_append, List.map_map]
  congr 1
  · apply List.map_congr_left
    intro c hc
    unfold first
    rw [if_pos (List.mem_range.mp hc)]
  · apply List.map_congr_left
    intro c hc
    show first n (n + c) = _
    unfold first
    rw [if_neg (by omega), Nat.add_sub_cancel_left]
section
variable {P : Program} {w : World} {K : PySem.W.Frag} {mg : Str → Option Value} {base : Heap}
def spFirsts (K : PySem.W.Frag) : Sp := fun vs H Q _ => ∃ (n : Nat), vs = [.int (n : Int)] ∧ n ≤ 6 ∧ ∀ H' p, Same H H' → Rows K H' p (firsts n) → Q (.ref p) H'
theorem scFirsts : FnScope ["coins", "coin"] ["coins"] (defScope s_first_images) := ⟨rfl, rfl, rfl, by decide +kernel, rfl, by decide +kernel, by decide +kernel⟩
theorem ok_firsts (D : Def K mg "first_images" s_first_images) (T : Free mg) : Has P w K mg base 1 "first_images" ["coins"] (spFirsts K) := by
  refine has_of D scFirsts (fun vs H Q E h => ?_) (fun _ _ _ _ _ _ us hl => match us, hl with | [_], _ => rfl) (fun f cdv A outer s H vs Q E hr h => ?_)
  · obtain ⟨n, rfl, _⟩ := h
    rfl
  · obtain ⟨n, rfl, h6, q⟩ := h
    refine ⟨_, pss_one (ps_ret (pe_op op_cat
      (pe_lc (own := [("coin", 1)]) (g := gName 1) (tt := tYes) rfl scFirsts.nd (pi_range1 (by rfl) T.range (pa_cons (pv 0) pa_nil))
        (blkOk_by (own := [("coin", 1)]) (N := ["coins", "coin"]) (sc := defScope s_first_images) (by decide +kernel)) (fun _ _ _ _ _ => pg_name (i := 1) scFirsts.nd rfl (Or.inl rfl)) (fun _ _ _ _ _ => pts_nil)
        (fun _ _ _ _ _ => pe_tup (pa_cons pe_int (pa_cons (pe_op op_shl1 pe_int (pv 1)) (pa_cons pe_int pa_nil)))))
      (pe_lc (own := [("coin", 1)]) (g := gName 1) (tt := tYes) rfl scFirsts.nd (pi_range1 (by rfl) T.range (pa_cons (pv 0) pa_nil))
        (blkOk_by (own := [("coin", 1)]) (N := ["coins", "coin"]) (sc := defScope s_first_images) (by decide +kernel)) (fun _ _ _ _ _ => pg_name (i := 1) scFirsts.nd rfl (Or.inl rfl)) (fun _ _ _ _ _ => pts_nil)
        (fun _ _ _ _ _ => pe_tup (pa_cons pe_int (pa_cons pe_int (pa_cons (pe_op op_shl1 pe_int (pv 1)) pa_nil))))))), ?_⟩
    refine ⟨_, rfl, (n : Int), rfl, by omega, by omega, fun D1 n1 => lc_range (lo := 0) (n := n) (fun i H' => Same H H' ∧ ∃ us, H' D1 = some (.lst us) ∧ Reps (RowAt K H') us ((List.range i).map fun c => (⟨1, 2 ^ c, 0⟩ : Row)))
      ⟨same_upd n1, [], upd_same, Reps.nil⟩ ?_ ?_⟩
    · rintro i H' hi ⟨s1, us, hD, hU⟩
      refine ⟨rfl, ?_⟩
      refine ⟨_, rfl, i, rfl, congrArg V.int (Int.zero_add _), by omega, (by show 3 ≤ sizeLine; decide), fun p np => ?_⟩
      have s2 : Same H' (upd H' p (.tup [.int 1, .int ((2 ^ i : Nat) : Int), .int 0])) := same_upd np
      have hD2 := s2 _ _ hD
      refine ⟨us, hD2, small1000 (by rw [hU.len, List.length_map, List.length_range]; omega), same_at n1 (s1.trans s2), us ++ [.ref p], upd_same, ?_⟩
      rw [List.range_succ, List.map_append]
      exact (hU.mono fun v x r => RowAt.upd hD2 (RowAt.mono s2 r)).snoc (RowAt.upd hD2 ⟨p, rfl, SqT.of upd_same⟩)
    · rintro H1 ⟨s1, us, hD, hU⟩
      refine ⟨_, rfl, (n : Int), rfl, by omega, by omega, fun D2 n2 => lc_range (lo := 0) (n := n) (fun i H' => Same H1 H' ∧ ∃ ws, H' D2 = some (.lst ws) ∧ Reps (RowAt K H') ws ((List.range i).map fun c => (⟨1, 0, 2 ^ c⟩ : Row)))
        ⟨same_upd n2, [], upd_same, Reps.nil⟩ ?_ ?_⟩
      · rintro i H' hi ⟨s2, ws, hD2, hW⟩
        refine ⟨rfl, ?_⟩
        refine ⟨_, rfl, i, rfl, congrArg V.int (Int.zero_add _), by omega, (by show 3 ≤ sizeLine; decide), fun p np => ?_⟩
        have s3 : Same H' (upd H' p (.tup [.int 1, .int 0, .int ((2 ^ i : Nat) : Int)])) := same_upd np
        have hD3 := s3 _ _ hD2
        refine ⟨ws, hD3, small1000 (by rw [hW.len, List.length_map, List.length_range]; omega), same_at n2 (s2.trans s3), ws ++ [.ref p], upd_same, ?_⟩
        rw [List.range_succ, List.map_append]
        exact (hW.mono fun v x r => RowAt.upd hD3 (RowAt.mono s3 r)).snoc (RowAt.upd hD3 ⟨p, rfl, SqT.of upd_same⟩)
      · rintro H2 ⟨s2, ws, hD2, hW⟩
        refine ⟨D1, D2, us, ws, rfl, rfl, s2 _ _ hD, hD2, ?_, fun p np => ?_⟩
        · rw [hU.len, hW.len, List.length_map, List.length_map, List.length_range]
          exact Nat.le_of_lt (small1000 (by omega))
        · have s3 : Same H2 (upd H2 p (.lst (us ++ ws))) := same_upd np
          refine q _ p ((s1.trans s2).trans s3) ⟨_, upd_same, ?_⟩
          rw [firsts_eq]
          exact (hU.mono fun v x r => RowAt.mono (s2.trans s3) r).app (hW.mono fun v x r => RowAt.mono s3 r)
/-- every gate's object moves rows -/
abbrev Disp (P : Program) (w : World) (K : PySem.W.Frag) (mg : Str → Option Value) (base : Heap) (k : Nat) : Prop := ∀ kd : Kd, HasM P w K mg base k (kd.C K) "on_row" ["self", "row"] (spOnRow K kd)
theorem Has.le {k j : Nat} {x : Str} {ps : List Str} {sp : Sp} (h : Has P w K mg base k x ps sp) (hk : k ≤ j) : Has P w K mg base j x ps sp := by
  obtain ⟨f, fd, F, g, kp, b⟩ := h
  exact ⟨f, fd, F.mono hk, g, kp, b⟩
theorem HasM.le {k j : Nat} {C : Addr} {m : Str} {ps : List Str} {sp : Sp} (h : HasM P w K mg base k C m ps sp) (hk : k ≤ j) : HasM P w K mg base j C m ps sp := by
  obtain ⟨f, fd, c, me, F, b⟩ := h
  exact ⟨f, fd, c, me, F.mono hk, b⟩
def spImages (K : PySem.W.Frag) : Sp := fun vs H Q _ => ∃ (n : Nat) (a : Addr) (gs : List G), vs = [.int (n : Int), .ref a] ∧ GTs K H a gs ∧ okAll n gs ∧ n ≤ 6 ∧ gs.length ≤ 200 ∧ ∀ H' p, Same H H' → Rows K H' p ((firsts n).map (goRow gs)) → Q (.ref p) H'
theorem first_mem_ok {n : Nat} {r : Row} (h : r ∈ firsts n) : r.ok n := by
  obtain ⟨k, hk, rfl⟩ := List.mem_map.mp h
  exact first_ok (List.mem_range.mp hk)
theorem scImages : FnScope ["coins", "gates", "rows", "gate", "row"] ["coins", "gates"] (defScope s_images) := ⟨rfl, rfl, rfl, by decide +kernel, rfl, by decide +kernel, by decide +kernel⟩
theorem ok_images (D : Def K mg "images" s_images) (FI : Has P w K mg base 1 "first_images" ["coins"] (spFirsts K)) (GF : Has P w K mg base 4 "gates_from" ["gates", "coins"] (spGatesFrom K)) (DI : Disp P w K mg base 3) : Has P w K mg base 5 "images" ["coins", "gates"] (spImages K) := by
  refine has_of D scImages (fun vs H Q E h => ?_) (fun _ _ _ _ _ _ us hl => match us, hl with | [_, _], _ => rfl) (fun f cdv A outer s H vs Q E hr h => ?_)
  · obtain ⟨n, a, gs, rfl, _⟩ := h
    rfl
  · obtain ⟨n, a, gs, rfl, hG, hok, h6, h200, q⟩ := h
    refine ⟨_, pss_cons (ps_set (i := 2) scImages.nd rfl (.inl rfl) (pe_h FI hr (by decide) (by rfl) (pa_cons (pv 0) pa_nil)))
      (pss_cons (ps_for PassesOwn.never rfl (pi_list (pe_h GF hr (by decide) (by rfl) (pa_cons (pv 1) (pa_cons (pv 0) pa_nil)))) (pg_name (i := 3) scImages.nd rfl (.inr rfl))
        (pss_one (ps_setLc (i := 2) (own := [("row", 4)]) (g := gName 4) (tt := tYes) rfl scImages.nd rfl rfl (sw_true rfl rfl rfl (by decide +kernel)) (pi_list (pv 2))
          (blkOk_by (own := [("row", 4)]) (N := ["coins", "gates", "rows", "gate", "row"]) (sc := defScope s_images) (by decide +kernel)) (fun _ _ _ _ _ => pg_name (i := 4) scImages.nd rfl (Or.inl rfl)) (fun _ _ _ _ _ => pts_nil)
          (fun _ _ _ _ _ => pe_any fun kd => pe_mt (DI kd) hr (by decide) (pv 3) (pa_cons (pv 4) pa_nil)))))
      (pss_one (ps_ret (pv 2)))), ?_⟩
    refine ⟨_, rfl, n, rfl, h6, fun H1 p1 s1 hR1 => ?_⟩
    refine ⟨_, rfl, _, rfl, a, n, gs, rfl, LsAt.mono GT.mono s1 hG, hok, h6, h200, fun H2 b s2 ⟨ws, hb, hW⟩ => ?_⟩
    refine ⟨b, rfl, ⟨_, SqL.of hb⟩, for_list (K := K) (a := b) (xs := ws) (fun i σ H' => ∃ p v, σ = [some (.int (n : Int)), some (.ref a), some (.ref p), v, none] ∧ Same H2 H' ∧ Rows K H' p ((firsts n).map (goRow (gs.take i))))
      ⟨p1, none, rfl, Same.refl _, ?_⟩ (fun i σ H' _ ⟨_, _, _, s3, _⟩ => s3.seq (SqL.of hb)) ?_ ?_⟩
    · have e : (firsts n).map (goRow (gs.take 0)) = firsts n := by
        rw [List.take_zero]
        exact List.map_id _
      rw [e]
      exact LsAt.mono RowAt.mono s2 hR1
    · rintro i x σ H' hi ⟨p, v, rfl, s3, rs, hp, hR⟩
      obtain ⟨g, hg, hx⟩ := hW.get hi
      have hgo := hok g (List.mem_of_getElem? hg)
      refine ⟨_, rfl, p, rfl, ⟨_, SqL.of hp⟩, fun Dd nD => lc_list (K := K) (a := p) (xs := rs) (fun j H'' => Same H' H'' ∧ ∃ us, H'' Dd = some (.lst us) ∧ Reps (RowAt K H'') us (((firsts n).map (goRow (gs.take (i + 1)))).take j))
        ⟨same_upd nD, [], upd_same, Reps.nil⟩ (fun j H'' _ ⟨s4, _⟩ => s4.seq (SqL.of hp)) ?_ ?_⟩
      · rintro j y H'' hj ⟨s4, us, hD, hU⟩
        obtain ⟨r, hr', hy⟩ := hR.get hj
        have hro : r.ok n := by
          obtain ⟨z, hz, rfl⟩ := List.mem_map.mp (List.mem_of_getElem? hr')
          exact goRow_ok (fun g' m => hok g' (List.mem_of_mem_take m)) (first_mem_ok hz)
        have hnext : ((firsts n).map (goRow (gs.take (i + 1))))[j]? = some (onRow g r) := by
          rw [List.getElem?_map] at hr' ⊢
          obtain ⟨z, hz, rfl⟩ := Option.map_eq_some_iff.mp hr'
          rw [hz, take_snoc hg]
          show some (goRow (gs.take i ++ [g]) z) = _
          rw [goRow_app]
          rfl
        obtain ⟨kd, c, d, o, dx, rfl, rfl, ho, hc, hd⟩ := GO.mono (s3.trans s4) hx
        refine ⟨rfl, ?_⟩
        refine ⟨kd, _, rfl, o, dx, _, rfl, ho, gfs_no _ _ (by decide +kernel) (by decide +kernel), _, rfl, o, dx, c, d, y, r, rfl, ho, RowAt.mono s4 hy, hro.s, hc, hd, fun H3 v' s5 hv => ?_⟩
        have hD2 := s5 _ _ hD
        refine ⟨us, hD2, small1000 (by rw [hU.len, List.length_take, List.length_map]; unfold firsts; rw [List.length_map, List.length_range]; omega), same_at nD (s4.trans s5), us ++ [v'], upd_same, ?_⟩
        rw [take_snoc hnext]
        exact (hU.mono fun v x r => RowAt.upd hD2 (RowAt.mono s5 r)).snoc (RowAt.upd hD2 hv)
      · rintro H'' ⟨s4, us, hD, hU⟩
        refine ⟨Dd, _, rfl, s3.trans s4, us, hD, ?_⟩
        have e : ((firsts n).map (goRow (gs.take (i + 1)))).take rs.length = (firsts n).map (goRow (gs.take (i + 1))) := List.take_of_length_le (by
          rw [hR.len, List.length_map, List.length_map]
          exact Nat.le_refl _)
        rw [e] at hU
        exact hU
    · rintro σ H' ⟨p, v, rfl, s3, hR⟩
      rw [hW.len, List.take_length] at hR
      exact ⟨_, rfl, q H' p ((s1.trans s2).trans s3) hR⟩
def spBeside (K : PySem.W.Frag) : Sp := fun vs H Q _ => ∃ (n c : Nat) (own : Bool) (v : V) (r : Row), vs = [.int (n : Int), .int (c : Int), .str (tx [own]), v] ∧ RowAt K H v r ∧ n ≤ 6 ∧ Q (.str (tx (beside n c own r))) H
theorem scBeside : FnScope ["coins", "coin", "own", "row", "found", "other"] ["coins", "coin", "own", "row"] (defScope s_start_beside) := ⟨rfl, rfl, rfl, by decide +kernel, rfl, by decide +kernel, by decide +kernel⟩
theorem bi_eq0 (b : Bool) : decide (V.int (bi b) = V.int 0) = !b := by cases b <;> decide
theorem bi_eq1 (b : Bool) : decide (V.int (bi b) = V.int 1) = b := by cases b <;> decide
theorem ok_beside (D : Def K mg "start_beside" s_start_beside) (T : Free mg) (B : Has P w K mg base 1 "bit_of" ["number", "coin"] spBit) : Has P w K mg base 2 "start_beside" ["coins", "coin", "own", "row"] (spBeside K) := by
  refine has_of D scBeside (fun vs H Q E h => ?_) (fun _ _ _ _ _ _ us hl => match us, hl with | [_, _, _, _], _ => rfl) (fun f cdv A outer s H vs Q E hr h => ?_)
  · obtain ⟨n, c, own, v, r, rfl, _⟩ := h
    rfl
  · obtain ⟨n, c, own, v, r, rfl, ⟨a, rfl, hR⟩, h6, q⟩ := h
    refine ⟨_, pss_cons (ps_set (i := 4) scBeside.nd rfl (.inl rfl) pe_str)
      (pss_cons (ps_for PassesOwn.never rfl (pi_range1 (by rfl) T.range (pa_cons (pv 0) pa_nil)) (pg_name (i := 5) scBeside.nd rfl (.inl rfl))
        (pss_one (ps_if (pt_cmpR op_eq (pv 5) (pv 1) (nomark _)) (pss_one (ps_set (i := 4) scBeside.nd rfl (.inl rfl) (pe_op op_catS (pv 4) (pv 2))))
          (pss_one (ps_if (PW.pt (pw_and (pt_cmpR op_eq (pe_h B hr (by decide) (by rfl) (pa_cons (pe_ix ix_tup (pv 3) pe_int (fun _ _ => rfl)) (pa_cons (pv 5) pa_nil))) pe_int (nomark _))
              (pw_and1 (pt_cmpR op_eq (pe_h B hr (by decide) (by rfl) (pa_cons (pe_ix ix_tup (pv 3) pe_int (fun _ _ => rfl)) (pa_cons (pv 5) pa_nil))) pe_int (nomark _)))))
            (pss_one (ps_set (i := 4) scBeside.nd rfl (.inl rfl) (pe_op op_catS (pv 4) pe_str))) (pss_one (ps_set (i := 4) scBeside.nd rfl (.inl rfl) (pe_op op_catS (pv 4) pe_str))))))))
      (pss_one (ps_ret (pv 4)))), ?_⟩
    refine ⟨_, rfl, (n : Int), rfl, by omega, by omega, for_range (lo := 0) (n := n) (fun i σ H' => ∃ v, σ = [some (.int (n : Int)), some (.int (c : Int)), some (.str (tx [own])), some (.ref a), some (.str (tx ((List.range i).map fun o => if o = c then own else (!r.x.testBit o && r.z.testBit o)))), v] ∧ H' = H)
      ⟨none, by rw [s_empty]; rfl, rfl⟩ ?_ ?_⟩
    · rintro i σ H' hi ⟨v, rfl, rfl⟩
      have next : ∀ b : Bool, (if i = c then own else (!r.x.testBit i && r.z.testBit i)) = b →
          tx ((List.range (i + 1)).map fun o => if o = c then own else (!r.x.testBit o && r.z.testBit o)) = SX.S ((((List.range i).map fun o => if o = c then own else (!r.x.testBit o && r.z.testBit o)).map fun b => if b then 43 else 48) ++ [if b then 43 else 48]) := by
        intro b hb
        unfold tx
        rw [List.range_succ, List.map_append, List.map_append, List.map_singleton, List.map_singleton, hb]
      have hz : (((List.range i).map fun o => if o = c then own else (!r.x.testBit o && r.z.testBit o)).map fun b => if b then 43 else 48).length + 1 ≤ sizeLine := by
        rw [List.length_map, List.length_map, List.length_range]
        exact Nat.le_of_lt (small1000 (by omega))
      refine ⟨_, rfl, _, rfl, rfl, _, rfl, ?_⟩
      by_cases hc : i = c
      · refine ifT (decide_eq_true (by rw [Int.zero_add, hc])) ?_
        refine ⟨_, rfl, _, rfl, _, [if own then 43 else 48], rfl, rfl, hz, some (V.int (0 + (i : Int))), ?_, rfl⟩
        rw [next own (if_pos hc)]
        rfl
      · refine ifF (decide_eq_false (fun e => hc (by have := V.int.inj e; omega))) ?_
        refine ⟨_, rfl, a, _, _, _, rfl, rfl, hR, atI_nat (j := 1) rfl, _, rfl, r.x, i, (by rw [Int.zero_add]; rfl), rfl, _, rfl, ?_⟩
        rw [bi_eq0]
        have low : (!r.x.testBit i && r.z.testBit i) = false → (∃ v, [some (V.int (n : Int)), some (V.int (c : Int)), some (V.str (tx [own])), some (V.ref a), some (V.str (SX.S ((((List.range i).map fun o => if o = c then own else (!r.x.testBit o && r.z.testBit o)).map fun b => if b then 43 else 48) ++ [48]))), some (V.int (0 + (i : Int)))] = [some (V.int (n : Int)), some (V.int (c : Int)), some (V.str (tx [own])), some (V.ref a), some (V.str (tx ((List.range (i + 1)).map fun o => if o = c then own else (!r.x.testBit o && r.z.testBit o)))), v] ∧ H' = H') := by
          intro e
          refine ⟨some (V.int (0 + (i : Int))), ?_, rfl⟩
          rw [next false ((if_neg hc).trans e)]
          rfl
        cases hx : r.x.testBit i
        · refine ifT rfl ?_
          refine ⟨_, rfl, a, _, _, _, rfl, rfl, hR, atI_nat (j := 2) rfl, _, rfl, r.z, i, (by rw [Int.zero_add]; rfl), rfl, _, rfl, ?_⟩
          rw [bi_eq1]
          cases hzb : r.z.testBit i
          · refine ifF rfl ?_
            refine ⟨_, rfl, _, [48], rfl, congrArg V.str s_nought, hz, ?_⟩
            exact low (by rw [hx, hzb]; rfl)
          · refine ifT rfl ?_
            refine ⟨_, rfl, _, [43], rfl, congrArg V.str s_plus, hz, some (V.int (0 + (i : Int))), ?_, rfl⟩
            rw [next true ((if_neg hc).trans (by rw [hx, hzb]; rfl))]
            rfl
        · refine ifF rfl ?_
          refine ifF rfl ?_
          refine ⟨_, rfl, _, [48], rfl, congrArg V.str s_nought, hz, ?_⟩
          exact low (by rw [hx]; rfl)
    · rintro σ H' ⟨v, rfl, rfl⟩
      exact ⟨_, rfl, q⟩
end
end TC
set_option Elab.async false
set_option linter.all false
set_option maxRecDepth 100000
set_option maxHeartbeats 4000000
/-! Turncoins: parting. -/
namespace TC
open PySem PySem.Spec PyProof.Rows L2
theorem parting_found {n k : Nat} {one other : List G} (hk : k < 2 * n) (h0 : ∀ j, j < k → parts n one other j = false) (h1 : parts n one other k = true) : parting n one other = some (partAt n one other k) := by
  unfold parting
  have e : (List.range (2 * n)).find? (parts n one other) = some k := by
    rw [List.find?_range_eq_some]
    exact ⟨h1, List.mem_range.mpr hk, fun j hj => by rw [h0 j hj]; rfl⟩
  rw [e]
  rfl
theorem parting_not {n : Nat} {one other : List G} (h0 : ∀ j, j < 2 * n → parts n one other j = false) : parting n one other = none := by
  unfold parting
  have e : (List.range (2 * n)).find? (parts n one other) = none := List.find?_eq_none.mpr fun j hj => by
    rw [h0 j (List.mem_range.mp hj)]
    exact Bool.false_ne_true
  rw [e]
  rfl
def pans : Option (List Bool) → V
  | none => .non
  | some bs => .str (tx bs)
section
variable {P : Program} {w : World} {K : PySem.W.Frag} {mg : Str → Option Value} {base : Heap}
def spParting (K : PySem.W.Frag) : Sp := fun vs H Q _ => ∃ (n : Nat) (a b : Addr) (one other : List G), vs = [.int (n : Int), .ref a, .ref b] ∧ GTs K H a one ∧ GTs K H b other ∧ okAll n one ∧ okAll n other ∧ n ≤ 6 ∧ one.length ≤ 200 ∧ other.length ≤ 200 ∧
  ∀ H', Same H H' → Q (pans (parting n one other)) H'
theorem scParting : FnScope ["coins", "one", "other", "here", "back", "number", "first", "row", "gate"] ["coins", "one", "other"] (defScope s_parting) := ⟨rfl, rfl, rfl, by decide +kernel, rfl, by decide +kernel, by decide +kernel⟩
theorem ok_parting (D : Def K mg "parting" s_parting) (T : Free mg) (FI : Has P w K mg base 1 "first_images" ["coins"] (spFirsts K)) (GF : Has P w K mg base 4 "gates_from" ["gates", "coins"] (spGatesFrom K)) (DI : Disp P w K mg base 3)
    (IM : Has P w K mg base 5 "images" ["coins", "gates"] (spImages K)) (BE : Has P w K mg base 2 "start_beside" ["coins", "coin", "own", "row"] (spBeside K)) : Has P w K mg base 6 "parting" ["coins", "one", "other"] (spParting K) := by
  refine has_of D scParting (fun vs H Q E h => ?_) (fun _ _ _ _ _ _ us hl => match us, hl with | [_, _, _], _ => rfl) (fun f cdv A outer s H vs Q E hr h => ?_)
  · obtain ⟨n, a, b, one, other, rfl, _⟩ := h
    rfl
  · obtain ⟨n, a, b, one, other, rfl, hG1, hG2, hok1, hok2, h6, hl1, hl2, q⟩ := h
    refine ⟨_, pss_cons (ps_set (i := 3) scParting.nd rfl (.inl rfl) (pe_h IM hr (by decide) (by rfl) (pa_cons (pv 0) (pa_cons (pv 1) pa_nil))))
      (pss_cons (ps_set (i := 4) scParting.nd rfl (.inl rfl) (pe_revL (pe_h GF hr (by decide) (by rfl) (pa_cons (pv 2) (pa_cons (pv 0) pa_nil)))))
      (pss_cons (ps_for PassesOwn.never rfl (pi_enum (by rfl) T.enumerate (pa_cons (pe_h FI hr (by decide) (by rfl) (pa_cons (pv 0) pa_nil)) pa_nil)) (pg_pair (i := 5) (j := 6) rfl scParting.nd rfl rfl (Or.inl rfl) (Or.inl rfl))
        (pss_cons (ps_set (i := 7) scParting.nd rfl (.inl rfl) (pe_ix ix_list (pv 3) (pv 5) (fun _ _ => rfl)))
        (pss_cons (ps_for PassesOwn.never rfl (pi_list (pv 4)) (pg_name (i := 8) scParting.nd rfl (.inl rfl)) (pss_one (ps_set (i := 7) scParting.nd rfl (.inl rfl) (pe_any fun kd => pe_mt (DI kd) hr (by decide) (pv 8) (pa_cons (pv 7) pa_nil)))))
        (pss_one (ps_if (pt_cmpR (op_neD hr.units) (pv 7) (pv 6) (nomark _))
          (pss_one (ps_ret (pe_h BE hr (by decide) (by rfl) (pa_cons (pv 0) (pa_cons (pe_op op_modK (pv 5) (pv 0)) (pa_cons (pe_ix ix_str pe_str (pe_op op_fdivK (pv 5) (pv 0)) (fun _ _ => rfl)) (pa_cons (pv 7) pa_nil))))))) pss_nil)))))
      (pss_one (ps_ret pe_non)))), ?_⟩
    refine ⟨_, rfl, _, rfl, n, a, one, rfl, hG1, hok1, h6, hl1, fun H1 p1 s1 hR1 => ?_⟩
    refine ⟨_, rfl, _, rfl, b, n, other, rfl, LsAt.mono GT.mono s1 hG2, hok2, h6, hl2, fun H2 p2 s2 ⟨ws, hb, hW⟩ => ?_⟩
    refine ⟨p2, ws, rfl, SqL.of hb, fun p3 n3 => ?_⟩
    have s3 : Same H2 (upd H2 p3 (.lst ws.reverse)) := same_upd n3
    have hB : Reps (GO K (upd H2 p3 (.lst ws.reverse))) ws.reverse other.reverse := (hW.mono fun v x r => GO.mono s3 r).rev
    have hB3 : (upd H2 p3 (.lst ws.reverse)) p3 = some (.lst ws.reverse) := upd_same
    generalize upd H2 p3 (.lst ws.reverse) = H3 at s3 hB hB3
    refine ⟨_, rfl, n, rfl, h6, fun H4 p4 s4 ⟨fs, hf, hF⟩ => ?_⟩
    have s14 : Same H1 H4 := (s2.trans s3).trans s4
    obtain ⟨hs, hh, hH⟩ := LsAt.mono RowAt.mono s14 hR1
    refine ⟨p4, fs, rfl, SqL.of hf, for_enum (K := K) (a := p4) (xs := fs) (fun i σ H' => ∃ v5 v6 v7 v8, σ = [some (.int (n : Int)), some (.ref a), some (.ref b), some (.ref p1), some (.ref p3), v5, v6, v7, v8] ∧ Same H4 H' ∧ ∀ k, k < i → parts n one other k = false)
      ⟨none, none, none, none, rfl, Same.refl _, fun k hk => absurd hk (Nat.not_lt_zero _)⟩ (fun i σ H' _ ⟨_, _, _, _, _, s5, _⟩ => s5.seq (SqL.of hf)) ?_ ?_⟩
    · rintro i x σ H' Tp hi ⟨v5, v6, v7, v8, rfl, s5, hno⟩ nT
      obtain ⟨r0, hr0, hx⟩ := hF.get hi
      have hi2 : i < 2 * n := by
        have := (List.getElem?_eq_some_iff.mp hr0).1
        unfold firsts at this
        rwa [List.length_map, List.length_range] at this
      have er0 : r0 = first n i := by
        unfold firsts at hr0
        rw [List.getElem?_map, List.getElem?_range hi2] at hr0
        exact (Option.some.inj hr0).symm
      subst er0
      have s6 : Same H' (upd H' Tp (.tup [.int (i : Nat), x])) := same_upd nT
      have hT : SqT K (upd H' Tp (.tup [.int (i : Nat), x])) Tp [.int (i : Nat), x] := SqT.of upd_same
      generalize upd H' Tp (.tup [.int (i : Nat), x]) = H6 at s6 hT
      have s46 : Same H4 H6 := s5.trans s6
      refine ⟨Tp, _, rfl, hT, rfl, _, _, rfl, _, _, rfl, rfl, ?_⟩
      -- row = here[number]
      have hhi : ((firsts n).map (goRow one))[i]? = some (goRow one (first n i)) := by
        rw [List.getElem?_map, hr0]
        rfl
      obtain ⟨v0, hv0, hrow0⟩ := hH.get' hhi
      refine ⟨_, rfl, _, rfl, p1, hs, _, v0, rfl, rfl, SqL.of (s46 _ _ hh), atI_nat hv0, ?_⟩
      -- for gate in back
      refine ⟨_, rfl, p3, rfl, ⟨_, SqL.of ((s4.trans s46) _ _ hB3)⟩, for_list (K := K) (a := p3) (xs := ws.reverse) (fun j σ H' => ∃ v8 v, σ = [some (.int (n : Int)), some (.ref a), some (.ref b), some (.ref p1), some (.ref p3), some (.int (i : Nat)), some x, some v, v8] ∧ Same H6 H' ∧ RowAt K H' v (goRow (other.reverse.take j) (goRow one (first n i))))
        ⟨v8, v0, rfl, Same.refl _, RowAt.mono s46 hrow0⟩ (fun j σ H' _ ⟨_, _, _, s7, _⟩ => s7.seq (SqL.of ((s4.trans s46) _ _ hB3))) ?_ ?_⟩
      · rintro j y σ H7 hj ⟨v8, v, rfl, s7, hv⟩
        obtain ⟨g, hg, hy⟩ := hB.get hj
        obtain ⟨kd, c, d, o, dx, rfl, rfl, ho, hc, hd⟩ := GO.mono ((s4.trans s46).trans s7) hy
        have hro : (goRow (other.reverse.take j) (goRow one (first n i))).ok n := goRow_ok (fun g' m => hok2.rev g' (List.mem_of_mem_take m)) (goRow_ok hok1 (first_ok hi2))
        refine ⟨kd, _, rfl, o, dx, _, rfl, ho, gfs_no _ _ (by decide +kernel) (by decide +kernel), _, rfl, o, dx, c, d, v, _, rfl, ho, hv, hro.s, hc, hd, fun H8 v' s8 hv' => ?_⟩
        refine ⟨_, v', rfl, s7.trans s8, ?_⟩
        rw [take_snoc hg, goRow_app]
        exact hv'
      · rintro σ H7 ⟨v8, v, rfl, s7, hv⟩
        rw [List.length_reverse, hW.len, ← List.length_reverse, List.take_length] at hv
        have hx7 : RowAt K H7 x (first n i) := RowAt.mono ((s5.trans s6).trans s7) hx
        refine ⟨_, rfl, _, rfl, _, _, hv.dp, hx7.dp, rfl, rfl, _, rfl, ?_⟩
        rw [rowD_eqv]
        by_cases hp : goRow other.reverse (goRow one (first n i)) = first n i
        · refine ifF (by rw [decide_eq_true hp]; rfl) ?_
          refine ⟨_, _, _, _, rfl, s46.trans s7, fun k hk => ?_⟩
          by_cases e : k = i
          · subst e
            unfold parts backRow
            rw [decide_eq_true hp]
            rfl
          · exact hno k (by omega)
        · refine ifT (by rw [decide_eq_false hp]; rfl) ?_
          have hn : 0 < n := by omega
          have hpt : parts n one other i = true := by
            unfold parts backRow
            rw [decide_eq_false hp]
            rfl
          have ans := parting_found hi2 hno hpt
          have hdiv : i / n = if i < n then 0 else 1 := by
            split
            · exact Nat.div_eq_of_lt (by assumption)
            · exact Nat.div_eq_of_lt_le (by omega) (by omega)
          refine ⟨_, rfl, _, rfl, _, rfl, i, n, rfl, rfl, hn, _, rfl, _, rfl, i, n, rfl, rfl, hn, by omega, ?_⟩
          refine ⟨_, _, if i < n then 43 else 48, rfl, rfl, by decide +kernel, ?_, _, rfl, n, i % n, decide (i < n), v, _, ?_, hv, h6, ?_⟩
          · rw [hdiv]
            by_cases e : i < n
            · rw [if_pos e, if_pos e]
              exact atI_nat (j := 0) (by decide +kernel)
            · rw [if_neg e, if_neg e]
              exact atI_nat (j := 1) (by decide +kernel)
          · by_cases e : i < n
            · rw [if_pos e, decide_eq_true e]
              rfl
            · rw [if_neg e, decide_eq_false e]
              rfl
          · have z := q H7 (s1.trans (s14.trans (s46.trans s7)))
            rw [ans] at z
            exact z
    · rintro σ H' ⟨v5, v6, v7, v8, rfl, s5, hno⟩
      have e : fs.length = 2 * n := by
        rw [hF.len]
        unfold firsts
        rw [List.length_map, List.length_range]
      rw [e] at hno
      have z := q H' (s1.trans (s14.trans s5))
      rw [parting_not hno] at z
      exact z
end
end TC
set_option Elab.async false
set_option linter.all false
set_option maxRecDepth 100000
set_option maxHeartbeats 4000000
/-! Turncoins: texts of gates, the desk's line. -/
namespace TC
open PySem PySem.Spec PyProof.Rows L2
abbrev tl (x : Str) : List Nat := TL.tl x
/-- a coin's number as a text -/
def num (c : Nat) : Str := Str.ofString (toString ((c : Nat) : Int))
theorem tl_num {c : Nat} (h : c < 10) : tl (num c) = [48 + c] := by
  unfold num
  rw [show tl (Str.ofString (toString ((c : Nat) : Int))) = TL.numL c from TL.tl_num c, TL.numL_lt h]
theorem num_S {c : Nat} (h : c < 10) : num c = SX.S [48 + c] := TL.ext_tl (tl_num h)
def words6 : List Str := ["mix", "flip", "sign", "follow", "meet", "swap"]
theorem words6_ok : ∀ s ∈ words6, (∀ c ∈ tl s, 97 ≤ c ∧ c ≤ 122) ∧ s.length ≤ 6 ∧ 0 < s.length := by decide +kernel
theorem W_mem (g : G) : W g ∈ words6 := by cases g <;> simp [W, words6]
theorem tl_W (g : G) : ∀ c ∈ tl (W g), 97 ≤ c ∧ c ≤ 122 := (words6_ok _ (W_mem g)).1
theorem len_W (g : G) : (W g).length ≤ 6 ∧ 0 < (W g).length := (words6_ok _ (W_mem g)).2
def gwords (g : G) : List Str := W g :: (cs g).map num
def gtext (g : G) : Str := Txt.join " " (gwords g)
def gstext (gs : List G) : Str := Txt.join "; " (gs.map gtext)
theorem tl_blank : tl (" " : Str) = [32] := by decide +kernel
theorem tl_semi : tl ("; " : Str) = [59, 32] := by decide +kernel
theorem gwords_c {n : Nat} {g : G} (hn : n ≤ 10) (hg : g.ok n) : ∀ p ∈ gwords g, ∀ c ∈ tl p, (97 ≤ c ∧ c ≤ 122) ∨ (48 ≤ c ∧ c ≤ 57) := by
  intro p hp c hc
  rcases List.mem_cons.mp hp with rfl | hp
  · exact .inl (tl_W g c hc)
  · obtain ⟨d, hd, rfl⟩ := List.mem_map.mp hp
    have := cs_lt hg d hd
    rw [tl_num (by omega)] at hc
    have e := List.mem_singleton.mp hc
    exact .inr (by omega)
theorem gsplit {n : Nat} {g : G} (hn : n ≤ 10) (hg : g.ok n) : Txt.split (gtext g) " " = gwords g := by
  unfold gtext
  refine TL.split_join tl_blank (by decide +kernel) (by simp [gwords]) fun p hp h => ?_
  have := gwords_c hn hg p hp 32 h
  omega
theorem mem_joinL {S : List Nat} {c : Nat} : ∀ {ps : List (List Nat)}, c ∈ TL.joinL S ps → c ∈ S ∨ ∃ p ∈ ps, c ∈ p
  | [], h => by cases h
  | [p], h => .inr ⟨p, List.mem_singleton.mpr rfl, h⟩
  | p :: q :: r, h => by
    have h : c ∈ p ++ (S ++ TL.joinL S (q :: r)) := h
    rcases List.mem_append.mp h with h | h
    · exact .inr ⟨p, List.mem_cons_self .., h⟩
    · rcases List.mem_append.mp h with h | h
      · exact .inl h
      · rcases mem_joinL h with h | ⟨z, hz, h⟩
        · exact .inl h
        · exact .inr ⟨z, List.mem_cons_of_mem _ hz, h⟩
theorem tl_join (y : Str) (ps : List Str) : tl (Txt.join y ps) = TL.joinL (tl y) (ps.map tl) := by
  rw [TL.join_eq]
  exact TL.tl_join y ps
theorem gtext_c {n : Nat} {g : G} (hn : n ≤ 10) (hg : g.ok n) : ∀ c ∈ tl (gtext g), (97 ≤ c ∧ c ≤ 122) ∨ (48 ≤ c ∧ c ≤ 57) ∨ c = 32 := by
  intro c hc
  unfold gtext at hc
  rw [tl_join, tl_blank] at hc
  rcases mem_joinL hc with h | ⟨p, hp, h⟩
  · exact .inr (.inr (List.mem_singleton.mp h))
  · obtain ⟨q, hq, rfl⟩ := List.mem_map.mp hp
    rcases gwords_c hn hg q hq c h with h | h
    · exact .inl h
    · exact .inr (.inl h)
theorem gssplit {n : Nat} {gs : List G} (hn : n ≤ 10) (hg : okAll n gs) (hne : gs ≠ []) : Txt.split (gstext gs) "; " = gs.map gtext := by
  unfold gstext
  refine TL.split_join tl_semi (by decide +kernel) (by simpa using hne) fun p hp h => ?_
  obtain ⟨g, hgm, rfl⟩ := List.mem_map.mp hp
  have := gtext_c hn (hg g hgm) 59 h
  omega
theorem gstext_c {n : Nat} {gs : List G} (hn : n ≤ 10) (hg : okAll n gs) : ∀ c ∈ tl (gstext gs), (97 ≤ c ∧ c ≤ 122) ∨ (48 ≤ c ∧ c ≤ 57) ∨ c = 32 ∨ c = 59 := by
  intro c hc
  unfold gstext at hc
  rw [tl_join, tl_semi] at hc
  rcases mem_joinL hc with h | ⟨p, hp, h⟩
  · simp at h
    omega
  · obtain ⟨q, hq, rfl⟩ := List.mem_map.mp hp
    obtain ⟨g, hgm, rfl⟩ := List.mem_map.mp hq
    rcases gtext_c hn (hg g hgm) c h with h | h | h
    · exact .inl h
    · exact .inr (.inl h)
    · exact .inr (.inr (.inl h))
/-! ### lengths -/
theorem len_joinL (S : List Nat) (k : Nat) : ∀ ps : List (List Nat), (∀ p ∈ ps, p.length ≤ k) → (TL.joinL S ps).length ≤ (k + S.length) * ps.length
  | [], _ => Nat.zero_le _
  | [p], h => by
    have := h p (List.mem_singleton.mpr rfl)
    show p.length ≤ (k + S.length) * 1
    omega
  | p :: q :: r, h => by
    have h1 := h p (List.mem_cons_self ..)
    have ih := len_joinL S k (q :: r) fun z hz => h z (List.mem_cons_of_mem _ hz)
    show (p ++ (S ++ TL.joinL S (q :: r))).length ≤ (k + S.length) * ((q :: r).length + 1)
    rw [List.length_append, List.length_append, Nat.mul_add]
    omega
theorem len_tl (x : Str) : x.length = (tl x).length := TL.len_tl x
theorem gwords_len {n : Nat} {g : G} (hn : n ≤ 10) (hg : g.ok n) : ∀ p ∈ gwords g, p.length ≤ 6 := by
  intro p hp
  rcases List.mem_cons.mp hp with rfl | hp
  · exact (len_W g).1
  · obtain ⟨d, hd, rfl⟩ := List.mem_map.mp hp
    have := cs_lt hg d hd
    rw [len_tl, tl_num (by omega)]
    show 1 ≤ 6
    decide
theorem gwords_3 (g : G) : (gwords g).length ≤ 3 ∧ 2 ≤ (gwords g).length := by cases g <;> simp [gwords, cs]
theorem gtext_len {n : Nat} {g : G} (hn : n ≤ 10) (hg : g.ok n) : (gtext g).length ≤ 21 := by
  unfold gtext
  rw [len_tl, tl_join, tl_blank]
  have h := len_joinL [32] 6 ((gwords g).map tl) fun p hp => by
    obtain ⟨q, hq, rfl⟩ := List.mem_map.mp hp
    rw [← len_tl]
    exact gwords_len hn hg q hq
  rw [List.length_map] at h
  have h3 := (gwords_3 g).1
  have : (6 + [32].length) * (gwords g).length ≤ 7 * 3 := Nat.mul_le_mul_left 7 h3
  omega
theorem gstext_len {n : Nat} {gs : List G} (hn : n ≤ 10) (hg : okAll n gs) : (gstext gs).length ≤ 23 * gs.length := by
  unfold gstext
  rw [len_tl, tl_join, tl_semi]
  have h := len_joinL [59, 32] 21 ((gs.map gtext).map tl) fun p hp => by
    obtain ⟨q, hq, rfl⟩ := List.mem_map.mp hp
    obtain ⟨g, hgm, rfl⟩ := List.mem_map.mp hq
    rw [← len_tl]
    exact gtext_len hn (hg g hgm)
  rw [List.length_map, List.length_map] at h
  exact h
theorem gtext_ne (g : G) : tl (gtext g) ≠ [] := by
  unfold gtext
  rw [tl_join]
  have h := (len_W g).2
  rw [len_tl] at h
  cases e : (cs g).map num with
  | nil =>
    show TL.joinL _ ((W g :: (cs g).map num).map tl) ≠ []
    rw [e]
    show tl (W g) ≠ []
    intro z
    rw [z] at h
    cases h
  | cons p r =>
    show TL.joinL _ ((W g :: (cs g).map num).map tl) ≠ []
    rw [e]
    show tl (W g) ++ _ ≠ []
    intro z
    rw [(List.append_eq_nil_iff.mp z).1] at h
    cases h
theorem gstext_ne {g : G} {gs : List G} : gstext (g :: gs) ≠ "" := by
  intro z
  have e : tl (gstext (g :: gs)) = [] := by
    rw [z]
    decide +kernel
  unfold gstext at e
  rw [tl_join] at e
  cases gs with
  | nil => exact gtext_ne g e
  | cons h r =>
    have e : tl (gtext g) ++ _ = [] := e
    exact gtext_ne g (List.append_eq_nil_iff.mp e).1
theorem gstext_nil : gstext [] = "" := TL.ext_tl (by decide +kernel)
/-! ### split at blanks, and back -/
theorem spl_no {s : Nat} : ∀ (l acc : List Nat), s ∉ acc → ∀ p ∈ TL.spl [s] 0 acc l, s ∉ p
  | [], acc, h, p, hp => by
    rw [TL.spl_nil] at hp
    rw [List.mem_singleton.mp hp]
    exact h
  | c :: r, acc, h, p, hp => by
    by_cases e : c = s
    · subst e
      rw [TL.spl_hit (show TL.pre [c] (c :: r) = true from TL.pre_self [c] r)] at hp
      rcases List.mem_cons.mp hp with rfl | hp
      · exact h
      · exact spl_no r [] (fun z => by cases z) p hp
    · rw [TL.spl_miss (TL.pre_of_head [] r e)] at hp
      exact spl_no r (acc ++ [c]) (fun z => by
        rcases List.mem_append.mp z with z | z
        · exact h z
        · exact e (List.mem_singleton.mp z).symm) p hp
theorem spl_sub {s : Nat} : ∀ (l acc : List Nat), ∀ p ∈ TL.spl [s] 0 acc l, ∀ c ∈ p, c ∈ acc ∨ c ∈ l
  | [], acc, p, hp, c, hc => by
    rw [TL.spl_nil] at hp
    rw [List.mem_singleton.mp hp] at hc
    exact .inl hc
  | d :: r, acc, p, hp, c, hc => by
    by_cases e : d = s
    · subst e
      rw [TL.spl_hit (show TL.pre [d] (d :: r) = true from TL.pre_self [d] r)] at hp
      rcases List.mem_cons.mp hp with rfl | hp
      · exact .inl hc
      · rcases spl_sub r [] p hp c hc with z | z
        · cases z
        · exact .inr (List.mem_cons_of_mem _ z)
    · rw [TL.spl_miss (TL.pre_of_head [] r e)] at hp
      rcases spl_sub r (acc ++ [d]) p hp c hc with z | z
      · rcases List.mem_append.mp z with z | z
        · exact .inl z
        · rw [List.mem_singleton.mp z]
          exact .inr (List.mem_cons_self ..)
      · exact .inr (List.mem_cons_of_mem _ z)
theorem spl_ne (s : Nat) : ∀ (l acc : List Nat), TL.spl [s] 0 acc l ≠ []
  | [], acc => by
    rw [TL.spl_nil]
    simp
  | c :: r, acc => by
    by_cases e : c = s
    · subst e
      rw [TL.spl_hit (show TL.pre [c] (c :: r) = true from TL.pre_self [c] r)]
      simp
    · rw [TL.spl_miss (TL.pre_of_head [] r e)]
      exact spl_ne s r _
/-- the words of a text, parted by single blanks -/
def ws (t : Str) : List Str := Txt.split t " "
theorem ws_spl (t : Str) : (ws t).map tl = TL.spl [32] 0 [] (tl t) := by
  have e := TL.split_spl t " " (by rw [show TL.tl (" " : Str) = [32] from tl_blank]; simp) (TL.kind_ok (by decide +kernel))
  rw [show TL.tl (" " : Str) = [32] from tl_blank] at e
  exact e
theorem ws_ne (t : Str) : ws t ≠ [] := by
  intro z
  have e := ws_spl t
  rw [z] at e
  exact spl_ne 32 _ _ e.symm
theorem ws_no (t : Str) : ∀ p ∈ ws t, 32 ∉ tl p := fun p hp => by
  have h : tl p ∈ (ws t).map tl := List.mem_map.mpr ⟨p, hp, rfl⟩
  rw [ws_spl] at h
  exact spl_no _ [] (fun z => by cases z) _ h
theorem ws_sub (t : Str) : ∀ p ∈ ws t, ∀ c ∈ tl p, c ∈ tl t := fun p hp c hc => by
  have h : tl p ∈ (ws t).map tl := List.mem_map.mpr ⟨p, hp, rfl⟩
  rw [ws_spl] at h
  rcases spl_sub _ [] _ h c hc with z | z
  · cases z
  · exact z
theorem ws_join (t : Str) : Txt.join " " (ws t) = t := by
  rw [TL.join_eq]
  exact StrLaws.join_split t " "
theorem ws_len (t : Str) : (ws t).length ≤ t.length + 2 := by
  have := PyProof.Rows.split_le t (" " : Str)
  unfold ws
  omega
theorem tl_ws (t : Str) : TL.joinL [32] ((ws t).map tl) = tl t := by
  have e := congrArg tl (ws_join t)
  rw [tl_join, tl_blank] at e
  exact e
/-! ### the desk's line -/
/-- the words of a line that asks for a parting start -/
def lwords (n : Nat) (t u : Str) : List Str := ("part" : Str) :: num n :: (ws t ++ ("/" : Str) :: ws u)
def line (n : Nat) (t u : Str) : Str := "part " ++ num n ++ " " ++ t ++ " / " ++ u
theorem joinL_app (S : List Nat) : ∀ (A B : List (List Nat)), A ≠ [] → B ≠ [] → TL.joinL S (A ++ B) = TL.joinL S A ++ (S ++ TL.joinL S B)
  | [], _, h, _ => absurd rfl h
  | [p], b :: B, _, _ => rfl
  | [_], [], _, h => absurd rfl h
  | p :: q :: r, B, _, hB => by
    show p ++ (S ++ TL.joinL S (q :: r ++ B)) = (p ++ (S ++ TL.joinL S (q :: r))) ++ (S ++ TL.joinL S B)
    rw [joinL_app S (q :: r) B (by simp) hB, List.append_assoc, List.append_assoc]
theorem tl_part : tl ("part" : Str) = [112, 97, 114, 116] := by decide +kernel
theorem tl_partb : tl ("part " : Str) = [112, 97, 114, 116, 32] := by decide +kernel
theorem tl_slash : tl ("/" : Str) = [47] := by decide +kernel
theorem tl_slashb : tl (" / " : Str) = [32, 47, 32] := by decide +kernel
theorem line_join {n : Nat} (hn : n < 10) (t u : Str) : Txt.join " " (lwords n t u) = line n t u := by
  refine TL.ext_tl ?_
  show tl _ = tl _
  rw [tl_join, tl_blank]
  unfold lwords line
  have e1 : tl ("part " ++ num n ++ " " ++ t ++ " / " ++ u) = tl "part " ++ tl (num n) ++ tl " " ++ tl t ++ tl " / " ++ tl u := by
    simp only [tl, TL.tl_append]
  rw [e1, tl_partb, tl_blank, tl_slashb, tl_num hn]
  rw [List.map_cons, List.map_cons, List.map_append, List.map_cons, tl_part, tl_num hn, tl_slash]
  have h1 : (ws t).map tl ≠ [] := by simpa using ws_ne t
  have h2 : (ws u).map tl ≠ [] := by simpa using ws_ne u
  have e2 := joinL_app [32] [[112, 97, 114, 116], [48 + n]] ((ws t).map tl ++ [47] :: (ws u).map tl) (by simp) (by simp)
  have e3 := joinL_app [32] ((ws t).map tl) ([47] :: (ws u).map tl) h1 (by simp)
  have e4 := joinL_app [32] [[47]] ((ws u).map tl) (by simp) h2
  have e2' : TL.joinL [32] ([112, 97, 114, 116] :: [48 + n] :: ((ws t).map tl ++ [47] :: (ws u).map tl)) = _ := e2
  have e4' : TL.joinL [32] ([47] :: (ws u).map tl) = _ := e4
  rw [e2', e3, e4', tl_ws, tl_ws]
  simp [TL.joinL]
theorem lwords_no {n : Nat} (hn : n < 10) (t u : Str) : ∀ p ∈ lwords n t u, 32 ∉ tl p := by
  intro p hp
  unfold lwords at hp
  rcases List.mem_cons.mp hp with rfl | hp
  · rw [tl_part]; decide
  rcases List.mem_cons.mp hp with rfl | hp
  · rw [tl_num hn]
    intro z
    have := List.mem_singleton.mp z
    omega
  rcases List.mem_append.mp hp with hp | hp
  · exact ws_no t p hp
  rcases List.mem_cons.mp hp with rfl | hp
  · rw [tl_slash]; decide
  · exact ws_no u p hp
theorem line_split {n : Nat} (hn : n < 10) (t u : Str) : Txt.split (line n t u) " " = lwords n t u := by
  rw [← line_join hn]
  exact TL.split_join tl_blank (by decide +kernel) (by simp [lwords]) (lwords_no hn t u)
theorem line_len {n : Nat} (hn : n < 10) (t u : Str) : (line n t u).length = t.length + u.length + 10 := by
  unfold line
  rw [len_tl, len_tl t, len_tl u]
  have e1 : tl ("part " ++ num n ++ " " ++ t ++ " / " ++ u) = tl "part " ++ tl (num n) ++ tl " " ++ tl t ++ tl " / " ++ tl u := by
    simp only [tl, TL.tl_append]
  rw [e1, tl_partb, tl_blank, tl_slashb, tl_num hn]
  simp only [List.length_append, List.length_cons, List.length_nil]
  omega
theorem no_slash {n : Nat} {gs : List G} (hn : n ≤ 10) (hg : okAll n gs) : ("/" : Str) ∉ ws (gstext gs) := by
  intro h
  have := gstext_c hn hg 47 (ws_sub _ _ h 47 (by rw [tl_slash]; exact List.mem_singleton.mpr rfl))
  omega
end TC
set_option Elab.async false
set_option linter.all false
set_option maxRecDepth 100000
set_option maxHeartbeats 4000000
/-! Turncoins: read_figure, read_gate, read_gates. -/
namespace TC
open PySem PySem.Spec PyProof.Rows L2
section
variable {P : Program} {w : World} {K : PySem.W.Frag} {mg : Str → Option Value} {base : Heap}
abbrev figs : Str := "0123456789"
theorem figs_at : ∀ c, c < 10 → Builtin.Str.occurrences figs (SX.S [48 + c]) 0 figs.length 1 = [c] := by decide +kernel
theorem figs_in : ∀ c, c < 10 → decide (48 + c ∈ figs.cps.toList) = true := by decide +kernel
def spFigure : Sp := fun vs H Q _ => ∃ (c : Nat), vs = [.str (num c)] ∧ c < 10 ∧ Q (.int (c : Int)) H
theorem scFigure : FnScope ["text"] ["text"] (defScope s_read_figure) := ⟨rfl, rfl, rfl, by decide +kernel, rfl, by decide +kernel, by decide +kernel⟩
theorem ok_figure (D : Def K mg "read_figure" s_read_figure) (T : Free mg) (FG : ∃ t, mg "FIGURES" = some (.str figs t)) : Has P w K mg base 1 "read_figure" ["text"] spFigure := by
  obtain ⟨ft, mgF⟩ := FG
  refine has_of D scFigure (fun vs H Q E h => ?_) (fun _ _ _ _ _ _ us hl => match us, hl with | [_], _ => rfl) (fun f cdv A outer s H vs Q E hr h => ?_)
  · obtain ⟨c, rfl, _⟩ := h
    rfl
  · obtain ⟨c, rfl, hc, q⟩ := h
    rw [num_S hc]
    refine ⟨_, pss_cons (ps_if (PW.pt (pw_or (pt_cmpR op_ne (pe_callB call_len_str (by rfl) T.len PySem.boot_len (pa_cons (pv 0) pa_nil)) pe_int (nomark _))
        (pw_or1 (pt_cmpR op_notIn_sign (pv 0) (pe_glob (v := .str figs) (by rfl) mgF ⟨ft, rfl⟩) rfl)))) (pss_one ps_never) pss_nil)
      (pss_one (ps_ret (pe_bm PySem.F.plainAttrs_str PySem.F.slot_str_index PySem.F.type_str_index mt_sindex (pe_glob (v := .str figs) (by rfl) mgF ⟨ft, rfl⟩) (pa_cons (pv 0) pa_nil)))), ?_⟩
    refine ⟨_, rfl, _, rfl, by rw [SX.S_len]; show 1 ≤ sizeLine; decide, rfl, _, rfl, ifF (by rw [SX.S_len]; rfl) ?_⟩
    refine ⟨_, rfl, _, _, rfl, rfl, _, rfl, ifF (by rw [figs_in c hc]; rfl) ?_⟩
    exact ⟨rfl, _, rfl, _, _, _, _, rfl, rfl, figs_at c hc, q⟩
def spReadGate (K : PySem.W.Frag) : Sp := fun vs H Q _ => ∃ (n : Nat) (g : G), vs = [.str (gtext g)] ∧ n ≤ 10 ∧ g.ok n ∧ ∀ H' v, Same H H' → GT K H' v g → Q v H'
theorem scReadGate : FnScope ["text", "words", "word"] ["text"] (defScope s_read_gate) := ⟨rfl, rfl, rfl, by decide +kernel, rfl, by decide +kernel, by decide +kernel⟩
theorem ok_readgate (D : Def K mg "read_gate" s_read_gate) (T : Free mg) (PT : PartsAt K mg w "PARTS_texts") (RF : Has P w K mg base 1 "read_figure" ["text"] spFigure) : Has P w K mg base 2 "read_gate" ["text"] (spReadGate K) := by
  obtain ⟨dp, es, nn, KD, mgP, hP⟩ := PT
  refine has_of D scReadGate (fun vs H Q E h => ?_) (fun _ _ _ _ _ _ us hl => match us, hl with | [_], _ => rfl) (fun f cdv A outer s H vs Q E hr h => ?_)
  · obtain ⟨n, g, rfl, _⟩ := h
    rfl
  · obtain ⟨n, g, rfl, hn, hg, q⟩ := h
    obtain ⟨u, hu, ru⟩ := hP g
    refine ⟨_, pss_cons (ps_set (i := 1) scReadGate.nd rfl (.inl rfl) (pe_split (pv 0) pe_str))
      (pss_cons (ps_if (pt_cmpR op_ne (pe_callB call_len_seq (by rfl) T.len PySem.boot_len (pa_cons (pv 1) pa_nil)) (pe_kget2 KD (pe_glob (v := .ref dp) (by rfl) mgP rfl) (pe_ix ix_list (pv 1) pe_int (fun _ _ => rfl)) pe_int ⟨rfl, rfl, rfl, rfl⟩) (nomark _)) (pss_one ps_never) pss_nil)
      (pss_one (ps_ret (pe_op op_catT (pe_tup (pa_cons (pe_ix ix_list (pv 1) pe_int (fun _ _ => rfl)) pa_nil))
        (pe_callTy call_tuple_of (by rfl) T.tuple (by decide +kernel) (pa_cons (pe_lc (own := [("word", 2)]) (g := gName 2) (tt := tYes) rfl scReadGate.nd (pi_list (pe_slice sl_list (pv 1) (po_some pe_int) po_none))
          (blkOk_by (own := [("word", 2)]) (N := ["text", "words", "word"]) (sc := defScope s_read_gate) (by decide +kernel)) (fun _ _ _ _ _ => pg_name (i := 2) scReadGate.nd rfl (Or.inl rfl)) (fun _ _ _ _ _ => pts_nil)
          (fun _ _ _ _ _ => pe_h RF hr (by decide) (by rfl) (pa_cons (pv 2) pa_nil))) pa_nil)))))), ?_⟩
    have hlen := gtext_len hn hg
    refine ⟨_, rfl, ⟨_, rfl⟩, _, _, rfl, rfl, by decide +kernel, Nat.le_trans (Nat.add_le_add_right hlen 2) (by decide), fun p np => ?_⟩
    rw [show Txt.split (gtext g) (" " : Str) = gwords g from gsplit hn hg]
    have s1 : Same H (upd H p (.lst ((gwords g).map V.str))) := same_upd np
    have hp : (upd H p (.lst ((gwords g).map V.str))) p = some (.lst ((gwords g).map V.str)) := upd_same
    generalize upd H p (.lst ((gwords g).map V.str)) = H1 at s1 hp
    refine ⟨_, rfl, p, _, rfl, .inl (SqL.of hp), rfl, _, rfl, p, _, _, _, rfl, rfl, SqL.of hp, atI_nat (j := 0) rfl, _, u, _, rfl, hu, ru, rfl, _, rfl, ifF ?_ ?_⟩
    · rw [decide_eq_true]
      · rfl
      · rw [gtup_len]
        simp [gwords]
    refine ⟨_, rfl, p, _, _, _, rfl, rfl, SqL.of hp, atI_nat (j := 0) rfl, (by show 1 ≤ sizeLine; decide), fun p2 n2 => ?_⟩
    have s2 : Same H1 (upd H1 p2 (.tup [.str (W g)])) := same_upd n2
    have hp2 : (upd H1 p2 (.tup [.str (W g)])) p2 = some (.tup [.str (W g)]) := upd_same
    generalize upd H1 p2 (.tup [.str (W g)]) = H2 at s2 hp2
    have ec : cutV ((gwords g).map V.str) (some 1) none = (cs g).map fun c => V.str (num c) := by
      rw [cut1]
      show ((cs g).map num).map V.str = _
      rw [List.map_map]
      rfl
    refine ⟨_, rfl, 1, rfl, p, _, rfl, SqL.of (s2 _ _ hp), fun p3 n3 => ?_⟩
    rw [ec]
    have s3 : Same H2 (upd H2 p3 (.lst ((cs g).map fun c => V.str (num c)))) := same_upd n3
    have hp3 : (upd H2 p3 (.lst ((cs g).map fun c => V.str (num c)))) p3 = some (.lst ((cs g).map fun c => V.str (num c))) := upd_same
    generalize upd H2 p3 (.lst ((cs g).map fun c => V.str (num c))) = H3 at s3 hp3
    refine ⟨p3, rfl, ⟨_, SqL.of hp3⟩, fun Dd nD => lc_list (K := K) (a := p3) (xs := (cs g).map fun c => V.str (num c)) (fun i H' => Same H3 H' ∧ H' Dd = some (.lst (((cs g).take i).map fun (c : Nat) => V.int (c : Int))))
      ⟨same_upd nD, upd_same⟩ (fun i H' _ ⟨s4, _⟩ => s4.seq (SqL.of hp3)) ?_ ?_⟩
    · rintro i x H' hi ⟨s4, hD⟩
      rw [List.getElem?_map] at hi
      obtain ⟨c, hc, rfl⟩ := Option.map_eq_some_iff.mp hi
      have hcn := cs_lt hg c (List.mem_of_getElem? hc)
      refine ⟨rfl, ?_⟩
      refine ⟨_, rfl, c, rfl, by omega, _, hD, small1000 ?_, same_at nD s4, ?_⟩
      · rw [List.length_map, List.length_take]
        cases g <;> simp [cs] <;> omega
      · rw [upd_same, take_snoc hc, List.map_append]
        rfl
    · rintro H' ⟨s4, hD⟩
      rw [List.length_map, List.take_length] at hD
      refine ⟨Dd, _, rfl, .inl ⟨SqL.of hD, fun l nl => ?_⟩⟩
      have s5 : Same H' (upd H' l (.tup ((cs g).map fun (c : Nat) => V.int (c : Int)))) := same_upd nl
      refine ⟨p2, l, _, _, rfl, rfl, SqT.of (((s3.trans s4).trans s5) _ _ hp2), SqT.of upd_same, by simp, ?_, fun e => ?_, fun _ p4 n4 => ?_⟩
      · rw [List.length_map]
        exact Nat.le_of_lt (small1000 (by cases g <;> simp [cs]))
      · exfalso
        cases g <;> simp [cs] at e
      · exact q _ _ ((((s1.trans s2).trans s3).trans s4).trans (s5.trans (same_upd n4))) ⟨p4, rfl, SqT.of upd_same⟩
def spReadGates (K : PySem.W.Frag) : Sp := fun vs H Q _ => ∃ (n : Nat) (gs : List G), vs = [.str (gstext gs)] ∧ n ≤ 10 ∧ okAll n gs ∧ gs.length ≤ 200 ∧ ∀ H' p, Same H H' → GTs K H' p gs → Q (.ref p) H'
theorem scReadGates : FnScope ["text", "part"] ["text"] (defScope s_read_gates) := ⟨rfl, rfl, rfl, by decide +kernel, rfl, by decide +kernel, by decide +kernel⟩
theorem ok_readgates (D : Def K mg "read_gates" s_read_gates) (RG : Has P w K mg base 2 "read_gate" ["text"] (spReadGate K)) : Has P w K mg base 3 "read_gates" ["text"] (spReadGates K) := by
  refine has_of D scReadGates (fun vs H Q E h => ?_) (fun _ _ _ _ _ _ us hl => match us, hl with | [_], _ => rfl) (fun f cdv A outer s H vs Q E hr h => ?_)
  · obtain ⟨n, gs, rfl, _⟩ := h
    rfl
  · obtain ⟨n, gs, rfl, hn, hg, h200, q⟩ := h
    refine ⟨_, pss_cons (ps_if (pt_cmpR op_eq (pv 0) pe_str (nomark _)) (pss_one (ps_ret (pe_lst pa_nil))) pss_nil)
      (pss_one (ps_ret (pe_lc (own := [("part", 1)]) (g := gName 1) (tt := tYes) rfl scReadGates.nd (pi_list (pe_split (pv 0) pe_str))
        (blkOk_by (own := [("part", 1)]) (N := ["text", "part"]) (sc := defScope s_read_gates) (by decide +kernel)) (fun _ _ _ _ _ => pg_name (i := 1) scReadGates.nd rfl (Or.inl rfl)) (fun _ _ _ _ _ => pts_nil)
        (fun _ _ _ _ _ => pe_h RG hr (by decide) (by rfl) (pa_cons (pv 1) pa_nil))))), ?_⟩
    refine ⟨_, rfl, rfl, _, rfl, ?_⟩
    cases gs with
    | nil =>
      refine ifT (decide_eq_true (congrArg V.str gstext_nil)) ?_
      refine ⟨Nat.zero_le _, fun p np => ?_⟩
      exact q _ p (same_upd np) ⟨[], upd_same, Reps.nil⟩
    | cons g0 gr =>
      refine ifF (decide_eq_false fun e => gstext_ne (V.str.inj e)) ?_
      have hlen := gstext_len hn hg
      refine ⟨_, rfl, ⟨_, rfl⟩, _, _, rfl, rfl, by decide +kernel, ?_, fun p np => ?_⟩
      · have h1 : 23 * (g0 :: gr).length ≤ 23 * 200 := Nat.mul_le_mul_left 23 h200
        exact Nat.le_trans (show (gstext (g0 :: gr)).length + 2 ≤ 4602 by omega) (by decide)
      rw [show Txt.split (gstext (g0 :: gr)) ("; " : Str) = (g0 :: gr).map gtext from gssplit hn hg (by simp)]
      generalize g0 :: gr = gs at *
      have s1 : Same H (upd H p (.lst ((gs.map gtext).map V.str))) := same_upd np
      have hp : (upd H p (.lst ((gs.map gtext).map V.str))) p = some (.lst ((gs.map gtext).map V.str)) := upd_same
      generalize upd H p (.lst ((gs.map gtext).map V.str)) = H1 at s1 hp
      refine ⟨p, rfl, ⟨_, SqL.of hp⟩, fun Dd nD => lc_list (K := K) (a := p) (xs := (gs.map gtext).map V.str) (fun i H' => Same H1 H' ∧ ∃ us, H' Dd = some (.lst us) ∧ Reps (GT K H') us (gs.take i))
        ⟨same_upd nD, [], upd_same, Reps.nil⟩ (fun i H' _ ⟨s4, _⟩ => s4.seq (SqL.of hp)) ?_ ?_⟩
      · rintro i x H' hi ⟨s4, us, hD, hU⟩
        rw [List.getElem?_map, List.getElem?_map] at hi
        obtain ⟨t, ht, rfl⟩ := Option.map_eq_some_iff.mp hi
        obtain ⟨g, hgi, rfl⟩ := Option.map_eq_some_iff.mp ht
        refine ⟨rfl, ?_⟩
        refine ⟨_, rfl, n, g, rfl, hn, hg g (List.mem_of_getElem? hgi), fun H2 v s5 hv => ?_⟩
        have hD2 := s5 _ _ hD
        refine ⟨us, hD2, small1000 (by rw [hU.len, List.length_take]; omega), same_at nD (s4.trans s5), us ++ [v], upd_same, ?_⟩
        rw [take_snoc hgi]
        exact (hU.mono fun v x r => GT.upd hD2 (GT.mono s5 r)).snoc (GT.upd hD2 hv)
      · rintro H' ⟨s4, us, hD, hU⟩
        rw [List.length_map, List.length_map, List.take_length] at hU
        exact q H' Dd (s1.trans s4) ⟨us, hD, hU⟩
end
end TC
set_option Elab.async false
set_option linter.all false
set_option maxRecDepth 100000
set_option maxHeartbeats 4000000
/-! Turncoins: the desk's line is read and answered. -/
namespace TC
open PySem PySem.Spec PyProof.Rows L2
/-! ### the line's words by places -/
theorem lw_len (n : Nat) (t u : Str) : (lwords n t u).length = (ws t).length + (ws u).length + 3 := by
  unfold lwords
  simp only [List.length_cons, List.length_append]
  omega
theorem ws_pos (t : Str) : 0 < (ws t).length := List.length_pos_iff.mpr (ws_ne t)
theorem lw_slash (n : Nat) (t u : Str) : (lwords n t u)[(ws t).length + 2]? = some "/" := by
  show ((ws t) ++ ("/" : Str) :: ws u)[(ws t).length]? = some "/"
  rw [List.getElem?_append_right (Nat.le_refl _), Nat.sub_self]
  rfl
theorem lw_2 (n : Nat) (t u : Str) : ((lwords n t u).drop 2).take (ws t).length = ws t := by
  show ((ws t) ++ ("/" : Str) :: ws u).take (ws t).length = ws t
  exact List.take_left
theorem lw_3 (n : Nat) (t u : Str) : (lwords n t u).drop ((ws t).length + 3) = ws u := by
  show ((ws t) ++ ("/" : Str) :: ws u).drop ((ws t).length + 1) = ws u
  rw [← List.drop_drop, List.drop_left]
  rfl
theorem cut_nat (xs : List V) {i j : Nat} (h : i ≤ j) (hj : j ≤ xs.length) : cutV xs (some (i : Int)) (some (j : Int)) = (xs.drop i).take (j - i) := by
  unfold cutV
  rw [HT.sIx_nat, HT.sIx_nat, Nat.min_eq_left (Nat.le_trans h hj), Nat.min_eq_left hj]
theorem cut_from (xs : List V) {i : Nat} (h : i ≤ xs.length) : cutV xs (some (i : Int)) none = xs.drop i := by
  unfold cutV
  rw [HT.sIx_nat, HT.sIx_none, Nat.min_eq_left h, List.take_of_length_le (by rw [List.length_drop]; exact Nat.le_refl _)]
theorem cut_mid (xs : List V) {i : Nat} (h : i + 1 ≤ xs.length) : cutV xs (some (i : Int)) (some (-1)) = (xs.drop i).take (xs.length - 1 - i) := by
  unfold cutV
  have e : HT.sIx xs.length xs.length (some (-1)) = xs.length - 1 := by
    show (if (-1 : Int) < 0 then (-1 + (xs.length : Int)).toNat else min (-1 : Int).toNat xs.length) = _
    rw [if_pos (by decide)]
    omega
  rw [HT.sIx_nat, e, Nat.min_eq_left (by omega)]
theorem strs_flat (l : List Str) : (l.map V.str).all flatV = true := by
  rw [List.all_map]
  exact List.all_eq_true.mpr fun _ _ => rfl
theorem eqV_str (a b : Str) : eqV (.str a) (.str b) = decide (a = b) := by
  show (a == b) = _
  by_cases e : a = b
  · subst e
    simp
  · rw [decide_eq_false e]
    exact beq_eq_false_iff_ne.mpr e
/-- what a desk answers -/
def answer (n : Nat) (one other : List G) : Str := match parting n one other with
  | none => "none"
  | some bs => tx bs
section
variable {P : Program} {w : World} {K : PySem.W.Frag} {mg : Str → Option Value} {base : Heap}
def spKnown : Sp := fun vs H Q _ => ∃ (a : Addr) (n : Nat) (t u : Str), vs = [.ref a] ∧ H a = some (.lst ((lwords n t u).map V.str)) ∧ ∀ H', Same H H' → Q (.bl true) H'
theorem scKnown : FnScope ["words"] ["words"] (defScope s_is_known) := ⟨rfl, rfl, rfl, by decide +kernel, rfl, by decide +kernel, by decide +kernel⟩
theorem ok_known (D : Def K mg "is_known" s_is_known) : Has P w K mg base 1 "is_known" ["words"] spKnown := by
  refine has_of D scKnown (fun vs H Q E h => ?_) (fun _ _ _ _ _ _ us hl => match us, hl with | [_], _ => rfl) (fun f cdv A outer s H vs Q E hr h => ?_)
  · obtain ⟨a, n, t, u, rfl, _⟩ := h
    rfl
  · obtain ⟨a, n, t, u, rfl, hA, q⟩ := h
    refine ⟨_, pss_cons (ps_if (pt_cmpR op_eq (pe_ix ix_list (pv 0) pe_int (fun _ _ => rfl)) pe_str (nomark _)) pss_never pss_nil)
      (pss_cons (ps_if (pt_cmpR op_eq (pe_ix ix_list (pv 0) pe_int (fun _ _ => rfl)) pe_str (nomark _)) pss_never pss_nil)
      (pss_cons (ps_if (pt_cmpR op_eq (pe_ix ix_list (pv 0) pe_int (fun _ _ => rfl)) pe_str (nomark _))
        (pss_one (ps_ret (pe_cmpR op_in_seq pe_str (pe_slice sl_list (pv 0) (po_some pe_int) (po_some (pe_un un_neg pe_int))) rfl))) pss_nil) pss_never)), ?_⟩
    refine ⟨_, rfl, a, _, _, _, rfl, rfl, SqL.of hA, atI_nat (j := 0) rfl, rfl, _, rfl, ifF (show decide (V.str ("part" : Str) = V.str ("turn" : Str)) = false by decide +kernel) ?_⟩
    refine ⟨_, rfl, a, _, _, _, rfl, rfl, SqL.of hA, atI_nat (j := 0) rfl, rfl, _, rfl, ifF (show decide (V.str ("part" : Str) = V.str ("mend" : Str)) = false by decide +kernel) ?_⟩
    refine ⟨_, rfl, a, _, _, _, rfl, rfl, SqL.of hA, atI_nat (j := 0) rfl, rfl, _, rfl, ifT (show decide (V.str ("part" : Str) = V.str ("part" : Str)) = true by decide +kernel) ?_⟩
    refine ⟨_, rfl, 3, rfl, 1, rfl, -1, rfl, a, _, rfl, SqL.of hA, fun p np => ?_⟩
    have hl := lw_len n t u
    have h1 := ws_pos t
    have h2 := ws_pos u
    have ec : cutV ((lwords n t u).map V.str) (some 3) (some (-1)) = (((lwords n t u).drop 3).take ((lwords n t u).length - 1 - 3)).map V.str := by
      have e := cut_mid ((lwords n t u).map V.str) (i := 3) (by rw [List.length_map]; omega)
      rw [List.length_map] at e
      rw [List.map_take, List.map_drop]
      exact e
    rw [ec]
    refine ⟨p, _, rfl, .inl (SqL.of upd_same), rfl, strs_flat _, ?_⟩
    have hin : inV (.str "/") ((((lwords n t u).drop 3).take ((lwords n t u).length - 1 - 3)).map V.str) = true := by
      unfold inV
      rw [List.any_eq_true]
      refine ⟨.str "/", List.mem_map.mpr ⟨"/", ?_, rfl⟩, ?_⟩
      · apply List.mem_of_getElem? (i := (ws t).length - 1)
        rw [List.getElem?_take, if_pos (by omega), List.getElem?_drop, show 3 + ((ws t).length - 1) = (ws t).length + 2 by omega]
        exact lw_slash n t u
      · rw [eqV_str]
        exact decide_eq_true rfl
    show Q (V.bl (inV (.str "/") _)) _
    rw [hin]
    exact q _ (same_upd np)
def spWithin : Sp := fun vs H Q _ => ∃ (c lo hi : Nat), vs = [.str (num c), .int (lo : Int), .int (hi : Int)] ∧ c < 10 ∧ lo ≤ c ∧ c ≤ hi ∧ Q (.int (c : Int)) H
theorem scWithin : FnScope ["text", "low", "high", "number"] ["text", "low", "high"] (defScope s_read_within) := ⟨rfl, rfl, rfl, by decide +kernel, rfl, by decide +kernel, by decide +kernel⟩
theorem ok_within (D : Def K mg "read_within" s_read_within) (RF : Has P w K mg base 1 "read_figure" ["text"] spFigure) : Has P w K mg base 2 "read_within" ["text", "low", "high"] spWithin := by
  refine has_of D scWithin (fun vs H Q E h => ?_) (fun _ _ _ _ _ _ us hl => match us, hl with | [_, _, _], _ => rfl) (fun f cdv A outer s H vs Q E hr h => ?_)
  · obtain ⟨c, lo, hi, rfl, _⟩ := h
    rfl
  · obtain ⟨c, lo, hi, rfl, hc, h1, h2, q⟩ := h
    refine ⟨_, pss_cons (ps_set (i := 3) scWithin.nd rfl (.inl rfl) (pe_h RF hr (by decide) (by rfl) (pa_cons (pv 0) pa_nil)))
      (pss_cons (ps_if (PW.pt (pw_or (pt_cmpR op_lt (pv 3) (pv 1) (nomark _)) (pw_or1 (pt_cmpR op_gt (pv 3) (pv 2) (nomark _))))) (pss_one ps_never) pss_nil)
      (pss_one (ps_ret (pv 3)))), ?_⟩
    refine ⟨_, rfl, c, rfl, hc, ?_⟩
    refine ⟨_, rfl, _, rfl, _, _, rfl, rfl, _, rfl, ifF (decide_eq_false (by omega)) ?_⟩
    refine ⟨_, rfl, _, rfl, _, _, rfl, rfl, _, rfl, ifF (decide_eq_false (by omega)) ?_⟩
    exact ⟨_, rfl, q⟩
def spTold : Sp := fun vs H Q _ => ∃ (a : Addr) (n : Nat) (one other : List G), vs = [.ref a] ∧ H a = some (.lst ((lwords n (gstext one) (gstext other)).map V.str)) ∧ 1 ≤ n ∧ n ≤ 6 ∧ okAll n one ∧ okAll n other ∧ one.length ≤ 200 ∧ other.length ≤ 200 ∧
  ∀ H', Same H H' → Q (.str (answer n one other)) H'
theorem scTold : FnScope ["words", "coins", "at", "one", "other", "found"] ["words"] (defScope s_told_parting) := ⟨rfl, rfl, rfl, by decide +kernel, rfl, by decide +kernel, by decide +kernel⟩
theorem sum_len {k : Nat} : ∀ {l : List Str}, (∀ p ∈ l, p.length ≤ k) → (l.map (·.length)).sum ≤ k * l.length
  | [], _ => Nat.le_refl _
  | p :: r, h => by
    have h1 := h p (List.mem_cons_self ..)
    have h2 := sum_len fun q hq => h q (List.mem_cons_of_mem _ hq)
    rw [List.map_cons, List.sum_cons, List.length_cons, Nat.mul_add]
    omega
theorem joinL_len : ∀ (l : List (List Nat)), (l.map (·.length)).sum + l.length ≤ (TL.joinL [32] l).length + 1
  | [] => Nat.zero_le _
  | [p] => by
    show (p.length + 0) + 1 ≤ p.length + 1
    omega
  | p :: q :: r => by
    have ih := joinL_len (q :: r)
    show (p.length + ((q :: r).map (·.length)).sum) + ((q :: r).length + 1) ≤ (p ++ ([32] ++ TL.joinL [32] (q :: r))).length + 1
    rw [List.length_append, List.length_append]
    show _ ≤ p.length + (1 + (TL.joinL [32] (q :: r)).length) + 1
    omega
theorem ws_sum (t : Str) : ((ws t).map (·.length)).sum + (ws t).length * 1 ≤ t.length + 1 := by
  have h := joinL_len ((ws t).map tl)
  rw [tl_ws, List.map_map, List.length_map, ← len_tl] at h
  rw [show (ws t).map (·.length) = (ws t).map ((·.length) ∘ tl) from List.map_congr_left fun x _ => len_tl x]
  omega
theorem ok_told (D : Def K mg "told_parting" s_told_parting) (RW : Has P w K mg base 2 "read_within" ["text", "low", "high"] spWithin) (RG : Has P w K mg base 3 "read_gates" ["text"] (spReadGates K)) (PA : Has P w K mg base 6 "parting" ["coins", "one", "other"] (spParting K)) :
    Has P w K mg base 7 "told_parting" ["words"] spTold := by
  refine has_of D scTold (fun vs H Q E h => ?_) (fun _ _ _ _ _ _ us hl => match us, hl with | [_], _ => rfl) (fun f cdv A outer s H vs Q E hr h => ?_)
  · obtain ⟨a, n, one, other, rfl, _⟩ := h
    rfl
  · obtain ⟨a, n, one, other, rfl, hA, hn1, hn6, hok1, hok2, hl1, hl2, q⟩ := h
    refine ⟨_, pss_cons (ps_set (i := 1) scTold.nd rfl (.inl rfl) (pe_h RW hr (by decide) (by rfl) (pa_cons (pe_ix ix_list (pv 0) pe_int (fun _ _ => rfl)) (pa_cons pe_int (pa_cons pe_int pa_nil)))))
      (pss_cons (ps_set (i := 2) scTold.nd rfl (.inl rfl) (pe_op op_add pe_int (pe_bm PySem.F.plainAttrs_list PySem.F.slot_list_index PySem.F.type_list_index mt_index (pe_slice sl_list (pv 0) (po_some pe_int) po_none) (pa_cons pe_str pa_nil))))
      (pss_cons (ps_set (i := 3) scTold.nd rfl (.inl rfl) (pe_h RG hr (by decide) (by rfl) (pa_cons (pe_join pe_str (pe_slice sl_list (pv 0) (po_some pe_int) (po_some (pv 2)))) pa_nil)))
      (pss_cons (ps_set (i := 4) scTold.nd rfl (.inl rfl) (pe_h RG hr (by decide) (by rfl) (pa_cons (pe_join pe_str (pe_slice sl_list (pv 0) (po_some (pe_op op_add (pv 2) pe_int)) po_none)) pa_nil)))
      (pss_cons (ps_set (i := 5) scTold.nd rfl (.inl rfl) (pe_h PA hr (by decide) (by rfl) (pa_cons (pv 1) (pa_cons (pv 3) (pa_cons (pv 4) pa_nil)))))
      (pss_cons (ps_if (pt_cmpR op_isN (pv 5) pe_non (nomark _)) (pss_one (ps_ret pe_str)) pss_nil)
      (pss_one (ps_ret (pv 5)))))))), ?_⟩
    have hl := lw_len n (gstext one) (gstext other)
    have hp1 := ws_pos (gstext one)
    have hp2 := ws_pos (gstext other)
    have hs := lw_slash n (gstext one) (gstext other)
    have e2 := lw_2 n (gstext one) (gstext other)
    have e3 := lw_3 n (gstext one) (gstext other)
    have hno := no_slash (gs := one) (n := n) (by omega) hok1
    have g1 := gstext_len (n := n) (by omega) hok1
    have g2 := gstext_len (n := n) (by omega) hok2
    have w1 := ws_sum (gstext one)
    have w2 := ws_sum (gstext other)
    have hL1 : (lwords n (gstext one) (gstext other))[1]? = some (num n) := rfl
    have hLs : ∀ m, m < (ws (gstext one)).length - 1 → ∃ p ∈ ws (gstext one), (lwords n (gstext one) (gstext other))[m + 3]? = some p := by
      intro m hm
      have hlt : m + 1 < (ws (gstext one)).length := by omega
      refine ⟨(ws (gstext one))[m + 1], List.getElem_mem hlt, ?_⟩
      show ((ws (gstext one)) ++ ("/" : Str) :: ws (gstext other))[m + 1]? = _
      rw [List.getElem?_append_left hlt, List.getElem?_eq_getElem hlt]
    generalize lwords n (gstext one) (gstext other) = L at *
    refine ⟨_, rfl, a, _, _, .str (num n), rfl, rfl, SqL.of hA, atI_nat (j := 1) (by rw [List.getElem?_map, hL1]; rfl), n, 1, 6, rfl, by omega, hn1, hn6, ?_⟩
    -- at
    refine ⟨_, rfl, 3, rfl, a, _, rfl, SqL.of hA, fun p np => ?_⟩
    have ec : cutV (L.map V.str) (some 3) none = (L.drop 3).map V.str := by
      rw [List.map_drop]
      exact cut_from _ (i := 3) (by rw [List.length_map]; omega)
    rw [ec]
    have s1 : Same H (upd H p (.lst ((L.drop 3).map V.str))) := same_upd np
    have hp : (upd H p (.lst ((L.drop 3).map V.str))) p = some (.lst ((L.drop 3).map V.str)) := upd_same
    generalize upd H p (.lst ((L.drop 3).map V.str)) = H1 at s1 hp
    refine ⟨.inl ⟨rfl, _, SqL.of hp⟩, p, _, _, (ws (gstext one)).length - 1, .str "/", rfl, rfl, SqL.of hp, rfl, strs_flat _, ?_, ?_, ?_, _, _, rfl, rfl, ?_⟩
    · rw [List.getElem?_map, List.getElem?_drop, show 3 + ((ws (gstext one)).length - 1) = (ws (gstext one)).length + 2 by omega, hs]
      rfl
    · rw [eqV_str]
      exact decide_eq_true rfl
    · intro m z' hm hz
      obtain ⟨r, hr1, hr2⟩ := hLs m hm
      rw [List.getElem?_map, List.getElem?_drop, Nat.add_comm 3 m, hr2] at hz
      have ez : V.str r = z' := Option.some.inj hz
      rw [← ez, eqV_str]
      exact decide_eq_false fun e => hno (e ▸ hr1)
    have eat : (3 : Int) + (((ws (gstext one)).length - 1 : Nat) : Int) = (((ws (gstext one)).length + 2 : Nat) : Int) := by omega
    -- one
    refine ⟨⟨_, rfl⟩, _, rfl, 2, rfl, _, rfl, (((ws (gstext one)).length + 2 : Nat) : Int), congrArg V.int eat, a, _, rfl, SqL.of (s1 _ _ hA), fun p2 n2 => ?_⟩
    have ec2 : cutV (L.map V.str) (some 2) (some (((ws (gstext one)).length + 2 : Nat) : Int)) = (ws (gstext one)).map V.str := by
      have e := cut_nat (L.map V.str) (i := 2) (j := (ws (gstext one)).length + 2) (by omega) (by rw [List.length_map]; omega)
      rw [Nat.add_sub_cancel] at e
      rw [← e2, List.map_take, List.map_drop]
      rw [e2]
      exact e
    rw [ec2]
    have s2 : Same H1 (upd H1 p2 (.lst ((ws (gstext one)).map V.str))) := same_upd n2
    have hq2 : (upd H1 p2 (.lst ((ws (gstext one)).map V.str))) p2 = some (.lst ((ws (gstext one)).map V.str)) := upd_same
    generalize upd H1 p2 (.lst ((ws (gstext one)).map V.str)) = H2 at s2 hq2
    refine ⟨_, p2, ws (gstext one), rfl, rfl, .inl (SqL.of hq2), ?_, n, one, ?_, by omega, hok1, hl1, fun H3 a1 s3 hG1 => ?_⟩
    · rw [show (" " : Str).length = 1 by decide +kernel]
      omega
    · rw [ws_join]
      rfl
    -- other
    refine ⟨⟨_, rfl⟩, _, rfl, _, rfl, _, _, rfl, rfl, (((ws (gstext one)).length + 3 : Nat) : Int), ?_, a, _, rfl, SqL.of (s3 _ _ (s2 _ _ (s1 _ _ hA))), fun p4 n4 => ?_⟩
    · show V.int _ = V.int _
      congr 1
      omega
    have ec3 : cutV (L.map V.str) (some (((ws (gstext one)).length + 3 : Nat) : Int)) none = (ws (gstext other)).map V.str := by
      rw [cut_from _ (by rw [List.length_map]; omega), ← List.map_drop, e3]
    rw [ec3]
    have s4 : Same H3 (upd H3 p4 (.lst ((ws (gstext other)).map V.str))) := same_upd n4
    have hq4 : (upd H3 p4 (.lst ((ws (gstext other)).map V.str))) p4 = some (.lst ((ws (gstext other)).map V.str)) := upd_same
    generalize upd H3 p4 (.lst ((ws (gstext other)).map V.str)) = H4 at s4 hq4
    refine ⟨_, p4, ws (gstext other), rfl, rfl, .inl (SqL.of hq4), ?_, n, other, ?_, by omega, hok2, hl2, fun H5 a2 s5 hG2 => ?_⟩
    · rw [show (" " : Str).length = 1 by decide +kernel]
      omega
    · rw [ws_join]
      rfl
    -- parting
    refine ⟨_, rfl, _, rfl, _, rfl, n, a1, a2, one, other, rfl, LsAt.mono GT.mono (s4.trans s5) hG1, hG2, hok1, hok2, hn6, hl1, hl2, fun H6 s6 => ?_⟩
    have z := q H6 ((((s1.trans s2).trans s3).trans s4).trans (s5.trans s6))
    unfold answer at z
    cases e : parting n one other with
    | none =>
      rw [e] at z
      exact ⟨_, rfl, rfl, _, rfl, ifT (decide_eq_true rfl) z⟩
    | some bs =>
      rw [e] at z
      exact ⟨_, rfl, rfl, _, rfl, ifF (decide_eq_false fun y => by cases y) ⟨_, rfl, z⟩⟩
abbrev deskC (K : PySem.W.Frag) : Addr := He.ga K "Desk"
def spSay : Sp := fun vs H Q _ => ∃ (o : Addr) (n : Nat) (one other : List G), vs = [.ref o, .str (line n (gstext one) (gstext other))] ∧ 1 ≤ n ∧ n ≤ 6 ∧ okAll n one ∧ okAll n other ∧ one.length ≤ 200 ∧ other.length ≤ 200 ∧
  ∀ H', Same H H' → Q (.str (answer n one other)) H'
theorem scSay : FnScope ["self", "line", "words"] ["self", "line"] (defScope s_Desk_say) := ⟨rfl, rfl, rfl, by decide +kernel, rfl, by decide +kernel, by decide +kernel⟩
theorem ok_say (D : DefM K (deskC K) "say" "Desk.say" s_Desk_say) (KN : Has P w K mg base 1 "is_known" ["words"] spKnown) (TP : Has P w K mg base 7 "told_parting" ["words"] spTold) : HasM P w K mg base 8 (deskC K) "say" ["self", "line"] spSay := by
  refine hasM_of D scSay (fun vs H Q E h => ?_) (fun _ _ _ _ _ _ us hl => match us, hl with | [_, _], _ => rfl) (fun f cdv A outer s H vs Q E hr h => ?_)
  · obtain ⟨o, n, one, other, rfl, _⟩ := h
    rfl
  · obtain ⟨o, n, one, other, rfl, hn1, hn6, hok1, hok2, hl1, hl2, q⟩ := h
    refine ⟨_, pss_cons (ps_set (i := 2) scSay.nd rfl (.inl rfl) (pe_split (pv 1) pe_str))
      (pss_cons (ps_if (pt_not (pt_val (pe_h KN hr (by decide) (by rfl) (pa_cons (pv 2) pa_nil)))) (pss_one ps_never) pss_nil)
      (pss_cons (ps_if (pt_cmpR op_eq (pe_ix ix_list (pv 2) pe_int (fun _ _ => rfl)) pe_str (nomark _)) pss_never pss_nil)
      (pss_cons (ps_if (pt_cmpR op_eq (pe_ix ix_list (pv 2) pe_int (fun _ _ => rfl)) pe_str (nomark _)) pss_never pss_nil)
      (pss_cons (ps_if (pt_cmpR op_eq (pe_ix ix_list (pv 2) pe_int (fun _ _ => rfl)) pe_str (nomark _)) (pss_one (ps_ret (pe_h TP hr (by decide) (by rfl) (pa_cons (pv 2) pa_nil)))) pss_nil) pss_never)))), ?_⟩
    have g1 := gstext_len (n := n) (by omega) hok1
    have g2 := gstext_len (n := n) (by omega) hok2
    have hz : (line n (gstext one) (gstext other)).length + 2 ≤ sizeLine := by
      rw [line_len (by omega)]
      exact Nat.le_trans (show _ ≤ 9212 by omega) (by decide)
    refine ⟨_, rfl, ⟨_, rfl⟩, _, _, rfl, rfl, by decide +kernel, hz, fun p np => ?_⟩
    rw [show Txt.split (line n (gstext one) (gstext other)) (" " : Str) = lwords n (gstext one) (gstext other) from line_split (by omega) _ _]
    have s1 : Same H (upd H p (.lst ((lwords n (gstext one) (gstext other)).map V.str))) := same_upd np
    have hp : (upd H p (.lst ((lwords n (gstext one) (gstext other)).map V.str))) p = some (.lst ((lwords n (gstext one) (gstext other)).map V.str)) := upd_same
    generalize upd H p (.lst ((lwords n (gstext one) (gstext other)).map V.str)) = H1 at s1 hp
    refine ⟨_, rfl, p, n, _, _, rfl, hp, fun H2 s2 => ⟨true, rfl, ifF rfl ?_⟩⟩
    have hp2 := s2 _ _ hp
    refine ⟨_, rfl, p, _, _, _, rfl, rfl, SqL.of hp2, atI_nat (j := 0) rfl, rfl, _, rfl, ifF (show decide (V.str ("part" : Str) = V.str ("coins" : Str)) = false by decide +kernel) ?_⟩
    refine ⟨_, rfl, p, _, _, _, rfl, rfl, SqL.of hp2, atI_nat (j := 0) rfl, rfl, _, rfl, ifF (show decide (V.str ("part" : Str) = V.str ("drop" : Str)) = false by decide +kernel) ?_⟩
    refine ⟨_, rfl, p, _, _, _, rfl, rfl, SqL.of hp2, atI_nat (j := 0) rfl, rfl, _, rfl, ifT (show decide (V.str ("part" : Str) = V.str ("part" : Str)) = true by decide +kernel) ?_⟩
    exact ⟨_, rfl, p, n, one, other, rfl, hp2, hn1, hn6, hok1, hok2, hl1, hl2, fun H3 s3 => q H3 ((s1.trans s2).trans s3)⟩
def spDInit (C : Addr) : Sp := fun vs H Q _ => ∃ (x dx : Addr), vs = [.ref x] ∧ H x = some (.ins C dx []) ∧ ∀ (H' : Hp) (d : Addr), (∀ b o, b ≠ x → H b = some o → H' b = some o) → H' x = some (.ins C dx (putF "kept" (.ref d) [])) → Q .non H'
theorem scDInit : FnScope ["self"] ["self"] (defScope s_Desk_init) := ⟨rfl, rfl, rfl, by decide +kernel, rfl, by decide +kernel, by decide +kernel⟩
theorem ok_dmake {f : Addr} {fd : FuncData} (F : FnP K "__init__" "Desk.__init__" s_Desk_init f fd) (cl : Cls K (deskC K)) (nk : NoAttr K (deskC K) "kept") (M : Mk K (deskC K) f) (hm : mg "Desk" = some (.ref (deskC K))) :
    HasC P w K mg base 1 "Desk" (deskC K) ["self"] (spDInit (deskC K)) := by
  refine ⟨f, fd, M, ?_, hm, FunD.bindsN F fun _ _ _ _ _ _ us hl => match us, hl with | [_], _ => rfl⟩
  refine fn_ok F scDInit (fun vs H Q E h => ?_) (fun cdv A outer s H vs Q E hr h => ?_)
  · obtain ⟨x, dx, rfl, _⟩ := h
    rfl
  · obtain ⟨x, dx, rfl, hx, q⟩ := h
    refine ⟨_, pss_one (ps_fld (pv 0) pe_dnewK rfl), ?_⟩
    intro d hd
    have nxd : x ≠ d := ne_of_none hx hd
    refine ⟨_, rfl, x, _, dx, _, rfl, (by rw [upd_ne nxd]; exact hx), cl, nk, (by show 0 < 1000; decide), ?_⟩
    exact q _ d (fun b o hb e => by rw [upd_ne hb, upd_ne (ne_of_none e hd)]; exact e) upd_same
end
end TC
set_option Elab.async false
set_option linter.all false
set_option maxRecDepth 100000
set_option maxHeartbeats 4000000
/-! Turncoins, the law's own defs: a bit, a drawn gate, a list made by a gate. -/
namespace TC
open PySem PySem.Spec PyProof.Rows L2
/-! ### bits as sums -/
theorem and_two (p c : Nat) : p &&& 2 ^ c = fl (p.testBit c) c := by
  apply Nat.eq_of_testBit_eq
  intro i
  rw [Nat.testBit_and, tb_p, tb_fl]
  by_cases h : c = i
  · subst h
    rfl
  · rw [decide_eq_false h, Bool.and_false, Bool.and_false]
theorem xor_set {p c : Nat} (h : p.testBit c = true) : (p ^^^ 2 ^ c) + 2 ^ c = p := by
  have e := Bits.nat_xor_add_and p (2 ^ c)
  rw [and_two, h, fl_t] at e
  omega
theorem xor_clear {p c : Nat} (h : p.testBit c = false) : (p ^^^ 2 ^ c) = p + 2 ^ c := by
  have e := Bits.nat_xor_add_and p (2 ^ c)
  rw [and_two, h, fl_f] at e
  omega
theorem or_bit (p c : Nat) : p ||| 2 ^ c = if p.testBit c then p else p ^^^ 2 ^ c := by
  apply Nat.eq_of_testBit_eq
  intro i
  rw [Nat.testBit_or, tb_p]
  by_cases h : c = i
  · subst h
    cases q : p.testBit c
    · simp [tb_x, tb_p, q]
    · simp [q]
  · cases q : p.testBit c <;> simp [tb_x, tb_p, q, h]
theorem two_lt {c n : Nat} (h : c < n) : 2 ^ c < 2 ^ n := Nat.pow_lt_pow_right (by decide) h
theorem cast_two (c : Nat) : (2 : Int) ^ c = ((2 ^ c : Nat) : Int) := by
  rw [Int.natCast_pow]
  rfl
section
variable {P : Program} {w : World} {K : PySem.W.Frag} {mg : Str → Option Value} {base : Heap}
theorem scLBit : FnScope ["_law_number", "_law_coin"] ["_law_number", "_law_coin"] (defScope s__law_bit) := ⟨rfl, rfl, rfl, by decide +kernel, rfl, by decide +kernel, by decide +kernel⟩
theorem ok_lbit (D : Def K mg "_law_bit" s__law_bit) : Has P w K mg base 1 "_law_bit" ["_law_number", "_law_coin"] spBit := by
  refine has_of D scLBit (fun vs H Q E h => ?_) (fun _ _ _ _ _ _ us hl => match us, hl with | [_, _], _ => rfl) (fun f cdv A outer s H vs Q E hr h => ?_)
  · obtain ⟨n, c, rfl, _⟩ := h
    rfl
  · obtain ⟨n, c, rfl, q⟩ := h
    refine ⟨_, pss_one (ps_ret (pe_op op_bit (pe_op op_shr (pv 0) (pv 1)) pe_int)), ?_⟩
    exact ⟨_, rfl, _, rfl, _, _, rfl, rfl, Int.natCast_nonneg _, n, c, rfl, rfl, q⟩
/-! ### a drawn gate -/
def spLGate (K : PySem.W.Frag) : Sp := fun vs H Q _ => ∃ (z : Int) (n : Nat), vs = [.int z, .int (n : Int)] ∧ 1 ≤ n ∧ n ≤ 6 ∧ ∀ H' v g, Same H H' → g.ok n → GT K H' v g → Q v H'
def k3 (k c : Nat) : G := match k with
  | 0 => .mix c
  | 1 => .flip c
  | _ => .sign c
def k6 (k c d : Nat) : G := match k with
  | 3 => .follow c d
  | 4 => .meet c d
  | _ => .swap c d
def wlist : List V := [.str "mix", .str "flip", .str "sign", .str "follow", .str "meet", .str "swap"]
theorem w3 {k : Nat} (h : k < 3) (c : Nat) : wlist[k]? = some (.str (W (k3 k c))) ∧ gtup (k3 k c) = [.str (W (k3 k c)), .int (c : Int)] ∧ (∀ n, c < n → (k3 k c).ok n) := by
  match k, h with
  | 0, _ => exact ⟨rfl, rfl, fun _ h => h⟩
  | 1, _ => exact ⟨rfl, rfl, fun _ h => h⟩
  | 2, _ => exact ⟨rfl, rfl, fun _ h => h⟩
theorem w6' {k : Nat} (h0 : 3 ≤ k) (h : k < 6) (c d : Nat) : wlist[k]? = some (.str (W (k6 k c d))) ∧ gtup (k6 k c d) = [.str (W (k6 k c d)), .int (c : Int), .int (d : Int)] ∧ (∀ n, c < n → d < n → c ≠ d → (k6 k c d).ok n) := by
  match k, h0, h with
  | 3, _, _ => exact ⟨rfl, rfl, fun _ h1 h2 h3 => ⟨h1, h2, h3⟩⟩
  | 4, _, _ => exact ⟨rfl, rfl, fun _ h1 h2 h3 => ⟨h1, h2, h3⟩⟩
  | 5, _, _ => exact ⟨rfl, rfl, fun _ h1 h2 h3 => ⟨h1, h2, h3⟩⟩
theorem emod_nat (z : Int) {m : Nat} (h : 0 < m) : ∃ k : Nat, z % (m : Int) = (k : Int) ∧ k < m := by
  have h1 := Int.emod_nonneg z (b := (m : Int)) (by omega)
  have h2 := Int.emod_lt_of_pos z (b := (m : Int)) (by omega)
  exact ⟨(z % (m : Int)).toNat, by omega, by omega⟩
theorem scLGate : FnScope ["_law_cell_here", "_law_coins", "_law_words", "_law_word", "_law_first"] ["_law_cell_here", "_law_coins"] (defScope s__law_gate) := ⟨rfl, rfl, rfl, by decide +kernel, rfl, by decide +kernel, by decide +kernel⟩
theorem ok_lgate (D : Def K mg "_law_gate" s__law_gate) : Has P w K mg base 1 "_law_gate" ["_law_cell_here", "_law_coins"] (spLGate K) := by
  refine has_of D scLGate (fun vs H Q E h => ?_) (fun _ _ _ _ _ _ us hl => match us, hl with | [_, _], _ => rfl) (fun f cdv A outer s H vs Q E hr h => ?_)
  · obtain ⟨z, n, rfl, _⟩ := h
    rfl
  · obtain ⟨z, n, rfl, hn1, hn6, q⟩ := h
    refine ⟨_, pss_cons (ps_set (i := 2) scLGate.nd rfl (.inl rfl) (pe_lst (pa_cons pe_str (pa_cons pe_str (pa_cons pe_str (pa_cons pe_str (pa_cons pe_str (pa_cons pe_str pa_nil))))))))
      (pss_cons (ps_if (pt_cmpR op_eq (pv 1) pe_int (nomark _)) (pss_one (ps_ret (pe_tup (pa_cons (pe_ix ix_list (pv 2) (pe_op op_mod (pv 0) pe_int) (fun _ _ => rfl)) (pa_cons pe_int pa_nil))))) pss_nil)
      (pss_cons (ps_set (i := 3) scLGate.nd rfl (.inl rfl) (pe_ix ix_list (pv 2) (pe_op op_mod (pv 0) pe_int) (fun _ _ => rfl)))
      (pss_cons (ps_set (i := 4) scLGate.nd rfl (.inl rfl) (pe_op op_mod (pe_op op_fdiv (pv 0) pe_int) (pv 1)))
      (pss_cons (ps_if (pt_cmpR op_lt (pe_op op_mod (pv 0) pe_int) pe_int (nomark _)) (pss_one (ps_ret (pe_tup (pa_cons (pv 3) (pa_cons (pv 4) pa_nil))))) pss_nil)
      (pss_one (ps_ret (pe_tup (pa_cons (pv 3) (pa_cons (pv 4) (pa_cons (pe_op op_mod (pe_op op_add (pe_op op_add (pv 4) pe_int) (pe_op op_mod (pe_op op_fdiv (pv 0) pe_int) (pe_op op_sub (pv 1) pe_int))) (pv 1)) pa_nil)))))))))), ?_⟩
    refine ⟨(by show 6 ≤ sizeLine; decide), fun p np => ?_⟩
    have s1 : Same H (upd H p (.lst wlist)) := same_upd np
    have hp : (upd H p (.lst wlist)) p = some (.lst wlist) := upd_same
    show _
    change (_ : Prop)
    refine ⟨_, rfl, rfl, _, rfl, ?_⟩
    by_cases h1 : n = 1
    · refine ifT (decide_eq_true (by rw [h1]; rfl)) ?_
      obtain ⟨k, ek, hk⟩ := emod_nat z (m := 3) (by decide)
      obtain ⟨e1, e2, e3⟩ := w3 hk 0
      refine ⟨_, rfl, _, rfl, _, _, rfl, rfl, (by show (0 : Int) < 3; decide), p, wlist, _, _, rfl, rfl, SqL.of hp, at_of ek e1, (by show 2 ≤ sizeLine; decide), fun p2 n2 => ?_⟩
      refine q _ _ _ (s1.trans (same_upd n2)) (e3 n (by omega)) ⟨p2, rfl, ?_⟩
      rw [e2]
      exact SqT.of upd_same
    · refine ifF (decide_eq_false fun e => h1 (by have := V.int.inj e; omega)) ?_
      obtain ⟨k, ek, hk⟩ := emod_nat z (m := 6) (by decide)
      obtain ⟨c, ec, hc⟩ := emod_nat (z / 6) (m := n) (by omega)
      by_cases h3 : k < 3
      · obtain ⟨e1, e2, e3⟩ := w3 h3 c
        refine ⟨_, rfl, _, rfl, _, _, rfl, rfl, (by show (0 : Int) < 6; decide), p, wlist, _, _, rfl, rfl, SqL.of hp, at_of ek e1, ?_⟩
        refine ⟨_, rfl, _, _, rfl, rfl, ⟨by decide, by decide⟩, _, rfl, _, _, rfl, rfl, (by show (0 : Int) < (n : Int); omega), ?_⟩
        refine ⟨_, rfl, _, _, rfl, rfl, (by show (0 : Int) < 6; decide), _, _, rfl, rfl, _, rfl, ifT (decide_eq_true (by omega)) ?_⟩
        refine ⟨_, rfl, _, rfl, (by show 2 ≤ sizeLine; decide), fun p2 n2 => ?_⟩
        refine q _ _ _ (s1.trans (same_upd n2)) (e3 n hc) ⟨p2, rfl, ?_⟩
        rw [e2, ← ec]
        exact SqT.of upd_same
      · obtain ⟨m, em, hm⟩ := emod_nat (z / 36) (m := n - 1) (by omega)
        have em' : z / 36 % ((n : Int) - 1) = (m : Int) := by
          rw [← em]
          congr 1
          omega
        obtain ⟨d, ed, hd⟩ := emod_nat ((c : Int) + 1 + (m : Int)) (m := n) (by omega)
        have hne : c ≠ d := by
          intro e
          by_cases hlt : c + 1 + m < n
          · rw [Int.emod_eq_of_lt (by omega) (by omega)] at ed
            omega
          · have e4 : ((c : Int) + 1 + (m : Int)) % (n : Int) = (c : Int) + 1 + (m : Int) - (n : Int) := by
              rw [← Int.sub_emod_right, Int.emod_eq_of_lt (by omega) (by omega)]
            rw [e4] at ed
            omega
        obtain ⟨e1, e2, e3⟩ := w6' (by omega) hk c d
        refine ⟨_, rfl, _, rfl, _, _, rfl, rfl, (by show (0 : Int) < 6; decide), p, wlist, _, _, rfl, rfl, SqL.of hp, at_of ek e1, ?_⟩
        refine ⟨_, rfl, _, _, rfl, rfl, ⟨by decide, by decide⟩, _, rfl, _, _, rfl, rfl, (by show (0 : Int) < (n : Int); omega), ?_⟩
        refine ⟨_, rfl, _, _, rfl, rfl, (by show (0 : Int) < 6; decide), _, _, rfl, rfl, _, rfl, ifF (decide_eq_false (by omega)) ?_⟩
        refine ⟨_, rfl, _, rfl, _, rfl, _, _, rfl, rfl, _, rfl, _, _, rfl, rfl, ⟨by decide, by decide⟩, _, rfl, _, _, rfl, rfl, _, _, rfl, rfl, (by show (0 : Int) < (n : Int) - 1; omega), _, _, rfl, rfl, _, rfl, _, _, rfl, rfl, (by show (0 : Int) < (n : Int); omega), (by show 3 ≤ sizeLine; decide), fun p2 n2 => ?_⟩
        refine q _ _ _ (s1.trans (same_upd n2)) (e3 n hc hd hne) ⟨p2, rfl, ?_⟩
        rw [e2]
        have eh : (upd (upd H p (.lst wlist)) p2 (.tup [.str (W (k6 k c d)), .int (z / 6 % (n : Int)), .int ((z / 6 % (n : Int) + 1 + z / 36 % ((n : Int) - 1)) % (n : Int))])) p2 = some (.tup [.str (W (k6 k c d)), .int (c : Int), .int (d : Int)]) := by
          rw [upd_same, ec, em', ed]
        exact SqT.of eh
end
end TC
set_option Elab.async false
set_option linter.all false
set_option maxRecDepth 100000
set_option maxHeartbeats 8000000
/-! Turncoins: a list made by a gate (printed by gen_made.py). -/
namespace TC
open PySem PySem.Spec PyProof.Rows L2
section
variable {P : Program} {w : World} {K : PySem.W.Frag} {mg : Str → Option Value} {base : Heap}
/-! ### a list made by a gate, as the law reckons it -/
theorem lmap {l : List Int} {j : Nat} (h : j < l.length) : (l.map V.int)[j]? = some (.int (fnOf l j)) := by
  rw [List.getElem?_map, List.getElem?_eq_getElem h, fnOf_eq (List.getElem?_eq_getElem h)]
  rfl
theorem sg_bd (b : Bool) : -(2 ^ 64) < sg b ∧ sg b < 2 ^ 64 := by cases b <;> decide
theorem op_sg2 {X : Cx} : OpR X (binaryOp .Sub) (fun x y H Q => ∃ a b : Bool, x = .int 1 ∧ y = .int (2 * bi a * bi b) ∧ Q (.int (sg (a && b))) H) := fun pins s σ H x y v u Q I rx ry ⟨a, b, e1, e2, q⟩ =>
  op_sub pins s σ H x y v u Q I rx ry ⟨_, _, e1, e2, by
    show Q (.int (1 - 2 * bi a * bi b)) H
    rw [show (1 : Int) - 2 * bi a * bi b = sg (a && b) by cases a <;> cases b <;> rfl]
    exact q⟩
theorem ixMix (i c : Nat) : (i : Int) - ((fl (i.testBit c) c : Nat) : Int) = ((i ^^^ fl (i.testBit c) c : Nat) : Int) := by
  cases h : i.testBit c
  · rw [fl_f, Nat.xor_zero]
    omega
  · have := xor_set h
    rw [fl_t]
    omega
theorem ixFlip (i c : Nat) : (i : Int) + sg (i.testBit c) * 2 ^ (c : Int).toNat = ((i ^^^ 2 ^ c : Nat) : Int) := by
  rw [Int.toNat_natCast, cast_two]
  cases h : i.testBit c
  · have := xor_clear h
    rw [show sg false = 1 from rfl]
    omega
  · have := xor_set h
    rw [show sg true = -1 from rfl]
    omega
theorem ixFollow (i c d : Nat) : (i : Int) + bi (i.testBit c) * (sg (i.testBit d) * 2 ^ (d : Int).toNat) = ((i ^^^ fl (i.testBit c) d : Nat) : Int) := by
  cases h : i.testBit c
  · rw [show bi false = 0 from rfl, Int.zero_mul, fl_f, Nat.xor_zero]
    omega
  · rw [show bi true = 1 from rfl, Int.one_mul, fl_t]
    exact ixFlip i d
theorem ixSwap (i : Nat) {c d : Nat} (h : c ≠ d) : (i : Int) + (bi (i.testBit d) - bi (i.testBit c)) * 2 ^ (c : Int).toNat - (bi (i.testBit d) - bi (i.testBit c)) * 2 ^ (d : Int).toNat = ((chg c d i : Nat) : Int) := by
  rw [Int.toNat_natCast, Int.toNat_natCast, cast_two, cast_two]
  unfold chg
  cases hc : i.testBit c <;> cases hd : i.testBit d
  · simp [fl, bi]
  · have e1 := xor_clear hc
    have hd2 : (i ^^^ 2 ^ c).testBit d = true := by rw [tb_x, tb_p, hd, decide_eq_false h]; rfl
    have e2 := xor_set hd2
    show (i : Int) + (1 - 0) * _ - (1 - 0) * _ = ((i ^^^ 2 ^ c ^^^ 2 ^ d : Nat) : Int)
    omega
  · have e1 := xor_set hc
    have hd2 : (i ^^^ 2 ^ c).testBit d = false := by rw [tb_x, tb_p, hd, decide_eq_false h]; rfl
    have e2 := xor_clear hd2
    show (i : Int) + (0 - 1) * _ - (0 - 1) * _ = ((i ^^^ 2 ^ c ^^^ 2 ^ d : Nat) : Int)
    omega
  · simp [fl, bi]
theorem madeMix (i c : Nat) (f : Nat → Int) : f (i ^^^ fl (i.testBit c) c) + sg (i.testBit c) * f (i ||| 2 ^ c) = U (.mix c) f i := by
  show _ = f (i ^^^ 2 ^ c) + sg (i.testBit c) * f i
  rw [or_bit]
  cases h : i.testBit c
  · rw [fl_f, Nat.xor_zero, if_neg Bool.false_ne_true, show sg false = 1 from rfl, Int.one_mul, Int.one_mul, Int.add_comm]
  · rw [fl_t, if_pos rfl]
def spMade (K : PySem.W.Frag) : Sp := fun vs H Q _ => ∃ (a ga : Addr) (l : List Int) (g : G) (n : Nat), vs = [.ref a, .ref ga] ∧ H a = some (.lst (l.map V.int)) ∧ SqT K H ga (gtup g) ∧ g.ok n ∧ n ≤ 6 ∧ l.length = 2 ^ n ∧
  ∀ H' p, Same H H' → H' p = some (.lst ((madeL g l).map V.int)) → Q (.ref p) H'
theorem scMade : FnScope ["_law_numbers", "_law_gate_here", "_law_found", "_law_one", "_law_other", "_law_place", "_law_here", "_law_there", "_law_face", "_law_back", "_law_unlike"] ["_law_numbers", "_law_gate_here"] (defScope s__law_made) := ⟨rfl, rfl, rfl, by decide +kernel, rfl, by decide +kernel, by decide +kernel⟩
theorem ok_made (D : Def K mg "_law_made" s__law_made) (T : Free mg) (LB : Has P w K mg base 1 "_law_bit" ["_law_number", "_law_coin"] spBit) : Has P w K mg base 2 "_law_made" ["_law_numbers", "_law_gate_here"] (spMade K) := by
  refine has_of D scMade (fun vs H Q E h => ?_) (fun _ _ _ _ _ _ us hl => match us, hl with | [_, _], _ => rfl) (fun f cdv A outer s H vs Q E hr h => ?_)
  · obtain ⟨a, ga, l, g, n, rfl, _⟩ := h
    rfl
  · obtain ⟨a, ga, l, g, n, rfl, hA, hG, hok, h6, hl, q⟩ := h
    have h64 : 2 ^ n ≤ 64 := Nat.pow_le_pow_right (n := 2) (by decide) h6
    have hlm : (l.map V.int).length ≤ 64 := by rw [List.length_map, hl]; exact h64
    refine ⟨_, pss_cons (ps_set (i := 2) scMade.nd rfl (.inl rfl) (pe_lst pa_nil))
      (pss_cons (ps_set (i := 3) scMade.nd rfl (.inl rfl) (pe_ix ix_tup (pv 1) pe_int (fun _ _ => rfl)))
      (pss_cons (ps_set (i := 4) scMade.nd rfl (.inl rfl) (pe_ix ix_tup (pv 1) (pe_un un_neg pe_int) (fun _ _ => rfl)))
      (pss_cons (ps_for PassesOwn.never rfl (pi_range1 (by rfl) T.range (pa_cons (pe_callB call_len_seq (by rfl) T.len PySem.boot_len (pa_cons (pv 0) pa_nil)) pa_nil)) (pg_name (i := 5) scMade.nd rfl (.inl rfl))
        (pss_cons (ps_set (i := 6) scMade.nd rfl (.inl rfl) (pe_h LB hr (by decide) (by rfl) (pa_cons (pv 5) (pa_cons (pv 3) pa_nil)))) (pss_cons (ps_set (i := 7) scMade.nd rfl (.inl rfl) (pe_h LB hr (by decide) (by rfl) (pa_cons (pv 5) (pa_cons (pv 4) pa_nil))))
          (pss_cons (ps_if (pt_cmpR op_eq (pe_ix ix_tup (pv 1) pe_int (fun _ _ => rfl)) pe_str (nomark _)) (pss_cons (ps_set (i := 8) scMade.nd rfl (.inl rfl) (pe_ix ix_list (pv 0) (pe_op op_sub (pv 5) (pe_op op_shlB (pv 6) (pv 3))) (fun _ _ => rfl))) (pss_cons (ps_set (i := 9) scMade.nd rfl (.inl rfl) (pe_ix ix_list (pv 0) (pe_op op_orN (pv 5) (pe_op op_shl1 pe_int (pv 3))) (fun _ _ => rfl))) (pss_one (ps_expr (pe_bm PySem.F.plainAttrs_list PySem.F.slot_list_append PySem.F.type_list_append mt_append (pv 2) (pa_cons (pe_op op_add (pv 8) (pe_op op_mul (pe_op op_sg pe_int (pe_op op_mul pe_int (pv 6))) (pv 9))) pa_nil)))))) pss_nil)
          (pss_cons (ps_if (pt_cmpR op_eq (pe_ix ix_tup (pv 1) pe_int (fun _ _ => rfl)) pe_str (nomark _)) (pss_one (ps_expr (pe_bm PySem.F.plainAttrs_list PySem.F.slot_list_append PySem.F.type_list_append mt_append (pv 2) (pa_cons (pe_ix ix_list (pv 0) (pe_op op_add (pv 5) (pe_op op_shl (pe_op op_sg pe_int (pe_op op_mul pe_int (pv 6))) (pv 3))) (fun _ _ => rfl)) pa_nil)))) pss_nil)
          (pss_cons (ps_if (pt_cmpR op_eq (pe_ix ix_tup (pv 1) pe_int (fun _ _ => rfl)) pe_str (nomark _)) (pss_one (ps_expr (pe_bm PySem.F.plainAttrs_list PySem.F.slot_list_append PySem.F.type_list_append mt_append (pv 2) (pa_cons (pe_op op_mul (pe_op op_sg pe_int (pe_op op_mul pe_int (pv 6))) (pe_ix ix_list (pv 0) (pv 5) (fun _ _ => rfl))) pa_nil)))) pss_nil)
          (pss_cons (ps_if (pt_cmpR op_eq (pe_ix ix_tup (pv 1) pe_int (fun _ _ => rfl)) pe_str (nomark _)) (pss_one (ps_expr (pe_bm PySem.F.plainAttrs_list PySem.F.slot_list_append PySem.F.type_list_append mt_append (pv 2) (pa_cons (pe_ix ix_list (pv 0) (pe_op op_add (pv 5) (pe_op op_mul (pv 6) (pe_op op_shl (pe_op op_sg pe_int (pe_op op_mul pe_int (pv 7))) (pv 4)))) (fun _ _ => rfl)) pa_nil)))) pss_nil)
          (pss_cons (ps_if (pt_cmpR op_eq (pe_ix ix_tup (pv 1) pe_int (fun _ _ => rfl)) pe_str (nomark _)) (pss_one (ps_expr (pe_bm PySem.F.plainAttrs_list PySem.F.slot_list_append PySem.F.type_list_append mt_append (pv 2) (pa_cons (pe_op op_mul (pe_op op_sg2 pe_int (pe_op op_mul (pe_op op_mul pe_int (pv 6)) (pv 7))) (pe_ix ix_list (pv 0) (pv 5) (fun _ _ => rfl))) pa_nil)))) pss_nil)
          (pss_one (ps_if (pt_cmpR op_eq (pe_ix ix_tup (pv 1) pe_int (fun _ _ => rfl)) pe_str (nomark _)) (pss_cons (ps_set (i := 10) scMade.nd rfl (.inl rfl) (pe_op op_sub (pv 7) (pv 6))) (pss_one (ps_expr (pe_bm PySem.F.plainAttrs_list PySem.F.slot_list_append PySem.F.type_list_append mt_append (pv 2) (pa_cons (pe_ix ix_list (pv 0) (pe_op op_sub (pe_op op_add (pv 5) (pe_op op_shl (pv 10) (pv 3))) (pe_op op_shl (pv 10) (pv 4))) (fun _ _ => rfl)) pa_nil))))) pss_nil))))))))))
      (pss_one (ps_ret (pv 2)))))), ?_⟩
    refine ⟨Nat.zero_le _, fun Dd nD => ?_⟩
    cases g with
    | mix c =>
      have hc : c < n := hok
      have hG1 := Same.tup (same_upd (o := .lst []) nD) hG
      refine ⟨_, rfl, ga, _, _, _, rfl, rfl, hG1, atI_nat (j := 1) rfl, ?_⟩
      refine ⟨_, rfl, 1, rfl, ga, _, _, .int (c : Int), rfl, rfl, hG1, (show atI ([V.str (W (.mix c))] ++ [V.int (c : Int)]) (-1) = some (V.int (c : Int)) from atI_last _ _), ?_⟩
      refine ⟨_, rfl, a, _, rfl, .inl (SqL.of (same_upd (o := .lst []) nD _ _ hA)), ((l.map V.int).length : Int), rfl, by omega, by omega, ?_⟩
      refine for_range (lo := 0) (n := (l.map V.int).length) (fun i σ H' => ∃ v5 v6 v7 v8 v9 v10, σ = [some (.ref a), some (.ref ga), some (.ref Dd), some (.int (c : Int)), some (.int (c : Int)), v5, v6, v7, v8, v9, v10] ∧ Same H H' ∧ H' Dd = some (.lst (((madeL (.mix c) l).take i).map V.int)))
        ⟨none, none, none, none, none, none, rfl, same_upd nD, upd_same⟩ ?_ ?_
      · rintro i σ H' hi ⟨v5, v6, v7, v8, v9, v10, rfl, s1, hD⟩
        rw [List.length_map] at hi
        have hi2 : i < 2 ^ n := hl ▸ hi
        have hG2 := Same.tup s1 hG
        have lt : (((madeL (.mix c) l).take i).map V.int).length < sizeLine := small1000 (by rw [List.length_map, List.length_take]; omega)
        rw [Int.zero_add]
        refine ⟨_, rfl, _, rfl, i, c, rfl, ?_⟩
        refine ⟨_, rfl, _, rfl, i, c, rfl, ?_⟩
        refine ⟨_, rfl, ga, _, _, _, rfl, rfl, hG2, atI_nat (j := 0) rfl, rfl, _, rfl, ifT (show decide (V.str ("mix" : Str) = V.str ("mix" : Str)) = true by decide +kernel) ?_⟩
        have b1 : i ^^^ fl (i.testBit c) c < l.length := by rw [hl]; exact Nat.xor_lt_two_pow hi2 (fl_lt hc)
        have b2 : i ||| 2 ^ c < l.length := by rw [hl]; exact Nat.or_lt_two_pow hi2 (two_lt hc)
        refine ⟨_, rfl, _, rfl, _, rfl, _, rfl, _, c, rfl, rfl, by omega, _, _, rfl, rfl, a, l.map V.int, _, .int (fnOf l (i ^^^ fl (i.testBit c) c)), rfl, rfl, SqL.of (s1 _ _ hA), at_of (ixMix i c) (lmap b1), ?_⟩
        refine ⟨_, rfl, _, rfl, _, rfl, c, rfl, rfl, by omega, _, _, rfl, rfl, a, l.map V.int, _, .int (fnOf l (i ||| 2 ^ c)), rfl, rfl, SqL.of (s1 _ _ hA), at_of rfl (lmap b2), ?_⟩
        refine ⟨_, rfl, .inl ⟨rfl, _, SqL.of hD⟩, _, rfl, _, rfl, _, _, rfl, rfl, .inl (by decide), i.testBit c, rfl, rfl, _, rfl, _, _, rfl, rfl, .inl (sg_bd _), _, _, rfl, rfl, Dd, _, _, rfl, rfl, hD, lt, ?_⟩
        have hG3 := SqT.upd (o := .lst (((madeL (.mix c) l).take i).map V.int ++ [.int (fnOf l (i ^^^ fl (i.testBit c) c) + sg (i.testBit c) * fnOf l (i ||| 2 ^ c))])) hD hG2
        refine ⟨_, rfl, ga, _, _, _, rfl, rfl, hG3, atI_nat (j := 0) rfl, rfl, _, rfl, ifF (show decide (V.str ("mix" : Str) = V.str ("flip" : Str)) = false by decide +kernel) ?_⟩
        refine ⟨_, rfl, ga, _, _, _, rfl, rfl, hG3, atI_nat (j := 0) rfl, rfl, _, rfl, ifF (show decide (V.str ("mix" : Str) = V.str ("sign" : Str)) = false by decide +kernel) ?_⟩
        refine ⟨_, rfl, ga, _, _, _, rfl, rfl, hG3, atI_nat (j := 0) rfl, rfl, _, rfl, ifF (show decide (V.str ("mix" : Str) = V.str ("follow" : Str)) = false by decide +kernel) ?_⟩
        refine ⟨_, rfl, ga, _, _, _, rfl, rfl, hG3, atI_nat (j := 0) rfl, rfl, _, rfl, ifF (show decide (V.str ("mix" : Str) = V.str ("meet" : Str)) = false by decide +kernel) ?_⟩
        refine ⟨_, rfl, ga, _, _, _, rfl, rfl, hG3, atI_nat (j := 0) rfl, rfl, _, rfl, ifF (show decide (V.str ("mix" : Str) = V.str ("swap" : Str)) = false by decide +kernel) ?_⟩
        refine ⟨_, _, _, _, _, _, rfl, same_at nD s1, ?_⟩
        rw [upd_same, take_snoc (made_at hi), List.map_append, ← madeMix]
        rfl
      · rintro σ H' ⟨v5, v6, v7, v8, v9, v10, rfl, s1, hD⟩
        rw [List.length_map, ← len_made (.mix c) l, List.take_length] at hD
        exact ⟨_, rfl, q H' Dd s1 hD⟩
    | flip c =>
      have hc : c < n := hok
      have hG1 := Same.tup (same_upd (o := .lst []) nD) hG
      refine ⟨_, rfl, ga, _, _, _, rfl, rfl, hG1, atI_nat (j := 1) rfl, ?_⟩
      refine ⟨_, rfl, 1, rfl, ga, _, _, .int (c : Int), rfl, rfl, hG1, (show atI ([V.str (W (.flip c))] ++ [V.int (c : Int)]) (-1) = some (V.int (c : Int)) from atI_last _ _), ?_⟩
      refine ⟨_, rfl, a, _, rfl, .inl (SqL.of (same_upd (o := .lst []) nD _ _ hA)), ((l.map V.int).length : Int), rfl, by omega, by omega, ?_⟩
      refine for_range (lo := 0) (n := (l.map V.int).length) (fun i σ H' => ∃ v5 v6 v7 v8 v9 v10, σ = [some (.ref a), some (.ref ga), some (.ref Dd), some (.int (c : Int)), some (.int (c : Int)), v5, v6, v7, v8, v9, v10] ∧ Same H H' ∧ H' Dd = some (.lst (((madeL (.flip c) l).take i).map V.int)))
        ⟨none, none, none, none, none, none, rfl, same_upd nD, upd_same⟩ ?_ ?_
      · rintro i σ H' hi ⟨v5, v6, v7, v8, v9, v10, rfl, s1, hD⟩
        rw [List.length_map] at hi
        have hi2 : i < 2 ^ n := hl ▸ hi
        have hG2 := Same.tup s1 hG
        have lt : (((madeL (.flip c) l).take i).map V.int).length < sizeLine := small1000 (by rw [List.length_map, List.length_take]; omega)
        rw [Int.zero_add]
        refine ⟨_, rfl, _, rfl, i, c, rfl, ?_⟩
        refine ⟨_, rfl, _, rfl, i, c, rfl, ?_⟩
        refine ⟨_, rfl, ga, _, _, _, rfl, rfl, hG2, atI_nat (j := 0) rfl, rfl, _, rfl, ifF (show decide (V.str ("flip" : Str) = V.str ("mix" : Str)) = false by decide +kernel) ?_⟩
        refine ⟨_, rfl, ga, _, _, _, rfl, rfl, hG2, atI_nat (j := 0) rfl, rfl, _, rfl, ifT (show decide (V.str ("flip" : Str) = V.str ("flip" : Str)) = true by decide +kernel) ?_⟩
        have b1 : i ^^^ 2 ^ c < l.length := by rw [hl]; exact Nat.xor_lt_two_pow hi2 (two_lt hc)
        refine ⟨_, rfl, .inl ⟨rfl, _, SqL.of hD⟩, _, rfl, _, rfl, _, rfl, _, _, rfl, rfl, .inl (by decide), i.testBit c, rfl, rfl, _, rfl, _, _, rfl, rfl, ⟨(by show (0 : Int) ≤ (c : Int); omega), (by show (c : Int) ≤ 1000000; omega), (by show (sg (i.testBit c)).natAbs < 2 ^ 64; cases i.testBit c <;> decide)⟩, _, _, rfl, rfl, a, l.map V.int, _, .int (fnOf l (i ^^^ 2 ^ c)), rfl, rfl, SqL.of (s1 _ _ hA), at_of (ixFlip i c) (lmap b1), Dd, _, _, rfl, rfl, hD, lt, ?_⟩
        have hG3 := SqT.upd (o := .lst (((madeL (.flip c) l).take i).map V.int ++ [.int (U (.flip c) (fnOf l) i)])) hD hG2
        refine ⟨_, rfl, ga, _, _, _, rfl, rfl, hG3, atI_nat (j := 0) rfl, rfl, _, rfl, ifF (show decide (V.str ("flip" : Str) = V.str ("sign" : Str)) = false by decide +kernel) ?_⟩
        refine ⟨_, rfl, ga, _, _, _, rfl, rfl, hG3, atI_nat (j := 0) rfl, rfl, _, rfl, ifF (show decide (V.str ("flip" : Str) = V.str ("follow" : Str)) = false by decide +kernel) ?_⟩
        refine ⟨_, rfl, ga, _, _, _, rfl, rfl, hG3, atI_nat (j := 0) rfl, rfl, _, rfl, ifF (show decide (V.str ("flip" : Str) = V.str ("meet" : Str)) = false by decide +kernel) ?_⟩
        refine ⟨_, rfl, ga, _, _, _, rfl, rfl, hG3, atI_nat (j := 0) rfl, rfl, _, rfl, ifF (show decide (V.str ("flip" : Str) = V.str ("swap" : Str)) = false by decide +kernel) ?_⟩
        refine ⟨_, _, _, _, _, _, rfl, same_at nD s1, ?_⟩
        rw [upd_same, take_snoc (made_at hi), List.map_append]
        rfl
      · rintro σ H' ⟨v5, v6, v7, v8, v9, v10, rfl, s1, hD⟩
        rw [List.length_map, ← len_made (.flip c) l, List.take_length] at hD
        exact ⟨_, rfl, q H' Dd s1 hD⟩
    | sign c =>
      have hc : c < n := hok
      have hG1 := Same.tup (same_upd (o := .lst []) nD) hG
      refine ⟨_, rfl, ga, _, _, _, rfl, rfl, hG1, atI_nat (j := 1) rfl, ?_⟩
      refine ⟨_, rfl, 1, rfl, ga, _, _, .int (c : Int), rfl, rfl, hG1, (show atI ([V.str (W (.sign c))] ++ [V.int (c : Int)]) (-1) = some (V.int (c : Int)) from atI_last _ _), ?_⟩
      refine ⟨_, rfl, a, _, rfl, .inl (SqL.of (same_upd (o := .lst []) nD _ _ hA)), ((l.map V.int).length : Int), rfl, by omega, by omega, ?_⟩
      refine for_range (lo := 0) (n := (l.map V.int).length) (fun i σ H' => ∃ v5 v6 v7 v8 v9 v10, σ = [some (.ref a), some (.ref ga), some (.ref Dd), some (.int (c : Int)), some (.int (c : Int)), v5, v6, v7, v8, v9, v10] ∧ Same H H' ∧ H' Dd = some (.lst (((madeL (.sign c) l).take i).map V.int)))
        ⟨none, none, none, none, none, none, rfl, same_upd nD, upd_same⟩ ?_ ?_
      · rintro i σ H' hi ⟨v5, v6, v7, v8, v9, v10, rfl, s1, hD⟩
        rw [List.length_map] at hi
        have hi2 : i < 2 ^ n := hl ▸ hi
        have hG2 := Same.tup s1 hG
        have lt : (((madeL (.sign c) l).take i).map V.int).length < sizeLine := small1000 (by rw [List.length_map, List.length_take]; omega)
        rw [Int.zero_add]
        refine ⟨_, rfl, _, rfl, i, c, rfl, ?_⟩
        refine ⟨_, rfl, _, rfl, i, c, rfl, ?_⟩
        refine ⟨_, rfl, ga, _, _, _, rfl, rfl, hG2, atI_nat (j := 0) rfl, rfl, _, rfl, ifF (show decide (V.str ("sign" : Str) = V.str ("mix" : Str)) = false by decide +kernel) ?_⟩
        refine ⟨_, rfl, ga, _, _, _, rfl, rfl, hG2, atI_nat (j := 0) rfl, rfl, _, rfl, ifF (show decide (V.str ("sign" : Str) = V.str ("flip" : Str)) = false by decide +kernel) ?_⟩
        refine ⟨_, rfl, ga, _, _, _, rfl, rfl, hG2, atI_nat (j := 0) rfl, rfl, _, rfl, ifT (show decide (V.str ("sign" : Str) = V.str ("sign" : Str)) = true by decide +kernel) ?_⟩
        refine ⟨_, rfl, .inl ⟨rfl, _, SqL.of hD⟩, _, rfl, _, _, rfl, rfl, .inl (by decide), i.testBit c, rfl, rfl, _, rfl, _, rfl, a, l.map V.int, _, .int (fnOf l (i)), rfl, rfl, SqL.of (s1 _ _ hA), at_of rfl (lmap hi), _, _, rfl, rfl, .inl (sg_bd _), Dd, _, _, rfl, rfl, hD, lt, ?_⟩
        have hG3 := SqT.upd (o := .lst (((madeL (.sign c) l).take i).map V.int ++ [.int (U (.sign c) (fnOf l) i)])) hD hG2
        refine ⟨_, rfl, ga, _, _, _, rfl, rfl, hG3, atI_nat (j := 0) rfl, rfl, _, rfl, ifF (show decide (V.str ("sign" : Str) = V.str ("follow" : Str)) = false by decide +kernel) ?_⟩
        refine ⟨_, rfl, ga, _, _, _, rfl, rfl, hG3, atI_nat (j := 0) rfl, rfl, _, rfl, ifF (show decide (V.str ("sign" : Str) = V.str ("meet" : Str)) = false by decide +kernel) ?_⟩
        refine ⟨_, rfl, ga, _, _, _, rfl, rfl, hG3, atI_nat (j := 0) rfl, rfl, _, rfl, ifF (show decide (V.str ("sign" : Str) = V.str ("swap" : Str)) = false by decide +kernel) ?_⟩
        refine ⟨_, _, _, _, _, _, rfl, same_at nD s1, ?_⟩
        rw [upd_same, take_snoc (made_at hi), List.map_append]
        rfl
      · rintro σ H' ⟨v5, v6, v7, v8, v9, v10, rfl, s1, hD⟩
        rw [List.length_map, ← len_made (.sign c) l, List.take_length] at hD
        exact ⟨_, rfl, q H' Dd s1 hD⟩
    | follow c d =>
      obtain ⟨hc, hd, hcd⟩ : c < n ∧ d < n ∧ c ≠ d := hok
      have hG1 := Same.tup (same_upd (o := .lst []) nD) hG
      refine ⟨_, rfl, ga, _, _, _, rfl, rfl, hG1, atI_nat (j := 1) rfl, ?_⟩
      refine ⟨_, rfl, 1, rfl, ga, _, _, .int (d : Int), rfl, rfl, hG1, (show atI ([V.str (W (.follow c d)), V.int (c : Int)] ++ [V.int (d : Int)]) (-1) = some (V.int (d : Int)) from atI_last _ _), ?_⟩
      refine ⟨_, rfl, a, _, rfl, .inl (SqL.of (same_upd (o := .lst []) nD _ _ hA)), ((l.map V.int).length : Int), rfl, by omega, by omega, ?_⟩
      refine for_range (lo := 0) (n := (l.map V.int).length) (fun i σ H' => ∃ v5 v6 v7 v8 v9 v10, σ = [some (.ref a), some (.ref ga), some (.ref Dd), some (.int (c : Int)), some (.int (d : Int)), v5, v6, v7, v8, v9, v10] ∧ Same H H' ∧ H' Dd = some (.lst (((madeL (.follow c d) l).take i).map V.int)))
        ⟨none, none, none, none, none, none, rfl, same_upd nD, upd_same⟩ ?_ ?_
      · rintro i σ H' hi ⟨v5, v6, v7, v8, v9, v10, rfl, s1, hD⟩
        rw [List.length_map] at hi
        have hi2 : i < 2 ^ n := hl ▸ hi
        have hG2 := Same.tup s1 hG
        have lt : (((madeL (.follow c d) l).take i).map V.int).length < sizeLine := small1000 (by rw [List.length_map, List.length_take]; omega)
        rw [Int.zero_add]
        refine ⟨_, rfl, _, rfl, i, c, rfl, ?_⟩
        refine ⟨_, rfl, _, rfl, i, d, rfl, ?_⟩
        refine ⟨_, rfl, ga, _, _, _, rfl, rfl, hG2, atI_nat (j := 0) rfl, rfl, _, rfl, ifF (show decide (V.str ("follow" : Str) = V.str ("mix" : Str)) = false by decide +kernel) ?_⟩
        refine ⟨_, rfl, ga, _, _, _, rfl, rfl, hG2, atI_nat (j := 0) rfl, rfl, _, rfl, ifF (show decide (V.str ("follow" : Str) = V.str ("flip" : Str)) = false by decide +kernel) ?_⟩
        refine ⟨_, rfl, ga, _, _, _, rfl, rfl, hG2, atI_nat (j := 0) rfl, rfl, _, rfl, ifF (show decide (V.str ("follow" : Str) = V.str ("sign" : Str)) = false by decide +kernel) ?_⟩
        refine ⟨_, rfl, ga, _, _, _, rfl, rfl, hG2, atI_nat (j := 0) rfl, rfl, _, rfl, ifT (show decide (V.str ("follow" : Str) = V.str ("follow" : Str)) = true by decide +kernel) ?_⟩
        have b1 : i ^^^ fl (i.testBit c) d < l.length := by rw [hl]; exact Nat.xor_lt_two_pow hi2 (fl_lt hd)
        refine ⟨_, rfl, .inl ⟨rfl, _, SqL.of hD⟩, _, rfl, _, rfl, _, rfl, _, rfl, _, _, rfl, rfl, .inl (by decide), i.testBit d, rfl, rfl, _, rfl, _, _, rfl, rfl, ⟨(by show (0 : Int) ≤ (d : Int); omega), (by show (d : Int) ≤ 1000000; omega), (by show (sg (i.testBit d)).natAbs < 2 ^ 64; cases i.testBit d <;> decide)⟩, _, _, rfl, rfl, .inl (by cases i.testBit c <;> decide), _, _, rfl, rfl, a, l.map V.int, _, .int (fnOf l (i ^^^ fl (i.testBit c) d)), rfl, rfl, SqL.of (s1 _ _ hA), at_of (ixFollow i c d) (lmap b1), Dd, _, _, rfl, rfl, hD, lt, ?_⟩
        have hG3 := SqT.upd (o := .lst (((madeL (.follow c d) l).take i).map V.int ++ [.int (U (.follow c d) (fnOf l) i)])) hD hG2
        refine ⟨_, rfl, ga, _, _, _, rfl, rfl, hG3, atI_nat (j := 0) rfl, rfl, _, rfl, ifF (show decide (V.str ("follow" : Str) = V.str ("meet" : Str)) = false by decide +kernel) ?_⟩
        refine ⟨_, rfl, ga, _, _, _, rfl, rfl, hG3, atI_nat (j := 0) rfl, rfl, _, rfl, ifF (show decide (V.str ("follow" : Str) = V.str ("swap" : Str)) = false by decide +kernel) ?_⟩
        refine ⟨_, _, _, _, _, _, rfl, same_at nD s1, ?_⟩
        rw [upd_same, take_snoc (made_at hi), List.map_append]
        rfl
      · rintro σ H' ⟨v5, v6, v7, v8, v9, v10, rfl, s1, hD⟩
        rw [List.length_map, ← len_made (.follow c d) l, List.take_length] at hD
        exact ⟨_, rfl, q H' Dd s1 hD⟩
    | meet c d =>
      obtain ⟨hc, hd, hcd⟩ : c < n ∧ d < n ∧ c ≠ d := hok
      have hG1 := Same.tup (same_upd (o := .lst []) nD) hG
      refine ⟨_, rfl, ga, _, _, _, rfl, rfl, hG1, atI_nat (j := 1) rfl, ?_⟩
      refine ⟨_, rfl, 1, rfl, ga, _, _, .int (d : Int), rfl, rfl, hG1, (show atI ([V.str (W (.meet c d)), V.int (c : Int)] ++ [V.int (d : Int)]) (-1) = some (V.int (d : Int)) from atI_last _ _), ?_⟩
      refine ⟨_, rfl, a, _, rfl, .inl (SqL.of (same_upd (o := .lst []) nD _ _ hA)), ((l.map V.int).length : Int), rfl, by omega, by omega, ?_⟩
      refine for_range (lo := 0) (n := (l.map V.int).length) (fun i σ H' => ∃ v5 v6 v7 v8 v9 v10, σ = [some (.ref a), some (.ref ga), some (.ref Dd), some (.int (c : Int)), some (.int (d : Int)), v5, v6, v7, v8, v9, v10] ∧ Same H H' ∧ H' Dd = some (.lst (((madeL (.meet c d) l).take i).map V.int)))
        ⟨none, none, none, none, none, none, rfl, same_upd nD, upd_same⟩ ?_ ?_
      · rintro i σ H' hi ⟨v5, v6, v7, v8, v9, v10, rfl, s1, hD⟩
        rw [List.length_map] at hi
        have hi2 : i < 2 ^ n := hl ▸ hi
        have hG2 := Same.tup s1 hG
        have lt : (((madeL (.meet c d) l).take i).map V.int).length < sizeLine := small1000 (by rw [List.length_map, List.length_take]; omega)
        rw [Int.zero_add]
        refine ⟨_, rfl, _, rfl, i, c, rfl, ?_⟩
        refine ⟨_, rfl, _, rfl, i, d, rfl, ?_⟩
        refine ⟨_, rfl, ga, _, _, _, rfl, rfl, hG2, atI_nat (j := 0) rfl, rfl, _, rfl, ifF (show decide (V.str ("meet" : Str) = V.str ("mix" : Str)) = false by decide +kernel) ?_⟩
        refine ⟨_, rfl, ga, _, _, _, rfl, rfl, hG2, atI_nat (j := 0) rfl, rfl, _, rfl, ifF (show decide (V.str ("meet" : Str) = V.str ("flip" : Str)) = false by decide +kernel) ?_⟩
        refine ⟨_, rfl, ga, _, _, _, rfl, rfl, hG2, atI_nat (j := 0) rfl, rfl, _, rfl, ifF (show decide (V.str ("meet" : Str) = V.str ("sign" : Str)) = false by decide +kernel) ?_⟩
        refine ⟨_, rfl, ga, _, _, _, rfl, rfl, hG2, atI_nat (j := 0) rfl, rfl, _, rfl, ifF (show decide (V.str ("meet" : Str) = V.str ("follow" : Str)) = false by decide +kernel) ?_⟩
        refine ⟨_, rfl, ga, _, _, _, rfl, rfl, hG2, atI_nat (j := 0) rfl, rfl, _, rfl, ifT (show decide (V.str ("meet" : Str) = V.str ("meet" : Str)) = true by decide +kernel) ?_⟩
        refine ⟨_, rfl, .inl ⟨rfl, _, SqL.of hD⟩, _, rfl, _, _, rfl, rfl, .inl (by decide), _, rfl, _, _, rfl, rfl, .inl (by cases i.testBit c <;> decide), i.testBit c, i.testBit d, rfl, rfl, _, rfl, _, rfl, a, l.map V.int, _, .int (fnOf l (i)), rfl, rfl, SqL.of (s1 _ _ hA), at_of rfl (lmap hi), _, _, rfl, rfl, .inl (sg_bd _), Dd, _, _, rfl, rfl, hD, lt, ?_⟩
        have hG3 := SqT.upd (o := .lst (((madeL (.meet c d) l).take i).map V.int ++ [.int (U (.meet c d) (fnOf l) i)])) hD hG2
        refine ⟨_, rfl, ga, _, _, _, rfl, rfl, hG3, atI_nat (j := 0) rfl, rfl, _, rfl, ifF (show decide (V.str ("meet" : Str) = V.str ("swap" : Str)) = false by decide +kernel) ?_⟩
        refine ⟨_, _, _, _, _, _, rfl, same_at nD s1, ?_⟩
        rw [upd_same, take_snoc (made_at hi), List.map_append]
        rfl
      · rintro σ H' ⟨v5, v6, v7, v8, v9, v10, rfl, s1, hD⟩
        rw [List.length_map, ← len_made (.meet c d) l, List.take_length] at hD
        exact ⟨_, rfl, q H' Dd s1 hD⟩
    | swap c d =>
      obtain ⟨hc, hd, hcd⟩ : c < n ∧ d < n ∧ c ≠ d := hok
      have hG1 := Same.tup (same_upd (o := .lst []) nD) hG
      refine ⟨_, rfl, ga, _, _, _, rfl, rfl, hG1, atI_nat (j := 1) rfl, ?_⟩
      refine ⟨_, rfl, 1, rfl, ga, _, _, .int (d : Int), rfl, rfl, hG1, (show atI ([V.str (W (.swap c d)), V.int (c : Int)] ++ [V.int (d : Int)]) (-1) = some (V.int (d : Int)) from atI_last _ _), ?_⟩
      refine ⟨_, rfl, a, _, rfl, .inl (SqL.of (same_upd (o := .lst []) nD _ _ hA)), ((l.map V.int).length : Int), rfl, by omega, by omega, ?_⟩
      refine for_range (lo := 0) (n := (l.map V.int).length) (fun i σ H' => ∃ v5 v6 v7 v8 v9 v10, σ = [some (.ref a), some (.ref ga), some (.ref Dd), some (.int (c : Int)), some (.int (d : Int)), v5, v6, v7, v8, v9, v10] ∧ Same H H' ∧ H' Dd = some (.lst (((madeL (.swap c d) l).take i).map V.int)))
        ⟨none, none, none, none, none, none, rfl, same_upd nD, upd_same⟩ ?_ ?_
      · rintro i σ H' hi ⟨v5, v6, v7, v8, v9, v10, rfl, s1, hD⟩
        rw [List.length_map] at hi
        have hi2 : i < 2 ^ n := hl ▸ hi
        have hG2 := Same.tup s1 hG
        have lt : (((madeL (.swap c d) l).take i).map V.int).length < sizeLine := small1000 (by rw [List.length_map, List.length_take]; omega)
        rw [Int.zero_add]
        refine ⟨_, rfl, _, rfl, i, c, rfl, ?_⟩
        refine ⟨_, rfl, _, rfl, i, d, rfl, ?_⟩
        refine ⟨_, rfl, ga, _, _, _, rfl, rfl, hG2, atI_nat (j := 0) rfl, rfl, _, rfl, ifF (show decide (V.str ("swap" : Str) = V.str ("mix" : Str)) = false by decide +kernel) ?_⟩
        refine ⟨_, rfl, ga, _, _, _, rfl, rfl, hG2, atI_nat (j := 0) rfl, rfl, _, rfl, ifF (show decide (V.str ("swap" : Str) = V.str ("flip" : Str)) = false by decide +kernel) ?_⟩
        refine ⟨_, rfl, ga, _, _, _, rfl, rfl, hG2, atI_nat (j := 0) rfl, rfl, _, rfl, ifF (show decide (V.str ("swap" : Str) = V.str ("sign" : Str)) = false by decide +kernel) ?_⟩
        refine ⟨_, rfl, ga, _, _, _, rfl, rfl, hG2, atI_nat (j := 0) rfl, rfl, _, rfl, ifF (show decide (V.str ("swap" : Str) = V.str ("follow" : Str)) = false by decide +kernel) ?_⟩
        refine ⟨_, rfl, ga, _, _, _, rfl, rfl, hG2, atI_nat (j := 0) rfl, rfl, _, rfl, ifF (show decide (V.str ("swap" : Str) = V.str ("meet" : Str)) = false by decide +kernel) ?_⟩
        refine ⟨_, rfl, ga, _, _, _, rfl, rfl, hG2, atI_nat (j := 0) rfl, rfl, _, rfl, ifT (show decide (V.str ("swap" : Str) = V.str ("swap" : Str)) = true by decide +kernel) ?_⟩
        have b1 : chg c d i < l.length := by rw [hl]; exact Nat.xor_lt_two_pow (Nat.xor_lt_two_pow hi2 (fl_lt hc)) (fl_lt hd)
        refine ⟨_, rfl, _, rfl, _, _, rfl, rfl, ?_⟩
        refine ⟨_, rfl, .inl ⟨rfl, _, SqL.of hD⟩, _, rfl, _, rfl, _, rfl, _, rfl, _, _, rfl, rfl, ⟨(by show (0 : Int) ≤ (c : Int); omega), (by show (c : Int) ≤ 1000000; omega), (by cases i.testBit c <;> cases i.testBit d <;> decide)⟩, _, _, rfl, rfl, _, rfl, _, rfl, _, _, rfl, rfl, ⟨(by show (0 : Int) ≤ (d : Int); omega), (by show (d : Int) ≤ 1000000; omega), (by cases i.testBit c <;> cases i.testBit d <;> decide)⟩, _, _, rfl, rfl, a, l.map V.int, _, .int (fnOf l (chg c d i)), rfl, rfl, SqL.of (s1 _ _ hA), at_of (ixSwap i hcd) (lmap b1), Dd, _, _, rfl, rfl, hD, lt, ?_⟩
        have hG3 := SqT.upd (o := .lst (((madeL (.swap c d) l).take i).map V.int ++ [.int (U (.swap c d) (fnOf l) i)])) hD hG2
        refine ⟨_, _, _, _, _, _, rfl, same_at nD s1, ?_⟩
        rw [upd_same, take_snoc (made_at hi), List.map_append]
        rfl
      · rintro σ H' ⟨v5, v6, v7, v8, v9, v10, rfl, s1, hD⟩
        rw [List.length_map, ← len_made (.swap c d) l, List.take_length] at hD
        exact ⟨_, rfl, q H' Dd s1 hD⟩
end
end TC
set_option Elab.async false
set_option linter.all false
set_option maxRecDepth 100000
set_option maxHeartbeats 4000000
/-! Turncoins, the law's own defs: the greatest divisor, the least form. -/
namespace TC
open PySem PySem.Spec PyProof.Rows L2
theorem natAbs_if (z : Int) : (if z < 0 then -z else z) = ((z.natAbs : Nat) : Int) := by split <;> omega
theorem gcdF_snoc (l : List Int) (x : Int) : gcdF 0 (l ++ [x]) = Nat.gcd (gcdF 0 l) x.natAbs := by
  unfold gcdF
  rw [List.foldl_append]
  rfl
section
variable {P : Program} {w : World} {K : PySem.W.Frag} {mg : Str → Option Value} {base : Heap}
def spGcd (K : PySem.W.Frag) : Sp := fun vs H Q _ => ∃ (a : Addr) (l : List Int), vs = [.ref a] ∧ H a = some (.lst (l.map V.int)) ∧ Q (.int (gcdL l : Int)) H
theorem scGcd : FnScope ["_law_numbers", "_law_found", "_law_number", "_law_rest"] ["_law_numbers"] (defScope s__law_gcd) := ⟨rfl, rfl, rfl, by decide +kernel, rfl, by decide +kernel, by decide +kernel⟩
theorem ok_gcd (D : Def K mg "_law_gcd" s__law_gcd) (T : Free mg) : Has P w K mg base 1 "_law_gcd" ["_law_numbers"] (spGcd K) := by
  refine has_of D scGcd (fun vs H Q E h => ?_) (fun _ _ _ _ _ _ us hl => match us, hl with | [_], _ => rfl) (fun f cdv A outer s H vs Q E hr h => ?_)
  · obtain ⟨a, l, rfl, _⟩ := h
    rfl
  · obtain ⟨a, l, rfl, hA, q⟩ := h
    refine ⟨_, pss_cons (ps_set (i := 1) scGcd.nd rfl (.inl rfl) pe_int)
      (pss_cons (ps_for PassesOwn.never rfl (pi_list (pv 0)) (pg_name (i := 2) scGcd.nd rfl (.inl rfl))
        (pss_cons (ps_set (i := 3) scGcd.nd rfl (.inl rfl) (pe_callB call_abs (by rfl) T.abs (by decide +kernel) (pa_cons (pv 2) pa_nil)))
        (pss_one (ps_while PassesOwn.never (pt_cmpR op_gt (pv 3) pe_int (nomark _)) (pss_one (ps_par (i := 1) (j := 3) (by rfl) scGcd.nd rfl rfl (by decide) rfl rfl (pa_cons (pv 3) (pa_cons (pe_op op_modK (pv 1) (pv 3)) pa_nil)) (by rfl)))))))
      (pss_one (ps_ret (pv 1)))), ?_⟩
    refine ⟨_, rfl, a, rfl, ⟨_, SqL.of hA⟩, for_list (K := K) (a := a) (xs := l.map V.int) (fun i σ H' => ∃ v2 v3, σ = [some (.ref a), some (.int ((gcdF 0 (l.take i) : Nat) : Int)), v2, v3] ∧ H' = H)
      ⟨none, none, rfl, rfl⟩ (fun i σ H' _ ⟨_, _, _, e⟩ => by rw [e]; exact SqL.of hA) ?_ ?_⟩
    · rintro i x σ H' hi ⟨v2, v3, rfl, rfl⟩
      rw [List.getElem?_map] at hi
      obtain ⟨z, hz, rfl⟩ := Option.map_eq_some_iff.mp hi
      refine ⟨_, rfl, _, rfl, ?_⟩
      rw [natAbs_if]
      refine while_by (fun σ H2 => ∃ a' b' : Nat, σ = [some (.ref a), some (.int (a' : Int)), some (.int z), some (.int (b' : Int))] ∧ H2 = H' ∧ Nat.gcd a' b' = gcdF 0 (l.take (i + 1)))
        (fun σ _ => match σ with | [_, _, _, some (.int b)] => b.toNat | _ => 0) ⟨_, _, rfl, rfl, ?_⟩ ?_ ?_
      · rw [take_snoc hz, gcdF_snoc]
      · rintro σ H2 ⟨a', b', rfl, rfl, hg⟩
        refine ⟨_, rfl, _, _, rfl, rfl, _, rfl, ?_⟩
        by_cases hb : 0 < b'
        · refine ifT (decide_eq_true (by omega)) ?_
          refine ⟨_, rfl, _, rfl, _, rfl, a', b', rfl, rfl, hb, _, _, rfl, ⟨b', a' % b', rfl, rfl, ?_⟩, ?_⟩
          · rw [← hg, Nat.gcd_comm a' b', Nat.gcd_rec b' a', Nat.gcd_comm]
          · show ((a' % b' : Nat) : Int).toNat < ((b' : Nat) : Int).toNat
            rw [Int.toNat_natCast, Int.toNat_natCast]
            exact Nat.mod_lt a' hb
        · refine ifF (decide_eq_false (by omega)) ?_
          have e : b' = 0 := by omega
          rw [e, Nat.gcd_zero_right] at hg
          rw [hg]
          exact ⟨_, _, rfl, rfl⟩
      · rintro σ H2 Q1 Q2 m ⟨v, e1, i1, j1, e2, e3, k1, e4, q1⟩
        exact ⟨v, e1, i1, j1, e2, e3, k1, e4, m _ _ q1⟩
    · rintro σ H' ⟨v2, v3, rfl, rfl⟩
      rw [List.length_map, List.take_length]
      exact ⟨_, rfl, q⟩
def spLeast (K : PySem.W.Frag) : Sp := fun vs H Q _ => ∃ (a : Addr) (l : List Int), vs = [.ref a] ∧ H a = some (.lst (l.map V.int)) ∧ Nz l ∧ (com l).natAbs ≤ 2 ∧ l.length ≤ 64 ∧
  ∀ H' p, Same H H' → H' p = some (.lst ((leastL l).map V.int)) → Q (.ref p) H'
theorem scLeast : FnScope ["_law_numbers", "_law_common", "_law_number"] ["_law_numbers"] (defScope s__law_least) := ⟨rfl, rfl, rfl, by decide +kernel, rfl, by decide +kernel, by decide +kernel⟩
theorem ok_least (D : Def K mg "_law_least" s__law_least) (GC : Has P w K mg base 1 "_law_gcd" ["_law_numbers"] (spGcd K)) : Has P w K mg base 2 "_law_least" ["_law_numbers"] (spLeast K) := by
  refine has_of D scLeast (fun vs H Q E h => ?_) (fun _ _ _ _ _ _ us hl => match us, hl with | [_], _ => rfl) (fun f cdv A outer s H vs Q E hr h => ?_)
  · obtain ⟨a, l, rfl, _⟩ := h
    rfl
  · obtain ⟨a, l, rfl, hA, hnz, hc2, h64, q⟩ := h
    refine ⟨_, pss_cons (ps_set (i := 1) scLeast.nd rfl (.inr rfl) (pe_h GC hr (by decide) (by rfl) (pa_cons (pv 0) pa_nil)))
      (pss_cons (ps_if (pt_cmpR op_lt (pe_ix ix_list (pe_lc (own := [("_law_number", 2)]) (g := gName 2) (tt := tTest (tOp rNe (tVar 2) (tC (.int 0)))) rfl scLeast.nd (pi_list (pv 0))
          (blkOk_by (own := [("_law_number", 2)]) (N := ["_law_numbers", "_law_common", "_law_number"]) (sc := defScope s__law_least) (by decide +kernel)) (fun _ _ _ _ _ => pg_name (i := 2) scLeast.nd rfl (Or.inl rfl))
          (fun _ _ _ _ _ => pts_one (pt_cmpR op_ne (pv 2) pe_int (nomark _))) (fun _ _ _ _ _ => pv 2)) pe_int (fun _ _ => rfl)) pe_int (nomark _))
        (pss_one (ps_set (i := 1) scLeast.nd rfl (.inr rfl) (pe_op op_sub pe_int (pv 1)))) pss_nil)
      (pss_one (ps_ret (pe_lc (own := [("_law_number", 2)]) (g := gName 2) (tt := tYes) rfl scLeast.nd (pi_list (pv 0))
          (blkOk_by (own := [("_law_number", 2)]) (N := ["_law_numbers", "_law_common", "_law_number"]) (sc := defScope s__law_least) (by decide +kernel)) (fun _ _ _ _ _ => pg_name (i := 2) scLeast.nd rfl (Or.inl rfl))
          (fun _ _ _ _ _ => pts_nil) (fun _ _ _ _ _ => pe_op op_fdivN (pv 2) (pv 1)))))), ?_⟩
    refine ⟨_, rfl, a, l, rfl, hA, ?_⟩
    refine ⟨_, rfl, a, rfl, ⟨_, SqL.of hA⟩, fun D1 n1 => lc_list (K := K) (a := a) (xs := l.map V.int) (fun i H' => Same H H' ∧ H' D1 = some (.lst (((l.take i).filter fun x => !decide (x = 0)).map V.int)))
      ⟨same_upd n1, upd_same⟩ (fun i H' _ ⟨s1, _⟩ => SqL.of (s1 _ _ hA)) ?_ ?_⟩
    · rintro i x H' hi ⟨s1, hD⟩
      rw [List.getElem?_map] at hi
      obtain ⟨z, hz, rfl⟩ := Option.map_eq_some_iff.mp hi
      refine ⟨rfl, ?_⟩
      refine ⟨_, rfl, rfl, _, rfl, ?_⟩
      have hzlen : (((l.take i).filter fun x => !decide (x = 0)).map V.int).length < sizeLine := small1000 (by
        rw [List.length_map]
        have h1 := List.length_filter_le (fun x : Int => !decide (x = 0)) (l.take i)
        rw [List.length_take] at h1
        omega)
      by_cases h0 : z = 0
      · refine ifF (by rw [h0]; rfl) ?_
        refine ⟨s1, ?_⟩
        rw [take_snoc hz, List.filter_append, List.filter_cons, if_neg (by rw [h0]; decide), List.filter_nil, List.append_nil]
        exact hD
      · refine ifT (by rw [decide_eq_false (fun e => h0 (V.int.inj e))]; rfl) ?_
        refine ⟨_, rfl, _, hD, hzlen, same_at n1 s1, ?_⟩
        rw [upd_same, take_snoc hz, List.filter_append, List.filter_cons, if_pos (by rw [decide_eq_false h0]; rfl), List.filter_nil, List.map_append]
        rfl
    · rintro H1 ⟨s1, hD⟩
      rw [List.length_map, List.take_length] at hD
      obtain ⟨y, r, hyr⟩ : ∃ y r, (l.filter fun x => !decide (x = 0)) = y :: r := by
        obtain ⟨x, hx, hn⟩ := hnz
        cases e : l.filter fun x => !decide (x = 0) with
        | nil =>
          have : x ∈ l.filter fun x => !decide (x = 0) := List.mem_filter.mpr ⟨hx, by rw [decide_eq_false hn]; rfl⟩
          rw [e] at this
          cases this
        | cons y r => exact ⟨y, r, rfl⟩
      have hy : fnz l = y := by
        unfold fnz
        rw [hyr]
        rfl
      rw [hyr] at hD
      have last : ∀ (v2 : Option V), ((tRet (tLc (iList K (tVar 0)) (gName 2) tYes (tOp (rI CDivN fun i j => V.int (i.fdiv j)) (tVar 2) (tVar 1)) [2])) { nx := fun _ H' => Q .non H', rt := Q } [some (.ref a), some (.int (com l)), none] H1) := by
        intro v2
        refine ⟨_, rfl, a, rfl, ⟨_, SqL.of (s1 _ _ hA)⟩, fun D2 n2 => lc_list (K := K) (a := a) (xs := l.map V.int) (fun i H' => Same H1 H' ∧ H' D2 = some (.lst (((l.take i).map fun x => Int.fdiv x (com l)).map V.int)))
          ⟨same_upd n2, upd_same⟩ (fun i H' _ ⟨s2, _⟩ => SqL.of (s2 _ _ (s1 _ _ hA))) ?_ ?_⟩
        · rintro i x H' hi ⟨s2, hD2⟩
          rw [List.getElem?_map] at hi
          obtain ⟨z, hz, rfl⟩ := Option.map_eq_some_iff.mp hi
          refine ⟨rfl, ?_⟩
          refine ⟨_, rfl, _, rfl, _, _, rfl, rfl, ⟨com_ne hnz, ?_⟩, _, hD2, small1000 ?_, same_at n2 s2, ?_⟩
          · exact Nat.lt_of_le_of_lt hc2 (by decide)
          · rw [List.length_map, List.length_map, List.length_take]
            omega
          · rw [upd_same, take_snoc hz, List.map_append, List.map_append]
            rfl
        · rintro H2 ⟨s2, hD2⟩
          rw [List.length_map, List.take_length] at hD2
          exact q H2 D2 (s1.trans s2) hD2
      refine ⟨D1, _, _, _, rfl, rfl, SqL.of hD, atI_nat (j := 0) rfl, _, _, rfl, rfl, _, rfl, ?_⟩
      by_cases hneg : y < 0
      · refine ifT (decide_eq_true hneg) ?_
        have e : com l = 0 - (gcdL l : Int) := by
          unfold com
          rw [hy, if_pos hneg]
        refine ⟨_, rfl, _, _, rfl, rfl, ?_⟩
        have z := last none
        rw [e] at z
        exact z
      · refine ifF (decide_eq_false hneg) ?_
        have e : com l = (gcdL l : Int) := by
          unfold com
          rw [hy, if_neg hneg]
        have z := last none
        rw [e] at z
        exact z
end
end TC
set_option Elab.async false
set_option linter.all false
set_option maxRecDepth 100000
set_option maxHeartbeats 16000000
/-! Turncoins, the law's own defs: a gate written otherwise (printed by gen_other.py). -/
namespace TC
open PySem PySem.Spec PyProof.Rows L2
section
variable {P : Program} {w : World} {K : PySem.W.Frag} {mg : Str → Option Value} {base : Heap}
theorem ok3 {n : Nat} {a b c : G} (ha : a.ok n) (hb : b.ok n) (hc : c.ok n) : okAll n [a, b, c] := by
  intro g h
  rcases List.mem_cons.mp h with rfl | h
  · exact ha
  rcases List.mem_cons.mp h with rfl | h
  · exact hb
  rw [List.mem_singleton.mp h]
  exact hc
theorem ok1 {n : Nat} {a : G} (ha : a.ok n) : okAll n [a] := by
  intro g h
  rw [List.mem_singleton.mp h]
  exact ha
def spOther (K : PySem.W.Frag) : Sp := fun vs H Q _ => ∃ (v : V) (z : Int) (n : Nat) (g : G), vs = [v, .int z, .int (n : Int)] ∧ GT K H v g ∧ g.ok n ∧ 1 ≤ n ∧ n ≤ 6 ∧ ∀ H' p gs, Same H H' → GTs K H' p gs → okAll n gs → gs.length ≤ 3 → Q (.ref p) H'
theorem scOther : FnScope ["_law_gate_here", "_law_cell_here", "_law_coins", "_law_one", "_law_other", "_law_twice"] ["_law_gate_here", "_law_cell_here", "_law_coins"] (defScope s__law_otherwise) := ⟨rfl, rfl, rfl, by decide +kernel, rfl, by decide +kernel, by decide +kernel⟩
theorem ok_other (D : Def K mg "_law_otherwise" s__law_otherwise) (LG : Has P w K mg base 1 "_law_gate" ["_law_cell_here", "_law_coins"] (spLGate K)) : Has P w K mg base 2 "_law_otherwise" ["_law_gate_here", "_law_cell_here", "_law_coins"] (spOther K) := by
  refine has_of D scOther (fun vs H Q E h => ?_) (fun _ _ _ _ _ _ us hl => match us, hl with | [_, _, _], _ => rfl) (fun f cdv A outer s H vs Q E hr h => ?_)
  · obtain ⟨v, z, n, g, rfl, _⟩ := h
    rfl
  · obtain ⟨v, z, n, g, rfl, ⟨ga, rfl, hG⟩, hok, h1, h6, q⟩ := h
    refine ⟨_, pss_cons (ps_set (i := 3) scOther.nd rfl (.inl rfl) (pe_ix ix_tup (pv 0) pe_int (fun _ _ => rfl)))
      (pss_cons (ps_set (i := 4) scOther.nd rfl (.inl rfl) (pe_ix ix_tup (pv 0) (pe_un un_neg pe_int) (fun _ _ => rfl)))
      (pss_cons (ps_if (PW.pt (pw_and (pt_cmpR op_eq (pe_op op_mod (pv 1) pe_int) pe_int (nomark _)) (pw_and1 (pt_cmpR op_eq (pe_ix ix_tup (pv 0) pe_int (fun _ _ => rfl)) pe_str (nomark _))))) (pss_one (ps_ret (pe_lst (pa_cons (pe_tup (pa_cons pe_str (pa_cons (pv 3) pa_nil))) (pa_cons (pe_tup (pa_cons pe_str (pa_cons (pv 3) pa_nil))) (pa_cons (pe_tup (pa_cons pe_str (pa_cons (pv 3) pa_nil))) pa_nil)))))) pss_nil)
      (pss_cons (ps_if (PW.pt (pw_and (pt_cmpR op_eq (pe_op op_mod (pv 1) pe_int) pe_int (nomark _)) (pw_and1 (pt_cmpR op_eq (pe_ix ix_tup (pv 0) pe_int (fun _ _ => rfl)) pe_str (nomark _))))) (pss_one (ps_ret (pe_lst (pa_cons (pe_tup (pa_cons pe_str (pa_cons (pv 3) pa_nil))) (pa_cons (pe_tup (pa_cons pe_str (pa_cons (pv 3) pa_nil))) (pa_cons (pe_tup (pa_cons pe_str (pa_cons (pv 3) pa_nil))) pa_nil)))))) pss_nil)
      (pss_cons (ps_if (PW.pt (pw_and (pt_cmpR op_eq (pe_op op_mod (pv 1) pe_int) pe_int (nomark _)) (pw_and1 (pt_cmpR op_eq (pe_ix ix_tup (pv 0) pe_int (fun _ _ => rfl)) pe_str (nomark _))))) (pss_one (ps_ret (pe_lst (pa_cons (pe_tup (pa_cons pe_str (pa_cons (pv 3) (pa_cons (pv 4) pa_nil)))) (pa_cons (pe_tup (pa_cons pe_str (pa_cons (pv 4) (pa_cons (pv 3) pa_nil)))) (pa_cons (pe_tup (pa_cons pe_str (pa_cons (pv 3) (pa_cons (pv 4) pa_nil)))) pa_nil)))))) pss_nil)
      (pss_cons (ps_if (PW.pt (pw_and (pt_cmpR op_eq (pe_op op_mod (pv 1) pe_int) pe_int (nomark _)) (pw_and1 (pt_cmpR op_eq (pe_ix ix_tup (pv 0) pe_int (fun _ _ => rfl)) pe_str (nomark _))))) (pss_one (ps_ret (pe_lst (pa_cons (pe_tup (pa_cons pe_str (pa_cons (pv 4) pa_nil))) (pa_cons (pe_tup (pa_cons pe_str (pa_cons (pv 3) (pa_cons (pv 4) pa_nil)))) (pa_cons (pe_tup (pa_cons pe_str (pa_cons (pv 4) pa_nil))) pa_nil)))))) pss_nil)
      (pss_cons (ps_if (PW.pt (pw_and (pt_cmpR op_eq (pe_op op_mod (pv 1) pe_int) pe_int (nomark _)) (pw_and1 (pt_cmpR op_eq (pe_ix ix_tup (pv 0) pe_int (fun _ _ => rfl)) pe_str (nomark _))))) (pss_one (ps_ret (pe_lst (pa_cons (pe_tup (pa_cons pe_str (pa_cons (pv 4) (pa_cons (pv 3) pa_nil)))) pa_nil)))) pss_nil)
      (pss_cons (ps_set (i := 5) scOther.nd rfl (.inl rfl) (pe_h LG hr (by decide) (by rfl) (pa_cons (pe_op op_fdiv (pv 1) pe_int) (pa_cons (pv 2) pa_nil))))
      (pss_one (ps_ret (pe_lst (pa_cons (pv 5) (pa_cons (pv 5) (pa_cons (pv 0) pa_nil))))))))))))), ?_⟩
    have hok2 := hok
    cases g with
    | mix c =>
      have hc : c < n := hok2
      refine ⟨_, rfl, ga, _, _, _, rfl, rfl, hG, atI_nat (j := 1) rfl, ?_⟩
      refine ⟨_, rfl, 1, rfl, ga, _, _, .int (c : Int), rfl, rfl, hG, (show atI ([V.str (W (.mix c))] ++ [V.int (c : Int)]) (-1) = some (V.int (c : Int)) from atI_last _ _), ?_⟩
      by_cases hA : z % 3 = 0
      · skip
        refine ⟨_, rfl, _, _, rfl, rfl, (by show (0 : Int) < 3; decide), rfl, _, rfl, ifT (decide_eq_true (congrArg V.int hA)) ?_⟩
        refine ⟨_, rfl, ga, _, _, _, rfl, rfl, hG, atI_nat (j := 0) rfl, rfl, _, rfl, ifF (show decide (V.str ("mix" : Str) = V.str ("flip" : Str)) = false by decide +kernel) ?_⟩
        refine ⟨_, rfl, _, _, rfl, rfl, (by show (0 : Int) < 3; decide), rfl, _, rfl, ifT (decide_eq_true (congrArg V.int hA)) ?_⟩
        refine ⟨_, rfl, ga, _, _, _, rfl, rfl, hG, atI_nat (j := 0) rfl, rfl, _, rfl, ifF (show decide (V.str ("mix" : Str) = V.str ("sign" : Str)) = false by decide +kernel) ?_⟩
        refine ⟨_, rfl, _, _, rfl, rfl, (by show (0 : Int) < 3; decide), rfl, _, rfl, ifT (decide_eq_true (congrArg V.int hA)) ?_⟩
        refine ⟨_, rfl, ga, _, _, _, rfl, rfl, hG, atI_nat (j := 0) rfl, rfl, _, rfl, ifF (show decide (V.str ("mix" : Str) = V.str ("swap" : Str)) = false by decide +kernel) ?_⟩
        refine ⟨_, rfl, _, _, rfl, rfl, (by show (0 : Int) < 3; decide), rfl, _, rfl, ifT (decide_eq_true (congrArg V.int hA)) ?_⟩
        refine ⟨_, rfl, ga, _, _, _, rfl, rfl, hG, atI_nat (j := 0) rfl, rfl, _, rfl, ifF (show decide (V.str ("mix" : Str) = V.str ("follow" : Str)) = false by decide +kernel) ?_⟩
        refine ⟨_, rfl, _, _, rfl, rfl, (by show (0 : Int) < 3; decide), rfl, _, rfl, ifF (decide_eq_false (fun e => by have := V.int.inj e; omega)) (ifF rfl ?_)⟩
        refine ⟨_, rfl, _, _, rfl, rfl, ⟨by decide, by decide⟩, _, rfl, z / 3, n, rfl, h1, h6, fun H2 v2 g2 s2 hg2 hv2 => ?_⟩
        refine ⟨_, rfl, _, rfl, _, rfl, (by show 3 ≤ sizeLine; decide), fun p np => ?_⟩
        have s3 : Same H2 (upd H2 p (.lst [v2, v2, .ref ga])) := same_upd np
        refine q _ p [g2, g2, (.mix c)] (s2.trans s3) ⟨_, upd_same, ((Reps.nil.snoc (GT.mono s3 hv2)).snoc (GT.mono s3 hv2)).snoc ⟨ga, rfl, Same.tup (s2.trans s3) hG⟩⟩ ?_ (Nat.le_refl 3)
        exact ok3 hg2 hg2 hok
      · skip
        refine ⟨_, rfl, _, _, rfl, rfl, (by show (0 : Int) < 3; decide), rfl, _, rfl, ifF (decide_eq_false (fun e => hA (V.int.inj e))) (ifF rfl ?_)⟩
        refine ⟨_, rfl, _, _, rfl, rfl, (by show (0 : Int) < 3; decide), rfl, _, rfl, ifF (decide_eq_false (fun e => hA (V.int.inj e))) (ifF rfl ?_)⟩
        refine ⟨_, rfl, _, _, rfl, rfl, (by show (0 : Int) < 3; decide), rfl, _, rfl, ifF (decide_eq_false (fun e => hA (V.int.inj e))) (ifF rfl ?_)⟩
        refine ⟨_, rfl, _, _, rfl, rfl, (by show (0 : Int) < 3; decide), rfl, _, rfl, ifF (decide_eq_false (fun e => hA (V.int.inj e))) (ifF rfl ?_)⟩
        by_cases hB : z % 3 = 1
        · skip
          refine ⟨_, rfl, _, _, rfl, rfl, (by show (0 : Int) < 3; decide), rfl, _, rfl, ifT (decide_eq_true (congrArg V.int hB)) ?_⟩
          refine ⟨_, rfl, ga, _, _, _, rfl, rfl, hG, atI_nat (j := 0) rfl, rfl, _, rfl, ifF (show decide (V.str ("mix" : Str) = V.str ("meet" : Str)) = false by decide +kernel) ?_⟩
          refine ⟨_, rfl, _, _, rfl, rfl, ⟨by decide, by decide⟩, _, rfl, z / 3, n, rfl, h1, h6, fun H2 v2 g2 s2 hg2 hv2 => ?_⟩
          refine ⟨_, rfl, _, rfl, _, rfl, (by show 3 ≤ sizeLine; decide), fun p np => ?_⟩
          have s3 : Same H2 (upd H2 p (.lst [v2, v2, .ref ga])) := same_upd np
          refine q _ p [g2, g2, (.mix c)] (s2.trans s3) ⟨_, upd_same, ((Reps.nil.snoc (GT.mono s3 hv2)).snoc (GT.mono s3 hv2)).snoc ⟨ga, rfl, Same.tup (s2.trans s3) hG⟩⟩ ?_ (Nat.le_refl 3)
          exact ok3 hg2 hg2 hok
        · skip
          refine ⟨_, rfl, _, _, rfl, rfl, (by show (0 : Int) < 3; decide), rfl, _, rfl, ifF (decide_eq_false (fun e => hB (V.int.inj e))) (ifF rfl ?_)⟩
          refine ⟨_, rfl, _, _, rfl, rfl, ⟨by decide, by decide⟩, _, rfl, z / 3, n, rfl, h1, h6, fun H2 v2 g2 s2 hg2 hv2 => ?_⟩
          refine ⟨_, rfl, _, rfl, _, rfl, (by show 3 ≤ sizeLine; decide), fun p np => ?_⟩
          have s3 : Same H2 (upd H2 p (.lst [v2, v2, .ref ga])) := same_upd np
          refine q _ p [g2, g2, (.mix c)] (s2.trans s3) ⟨_, upd_same, ((Reps.nil.snoc (GT.mono s3 hv2)).snoc (GT.mono s3 hv2)).snoc ⟨ga, rfl, Same.tup (s2.trans s3) hG⟩⟩ ?_ (Nat.le_refl 3)
          exact ok3 hg2 hg2 hok
    | flip c =>
      have hc : c < n := hok2
      refine ⟨_, rfl, ga, _, _, _, rfl, rfl, hG, atI_nat (j := 1) rfl, ?_⟩
      refine ⟨_, rfl, 1, rfl, ga, _, _, .int (c : Int), rfl, rfl, hG, (show atI ([V.str (W (.flip c))] ++ [V.int (c : Int)]) (-1) = some (V.int (c : Int)) from atI_last _ _), ?_⟩
      by_cases hA : z % 3 = 0
      · skip
        refine ⟨_, rfl, _, _, rfl, rfl, (by show (0 : Int) < 3; decide), rfl, _, rfl, ifT (decide_eq_true (congrArg V.int hA)) ?_⟩
        refine ⟨_, rfl, ga, _, _, _, rfl, rfl, hG, atI_nat (j := 0) rfl, rfl, _, rfl, ifT (show decide (V.str ("flip" : Str) = V.str ("flip" : Str)) = true by decide +kernel) ?_⟩
        refine ⟨_, rfl, (by show 2 ≤ sizeLine; decide), fun p1 n1 => ?_⟩
        refine ⟨_, rfl, (by show 2 ≤ sizeLine; decide), fun p2 n2 => ?_⟩
        refine ⟨_, rfl, (by show 2 ≤ sizeLine; decide), fun p3 n3 => ?_⟩
        refine ⟨(by show 3 ≤ sizeLine; decide), fun p np => ?_⟩
        refine q _ p [(.mix c), (.sign c), (.mix c)] (Same.trans (Same.trans (Same.trans (same_upd n1) (same_upd n2)) (same_upd n3)) (same_upd np)) ⟨_, upd_same, (((Reps.nil.snoc (GT.mono (Same.trans (Same.trans (same_upd n2) (same_upd n3)) (same_upd np)) ⟨p1, rfl, SqT.of upd_same⟩)).snoc (GT.mono (Same.trans (same_upd n3) (same_upd np)) ⟨p2, rfl, SqT.of upd_same⟩)).snoc (GT.mono (same_upd np) ⟨p3, rfl, SqT.of upd_same⟩))⟩ ?_ (Nat.le_refl 3)
        exact ok3 (n := n) (show (G.mix c).ok n from hc) (show (G.sign c).ok n from hc) (show (G.mix c).ok n from hc)
      · skip
        refine ⟨_, rfl, _, _, rfl, rfl, (by show (0 : Int) < 3; decide), rfl, _, rfl, ifF (decide_eq_false (fun e => hA (V.int.inj e))) (ifF rfl ?_)⟩
        refine ⟨_, rfl, _, _, rfl, rfl, (by show (0 : Int) < 3; decide), rfl, _, rfl, ifF (decide_eq_false (fun e => hA (V.int.inj e))) (ifF rfl ?_)⟩
        refine ⟨_, rfl, _, _, rfl, rfl, (by show (0 : Int) < 3; decide), rfl, _, rfl, ifF (decide_eq_false (fun e => hA (V.int.inj e))) (ifF rfl ?_)⟩
        refine ⟨_, rfl, _, _, rfl, rfl, (by show (0 : Int) < 3; decide), rfl, _, rfl, ifF (decide_eq_false (fun e => hA (V.int.inj e))) (ifF rfl ?_)⟩
        by_cases hB : z % 3 = 1
        · skip
          refine ⟨_, rfl, _, _, rfl, rfl, (by show (0 : Int) < 3; decide), rfl, _, rfl, ifT (decide_eq_true (congrArg V.int hB)) ?_⟩
          refine ⟨_, rfl, ga, _, _, _, rfl, rfl, hG, atI_nat (j := 0) rfl, rfl, _, rfl, ifF (show decide (V.str ("flip" : Str) = V.str ("meet" : Str)) = false by decide +kernel) ?_⟩
          refine ⟨_, rfl, _, _, rfl, rfl, ⟨by decide, by decide⟩, _, rfl, z / 3, n, rfl, h1, h6, fun H2 v2 g2 s2 hg2 hv2 => ?_⟩
          refine ⟨_, rfl, _, rfl, _, rfl, (by show 3 ≤ sizeLine; decide), fun p np => ?_⟩
          have s3 : Same H2 (upd H2 p (.lst [v2, v2, .ref ga])) := same_upd np
          refine q _ p [g2, g2, (.flip c)] (s2.trans s3) ⟨_, upd_same, ((Reps.nil.snoc (GT.mono s3 hv2)).snoc (GT.mono s3 hv2)).snoc ⟨ga, rfl, Same.tup (s2.trans s3) hG⟩⟩ ?_ (Nat.le_refl 3)
          exact ok3 hg2 hg2 hok
        · skip
          refine ⟨_, rfl, _, _, rfl, rfl, (by show (0 : Int) < 3; decide), rfl, _, rfl, ifF (decide_eq_false (fun e => hB (V.int.inj e))) (ifF rfl ?_)⟩
          refine ⟨_, rfl, _, _, rfl, rfl, ⟨by decide, by decide⟩, _, rfl, z / 3, n, rfl, h1, h6, fun H2 v2 g2 s2 hg2 hv2 => ?_⟩
          refine ⟨_, rfl, _, rfl, _, rfl, (by show 3 ≤ sizeLine; decide), fun p np => ?_⟩
          have s3 : Same H2 (upd H2 p (.lst [v2, v2, .ref ga])) := same_upd np
          refine q _ p [g2, g2, (.flip c)] (s2.trans s3) ⟨_, upd_same, ((Reps.nil.snoc (GT.mono s3 hv2)).snoc (GT.mono s3 hv2)).snoc ⟨ga, rfl, Same.tup (s2.trans s3) hG⟩⟩ ?_ (Nat.le_refl 3)
          exact ok3 hg2 hg2 hok
    | sign c =>
      have hc : c < n := hok2
      refine ⟨_, rfl, ga, _, _, _, rfl, rfl, hG, atI_nat (j := 1) rfl, ?_⟩
      refine ⟨_, rfl, 1, rfl, ga, _, _, .int (c : Int), rfl, rfl, hG, (show atI ([V.str (W (.sign c))] ++ [V.int (c : Int)]) (-1) = some (V.int (c : Int)) from atI_last _ _), ?_⟩
      by_cases hA : z % 3 = 0
      · skip
        refine ⟨_, rfl, _, _, rfl, rfl, (by show (0 : Int) < 3; decide), rfl, _, rfl, ifT (decide_eq_true (congrArg V.int hA)) ?_⟩
        refine ⟨_, rfl, ga, _, _, _, rfl, rfl, hG, atI_nat (j := 0) rfl, rfl, _, rfl, ifF (show decide (V.str ("sign" : Str) = V.str ("flip" : Str)) = false by decide +kernel) ?_⟩
        refine ⟨_, rfl, _, _, rfl, rfl, (by show (0 : Int) < 3; decide), rfl, _, rfl, ifT (decide_eq_true (congrArg V.int hA)) ?_⟩
        refine ⟨_, rfl, ga, _, _, _, rfl, rfl, hG, atI_nat (j := 0) rfl, rfl, _, rfl, ifT (show decide (V.str ("sign" : Str) = V.str ("sign" : Str)) = true by decide +kernel) ?_⟩
        refine ⟨_, rfl, (by show 2 ≤ sizeLine; decide), fun p1 n1 => ?_⟩
        refine ⟨_, rfl, (by show 2 ≤ sizeLine; decide), fun p2 n2 => ?_⟩
        refine ⟨_, rfl, (by show 2 ≤ sizeLine; decide), fun p3 n3 => ?_⟩
        refine ⟨(by show 3 ≤ sizeLine; decide), fun p np => ?_⟩
        refine q _ p [(.mix c), (.flip c), (.mix c)] (Same.trans (Same.trans (Same.trans (same_upd n1) (same_upd n2)) (same_upd n3)) (same_upd np)) ⟨_, upd_same, (((Reps.nil.snoc (GT.mono (Same.trans (Same.trans (same_upd n2) (same_upd n3)) (same_upd np)) ⟨p1, rfl, SqT.of upd_same⟩)).snoc (GT.mono (Same.trans (same_upd n3) (same_upd np)) ⟨p2, rfl, SqT.of upd_same⟩)).snoc (GT.mono (same_upd np) ⟨p3, rfl, SqT.of upd_same⟩))⟩ ?_ (Nat.le_refl 3)
        exact ok3 (n := n) (show (G.mix c).ok n from hc) (show (G.flip c).ok n from hc) (show (G.mix c).ok n from hc)
      · skip
        refine ⟨_, rfl, _, _, rfl, rfl, (by show (0 : Int) < 3; decide), rfl, _, rfl, ifF (decide_eq_false (fun e => hA (V.int.inj e))) (ifF rfl ?_)⟩
        refine ⟨_, rfl, _, _, rfl, rfl, (by show (0 : Int) < 3; decide), rfl, _, rfl, ifF (decide_eq_false (fun e => hA (V.int.inj e))) (ifF rfl ?_)⟩
        refine ⟨_, rfl, _, _, rfl, rfl, (by show (0 : Int) < 3; decide), rfl, _, rfl, ifF (decide_eq_false (fun e => hA (V.int.inj e))) (ifF rfl ?_)⟩
        refine ⟨_, rfl, _, _, rfl, rfl, (by show (0 : Int) < 3; decide), rfl, _, rfl, ifF (decide_eq_false (fun e => hA (V.int.inj e))) (ifF rfl ?_)⟩
        by_cases hB : z % 3 = 1
        · skip
          refine ⟨_, rfl, _, _, rfl, rfl, (by show (0 : Int) < 3; decide), rfl, _, rfl, ifT (decide_eq_true (congrArg V.int hB)) ?_⟩
          refine ⟨_, rfl, ga, _, _, _, rfl, rfl, hG, atI_nat (j := 0) rfl, rfl, _, rfl, ifF (show decide (V.str ("sign" : Str) = V.str ("meet" : Str)) = false by decide +kernel) ?_⟩
          refine ⟨_, rfl, _, _, rfl, rfl, ⟨by decide, by decide⟩, _, rfl, z / 3, n, rfl, h1, h6, fun H2 v2 g2 s2 hg2 hv2 => ?_⟩
          refine ⟨_, rfl, _, rfl, _, rfl, (by show 3 ≤ sizeLine; decide), fun p np => ?_⟩
          have s3 : Same H2 (upd H2 p (.lst [v2, v2, .ref ga])) := same_upd np
          refine q _ p [g2, g2, (.sign c)] (s2.trans s3) ⟨_, upd_same, ((Reps.nil.snoc (GT.mono s3 hv2)).snoc (GT.mono s3 hv2)).snoc ⟨ga, rfl, Same.tup (s2.trans s3) hG⟩⟩ ?_ (Nat.le_refl 3)
          exact ok3 hg2 hg2 hok
        · skip
          refine ⟨_, rfl, _, _, rfl, rfl, (by show (0 : Int) < 3; decide), rfl, _, rfl, ifF (decide_eq_false (fun e => hB (V.int.inj e))) (ifF rfl ?_)⟩
          refine ⟨_, rfl, _, _, rfl, rfl, ⟨by decide, by decide⟩, _, rfl, z / 3, n, rfl, h1, h6, fun H2 v2 g2 s2 hg2 hv2 => ?_⟩
          refine ⟨_, rfl, _, rfl, _, rfl, (by show 3 ≤ sizeLine; decide), fun p np => ?_⟩
          have s3 : Same H2 (upd H2 p (.lst [v2, v2, .ref ga])) := same_upd np
          refine q _ p [g2, g2, (.sign c)] (s2.trans s3) ⟨_, upd_same, ((Reps.nil.snoc (GT.mono s3 hv2)).snoc (GT.mono s3 hv2)).snoc ⟨ga, rfl, Same.tup (s2.trans s3) hG⟩⟩ ?_ (Nat.le_refl 3)
          exact ok3 hg2 hg2 hok
    | follow c d =>
      obtain ⟨hc, hd, hcd⟩ : c < n ∧ d < n ∧ c ≠ d := hok2
      refine ⟨_, rfl, ga, _, _, _, rfl, rfl, hG, atI_nat (j := 1) rfl, ?_⟩
      refine ⟨_, rfl, 1, rfl, ga, _, _, .int (d : Int), rfl, rfl, hG, (show atI ([V.str (W (.follow c d)), V.int (c : Int)] ++ [V.int (d : Int)]) (-1) = some (V.int (d : Int)) from atI_last _ _), ?_⟩
      by_cases hA : z % 3 = 0
      · skip
        refine ⟨_, rfl, _, _, rfl, rfl, (by show (0 : Int) < 3; decide), rfl, _, rfl, ifT (decide_eq_true (congrArg V.int hA)) ?_⟩
        refine ⟨_, rfl, ga, _, _, _, rfl, rfl, hG, atI_nat (j := 0) rfl, rfl, _, rfl, ifF (show decide (V.str ("follow" : Str) = V.str ("flip" : Str)) = false by decide +kernel) ?_⟩
        refine ⟨_, rfl, _, _, rfl, rfl, (by show (0 : Int) < 3; decide), rfl, _, rfl, ifT (decide_eq_true (congrArg V.int hA)) ?_⟩
        refine ⟨_, rfl, ga, _, _, _, rfl, rfl, hG, atI_nat (j := 0) rfl, rfl, _, rfl, ifF (show decide (V.str ("follow" : Str) = V.str ("sign" : Str)) = false by decide +kernel) ?_⟩
        refine ⟨_, rfl, _, _, rfl, rfl, (by show (0 : Int) < 3; decide), rfl, _, rfl, ifT (decide_eq_true (congrArg V.int hA)) ?_⟩
        refine ⟨_, rfl, ga, _, _, _, rfl, rfl, hG, atI_nat (j := 0) rfl, rfl, _, rfl, ifF (show decide (V.str ("follow" : Str) = V.str ("swap" : Str)) = false by decide +kernel) ?_⟩
        refine ⟨_, rfl, _, _, rfl, rfl, (by show (0 : Int) < 3; decide), rfl, _, rfl, ifT (decide_eq_true (congrArg V.int hA)) ?_⟩
        refine ⟨_, rfl, ga, _, _, _, rfl, rfl, hG, atI_nat (j := 0) rfl, rfl, _, rfl, ifT (show decide (V.str ("follow" : Str) = V.str ("follow" : Str)) = true by decide +kernel) ?_⟩
        refine ⟨_, rfl, (by show 2 ≤ sizeLine; decide), fun p1 n1 => ?_⟩
        refine ⟨_, rfl, _, rfl, (by show 3 ≤ sizeLine; decide), fun p2 n2 => ?_⟩
        refine ⟨_, rfl, (by show 2 ≤ sizeLine; decide), fun p3 n3 => ?_⟩
        refine ⟨(by show 3 ≤ sizeLine; decide), fun p np => ?_⟩
        refine q _ p [(.mix d), (.meet c d), (.mix d)] (Same.trans (Same.trans (Same.trans (same_upd n1) (same_upd n2)) (same_upd n3)) (same_upd np)) ⟨_, upd_same, (((Reps.nil.snoc (GT.mono (Same.trans (Same.trans (same_upd n2) (same_upd n3)) (same_upd np)) ⟨p1, rfl, SqT.of upd_same⟩)).snoc (GT.mono (Same.trans (same_upd n3) (same_upd np)) ⟨p2, rfl, SqT.of upd_same⟩)).snoc (GT.mono (same_upd np) ⟨p3, rfl, SqT.of upd_same⟩))⟩ ?_ (Nat.le_refl 3)
        exact ok3 (n := n) (show (G.mix d).ok n from hd) (show (G.meet c d).ok n from ⟨hc, hd, hcd⟩) (show (G.mix d).ok n from hd)
      · skip
        refine ⟨_, rfl, _, _, rfl, rfl, (by show (0 : Int) < 3; decide), rfl, _, rfl, ifF (decide_eq_false (fun e => hA (V.int.inj e))) (ifF rfl ?_)⟩
        refine ⟨_, rfl, _, _, rfl, rfl, (by show (0 : Int) < 3; decide), rfl, _, rfl, ifF (decide_eq_false (fun e => hA (V.int.inj e))) (ifF rfl ?_)⟩
        refine ⟨_, rfl, _, _, rfl, rfl, (by show (0 : Int) < 3; decide), rfl, _, rfl, ifF (decide_eq_false (fun e => hA (V.int.inj e))) (ifF rfl ?_)⟩
        refine ⟨_, rfl, _, _, rfl, rfl, (by show (0 : Int) < 3; decide), rfl, _, rfl, ifF (decide_eq_false (fun e => hA (V.int.inj e))) (ifF rfl ?_)⟩
        by_cases hB : z % 3 = 1
        · skip
          refine ⟨_, rfl, _, _, rfl, rfl, (by show (0 : Int) < 3; decide), rfl, _, rfl, ifT (decide_eq_true (congrArg V.int hB)) ?_⟩
          refine ⟨_, rfl, ga, _, _, _, rfl, rfl, hG, atI_nat (j := 0) rfl, rfl, _, rfl, ifF (show decide (V.str ("follow" : Str) = V.str ("meet" : Str)) = false by decide +kernel) ?_⟩
          refine ⟨_, rfl, _, _, rfl, rfl, ⟨by decide, by decide⟩, _, rfl, z / 3, n, rfl, h1, h6, fun H2 v2 g2 s2 hg2 hv2 => ?_⟩
          refine ⟨_, rfl, _, rfl, _, rfl, (by show 3 ≤ sizeLine; decide), fun p np => ?_⟩
          have s3 : Same H2 (upd H2 p (.lst [v2, v2, .ref ga])) := same_upd np
          refine q _ p [g2, g2, (.follow c d)] (s2.trans s3) ⟨_, upd_same, ((Reps.nil.snoc (GT.mono s3 hv2)).snoc (GT.mono s3 hv2)).snoc ⟨ga, rfl, Same.tup (s2.trans s3) hG⟩⟩ ?_ (Nat.le_refl 3)
          exact ok3 hg2 hg2 hok
        · skip
          refine ⟨_, rfl, _, _, rfl, rfl, (by show (0 : Int) < 3; decide), rfl, _, rfl, ifF (decide_eq_false (fun e => hB (V.int.inj e))) (ifF rfl ?_)⟩
          refine ⟨_, rfl, _, _, rfl, rfl, ⟨by decide, by decide⟩, _, rfl, z / 3, n, rfl, h1, h6, fun H2 v2 g2 s2 hg2 hv2 => ?_⟩
          refine ⟨_, rfl, _, rfl, _, rfl, (by show 3 ≤ sizeLine; decide), fun p np => ?_⟩
          have s3 : Same H2 (upd H2 p (.lst [v2, v2, .ref ga])) := same_upd np
          refine q _ p [g2, g2, (.follow c d)] (s2.trans s3) ⟨_, upd_same, ((Reps.nil.snoc (GT.mono s3 hv2)).snoc (GT.mono s3 hv2)).snoc ⟨ga, rfl, Same.tup (s2.trans s3) hG⟩⟩ ?_ (Nat.le_refl 3)
          exact ok3 hg2 hg2 hok
    | meet c d =>
      obtain ⟨hc, hd, hcd⟩ : c < n ∧ d < n ∧ c ≠ d := hok2
      refine ⟨_, rfl, ga, _, _, _, rfl, rfl, hG, atI_nat (j := 1) rfl, ?_⟩
      refine ⟨_, rfl, 1, rfl, ga, _, _, .int (d : Int), rfl, rfl, hG, (show atI ([V.str (W (.meet c d)), V.int (c : Int)] ++ [V.int (d : Int)]) (-1) = some (V.int (d : Int)) from atI_last _ _), ?_⟩
      by_cases hA : z % 3 = 0
      · skip
        refine ⟨_, rfl, _, _, rfl, rfl, (by show (0 : Int) < 3; decide), rfl, _, rfl, ifT (decide_eq_true (congrArg V.int hA)) ?_⟩
        refine ⟨_, rfl, ga, _, _, _, rfl, rfl, hG, atI_nat (j := 0) rfl, rfl, _, rfl, ifF (show decide (V.str ("meet" : Str) = V.str ("flip" : Str)) = false by decide +kernel) ?_⟩
        refine ⟨_, rfl, _, _, rfl, rfl, (by show (0 : Int) < 3; decide), rfl, _, rfl, ifT (decide_eq_true (congrArg V.int hA)) ?_⟩
        refine ⟨_, rfl, ga, _, _, _, rfl, rfl, hG, atI_nat (j := 0) rfl, rfl, _, rfl, ifF (show decide (V.str ("meet" : Str) = V.str ("sign" : Str)) = false by decide +kernel) ?_⟩
        refine ⟨_, rfl, _, _, rfl, rfl, (by show (0 : Int) < 3; decide), rfl, _, rfl, ifT (decide_eq_true (congrArg V.int hA)) ?_⟩
        refine ⟨_, rfl, ga, _, _, _, rfl, rfl, hG, atI_nat (j := 0) rfl, rfl, _, rfl, ifF (show decide (V.str ("meet" : Str) = V.str ("swap" : Str)) = false by decide +kernel) ?_⟩
        refine ⟨_, rfl, _, _, rfl, rfl, (by show (0 : Int) < 3; decide), rfl, _, rfl, ifT (decide_eq_true (congrArg V.int hA)) ?_⟩
        refine ⟨_, rfl, ga, _, _, _, rfl, rfl, hG, atI_nat (j := 0) rfl, rfl, _, rfl, ifF (show decide (V.str ("meet" : Str) = V.str ("follow" : Str)) = false by decide +kernel) ?_⟩
        refine ⟨_, rfl, _, _, rfl, rfl, (by show (0 : Int) < 3; decide), rfl, _, rfl, ifF (decide_eq_false (fun e => by have := V.int.inj e; omega)) (ifF rfl ?_)⟩
        refine ⟨_, rfl, _, _, rfl, rfl, ⟨by decide, by decide⟩, _, rfl, z / 3, n, rfl, h1, h6, fun H2 v2 g2 s2 hg2 hv2 => ?_⟩
        refine ⟨_, rfl, _, rfl, _, rfl, (by show 3 ≤ sizeLine; decide), fun p np => ?_⟩
        have s3 : Same H2 (upd H2 p (.lst [v2, v2, .ref ga])) := same_upd np
        refine q _ p [g2, g2, (.meet c d)] (s2.trans s3) ⟨_, upd_same, ((Reps.nil.snoc (GT.mono s3 hv2)).snoc (GT.mono s3 hv2)).snoc ⟨ga, rfl, Same.tup (s2.trans s3) hG⟩⟩ ?_ (Nat.le_refl 3)
        exact ok3 hg2 hg2 hok
      · skip
        refine ⟨_, rfl, _, _, rfl, rfl, (by show (0 : Int) < 3; decide), rfl, _, rfl, ifF (decide_eq_false (fun e => hA (V.int.inj e))) (ifF rfl ?_)⟩
        refine ⟨_, rfl, _, _, rfl, rfl, (by show (0 : Int) < 3; decide), rfl, _, rfl, ifF (decide_eq_false (fun e => hA (V.int.inj e))) (ifF rfl ?_)⟩
        refine ⟨_, rfl, _, _, rfl, rfl, (by show (0 : Int) < 3; decide), rfl, _, rfl, ifF (decide_eq_false (fun e => hA (V.int.inj e))) (ifF rfl ?_)⟩
        refine ⟨_, rfl, _, _, rfl, rfl, (by show (0 : Int) < 3; decide), rfl, _, rfl, ifF (decide_eq_false (fun e => hA (V.int.inj e))) (ifF rfl ?_)⟩
        by_cases hB : z % 3 = 1
        · skip
          refine ⟨_, rfl, _, _, rfl, rfl, (by show (0 : Int) < 3; decide), rfl, _, rfl, ifT (decide_eq_true (congrArg V.int hB)) ?_⟩
          refine ⟨_, rfl, ga, _, _, _, rfl, rfl, hG, atI_nat (j := 0) rfl, rfl, _, rfl, ifT (show decide (V.str ("meet" : Str) = V.str ("meet" : Str)) = true by decide +kernel) ?_⟩
          refine ⟨_, rfl, _, rfl, (by show 3 ≤ sizeLine; decide), fun p1 n1 => ?_⟩
          refine ⟨(by show 1 ≤ sizeLine; decide), fun p np => ?_⟩
          refine q _ p [(.meet d c)] (Same.trans (same_upd n1) (same_upd np)) ⟨_, upd_same, (Reps.nil.snoc (GT.mono (same_upd np) ⟨p1, rfl, SqT.of upd_same⟩))⟩ ?_ (by show 1 ≤ 3; decide)
          exact ok1 (n := n) (show (G.meet d c).ok n from ⟨hd, hc, fun e => hcd e.symm⟩)
        · skip
          refine ⟨_, rfl, _, _, rfl, rfl, (by show (0 : Int) < 3; decide), rfl, _, rfl, ifF (decide_eq_false (fun e => hB (V.int.inj e))) (ifF rfl ?_)⟩
          refine ⟨_, rfl, _, _, rfl, rfl, ⟨by decide, by decide⟩, _, rfl, z / 3, n, rfl, h1, h6, fun H2 v2 g2 s2 hg2 hv2 => ?_⟩
          refine ⟨_, rfl, _, rfl, _, rfl, (by show 3 ≤ sizeLine; decide), fun p np => ?_⟩
          have s3 : Same H2 (upd H2 p (.lst [v2, v2, .ref ga])) := same_upd np
          refine q _ p [g2, g2, (.meet c d)] (s2.trans s3) ⟨_, upd_same, ((Reps.nil.snoc (GT.mono s3 hv2)).snoc (GT.mono s3 hv2)).snoc ⟨ga, rfl, Same.tup (s2.trans s3) hG⟩⟩ ?_ (Nat.le_refl 3)
          exact ok3 hg2 hg2 hok
    | swap c d =>
      obtain ⟨hc, hd, hcd⟩ : c < n ∧ d < n ∧ c ≠ d := hok2
      refine ⟨_, rfl, ga, _, _, _, rfl, rfl, hG, atI_nat (j := 1) rfl, ?_⟩
      refine ⟨_, rfl, 1, rfl, ga, _, _, .int (d : Int), rfl, rfl, hG, (show atI ([V.str (W (.swap c d)), V.int (c : Int)] ++ [V.int (d : Int)]) (-1) = some (V.int (d : Int)) from atI_last _ _), ?_⟩
      by_cases hA : z % 3 = 0
      · skip
        refine ⟨_, rfl, _, _, rfl, rfl, (by show (0 : Int) < 3; decide), rfl, _, rfl, ifT (decide_eq_true (congrArg V.int hA)) ?_⟩
        refine ⟨_, rfl, ga, _, _, _, rfl, rfl, hG, atI_nat (j := 0) rfl, rfl, _, rfl, ifF (show decide (V.str ("swap" : Str) = V.str ("flip" : Str)) = false by decide +kernel) ?_⟩
        refine ⟨_, rfl, _, _, rfl, rfl, (by show (0 : Int) < 3; decide), rfl, _, rfl, ifT (decide_eq_true (congrArg V.int hA)) ?_⟩
        refine ⟨_, rfl, ga, _, _, _, rfl, rfl, hG, atI_nat (j := 0) rfl, rfl, _, rfl, ifF (show decide (V.str ("swap" : Str) = V.str ("sign" : Str)) = false by decide +kernel) ?_⟩
        refine ⟨_, rfl, _, _, rfl, rfl, (by show (0 : Int) < 3; decide), rfl, _, rfl, ifT (decide_eq_true (congrArg V.int hA)) ?_⟩
        refine ⟨_, rfl, ga, _, _, _, rfl, rfl, hG, atI_nat (j := 0) rfl, rfl, _, rfl, ifT (show decide (V.str ("swap" : Str) = V.str ("swap" : Str)) = true by decide +kernel) ?_⟩
        refine ⟨_, rfl, _, rfl, (by show 3 ≤ sizeLine; decide), fun p1 n1 => ?_⟩
        refine ⟨_, rfl, _, rfl, (by show 3 ≤ sizeLine; decide), fun p2 n2 => ?_⟩
        refine ⟨_, rfl, _, rfl, (by show 3 ≤ sizeLine; decide), fun p3 n3 => ?_⟩
        refine ⟨(by show 3 ≤ sizeLine; decide), fun p np => ?_⟩
        refine q _ p [(.follow c d), (.follow d c), (.follow c d)] (Same.trans (Same.trans (Same.trans (same_upd n1) (same_upd n2)) (same_upd n3)) (same_upd np)) ⟨_, upd_same, (((Reps.nil.snoc (GT.mono (Same.trans (Same.trans (same_upd n2) (same_upd n3)) (same_upd np)) ⟨p1, rfl, SqT.of upd_same⟩)).snoc (GT.mono (Same.trans (same_upd n3) (same_upd np)) ⟨p2, rfl, SqT.of upd_same⟩)).snoc (GT.mono (same_upd np) ⟨p3, rfl, SqT.of upd_same⟩))⟩ ?_ (Nat.le_refl 3)
        exact ok3 (n := n) (show (G.follow c d).ok n from ⟨hc, hd, hcd⟩) (show (G.follow d c).ok n from ⟨hd, hc, fun e => hcd e.symm⟩) (show (G.follow c d).ok n from ⟨hc, hd, hcd⟩)
      · skip
        refine ⟨_, rfl, _, _, rfl, rfl, (by show (0 : Int) < 3; decide), rfl, _, rfl, ifF (decide_eq_false (fun e => hA (V.int.inj e))) (ifF rfl ?_)⟩
        refine ⟨_, rfl, _, _, rfl, rfl, (by show (0 : Int) < 3; decide), rfl, _, rfl, ifF (decide_eq_false (fun e => hA (V.int.inj e))) (ifF rfl ?_)⟩
        refine ⟨_, rfl, _, _, rfl, rfl, (by show (0 : Int) < 3; decide), rfl, _, rfl, ifF (decide_eq_false (fun e => hA (V.int.inj e))) (ifF rfl ?_)⟩
        refine ⟨_, rfl, _, _, rfl, rfl, (by show (0 : Int) < 3; decide), rfl, _, rfl, ifF (decide_eq_false (fun e => hA (V.int.inj e))) (ifF rfl ?_)⟩
        by_cases hB : z % 3 = 1
        · skip
          refine ⟨_, rfl, _, _, rfl, rfl, (by show (0 : Int) < 3; decide), rfl, _, rfl, ifT (decide_eq_true (congrArg V.int hB)) ?_⟩
          refine ⟨_, rfl, ga, _, _, _, rfl, rfl, hG, atI_nat (j := 0) rfl, rfl, _, rfl, ifF (show decide (V.str ("swap" : Str) = V.str ("meet" : Str)) = false by decide +kernel) ?_⟩
          refine ⟨_, rfl, _, _, rfl, rfl, ⟨by decide, by decide⟩, _, rfl, z / 3, n, rfl, h1, h6, fun H2 v2 g2 s2 hg2 hv2 => ?_⟩
          refine ⟨_, rfl, _, rfl, _, rfl, (by show 3 ≤ sizeLine; decide), fun p np => ?_⟩
          have s3 : Same H2 (upd H2 p (.lst [v2, v2, .ref ga])) := same_upd np
          refine q _ p [g2, g2, (.swap c d)] (s2.trans s3) ⟨_, upd_same, ((Reps.nil.snoc (GT.mono s3 hv2)).snoc (GT.mono s3 hv2)).snoc ⟨ga, rfl, Same.tup (s2.trans s3) hG⟩⟩ ?_ (Nat.le_refl 3)
          exact ok3 hg2 hg2 hok
        · skip
          refine ⟨_, rfl, _, _, rfl, rfl, (by show (0 : Int) < 3; decide), rfl, _, rfl, ifF (decide_eq_false (fun e => hB (V.int.inj e))) (ifF rfl ?_)⟩
          refine ⟨_, rfl, _, _, rfl, rfl, ⟨by decide, by decide⟩, _, rfl, z / 3, n, rfl, h1, h6, fun H2 v2 g2 s2 hg2 hv2 => ?_⟩
          refine ⟨_, rfl, _, rfl, _, rfl, (by show 3 ≤ sizeLine; decide), fun p np => ?_⟩
          have s3 : Same H2 (upd H2 p (.lst [v2, v2, .ref ga])) := same_upd np
          refine q _ p [g2, g2, (.swap c d)] (s2.trans s3) ⟨_, upd_same, ((Reps.nil.snoc (GT.mono s3 hv2)).snoc (GT.mono s3 hv2)).snoc ⟨ga, rfl, Same.tup (s2.trans s3) hG⟩⟩ ?_ (Nat.le_refl 3)
          exact ok3 hg2 hg2 hok
end
end TC
set_option Elab.async false
set_option linter.all false
set_option maxRecDepth 100000
set_option maxHeartbeats 4000000
/-! Turncoins, the law's own defs: rows of gates rewritten, written as texts; a cell of the script. -/
namespace TC
open PySem PySem.Spec PyProof.Rows L2
theorem Reps.cut {α : Type} {R : V → α → Prop} {vs : List V} {xs : List α} (h : Reps R vs xs) (lo hi : Option Int) : ∃ ys, Reps R (cutV vs lo hi) ys ∧ (∀ y ∈ ys, y ∈ xs) ∧ ys.length ≤ xs.length := by
  refine ⟨(xs.drop (HT.sIx vs.length 0 lo)).take (HT.sIx vs.length vs.length hi - HT.sIx vs.length 0 lo), (h.drop _).take _, fun y hy => List.mem_of_mem_drop (List.mem_of_mem_take hy), ?_⟩
  rw [List.length_take, List.length_drop]
  omega
section
variable {P : Program} {w : World} {K : PySem.W.Frag} {mg : Str → Option Value} {base : Heap}
def spRewr (K : PySem.W.Frag) : Sp := fun vs H Q _ => ∃ (a : Addr) (z : Int) (n : Nat) (gs : List G), vs = [.ref a, .int z, .int (n : Int)] ∧ GTs K H a gs ∧ okAll n gs ∧ gs.length ≤ 20 ∧ 1 ≤ n ∧ n ≤ 6 ∧ ∀ H' p gs', Same H H' → GTs K H' p gs' → okAll n gs' → gs'.length ≤ 200 → Q (.ref p) H'
theorem scRewr : FnScope ["_law_gates", "_law_cell_here", "_law_coins", "_law_some", "_law_k", "_law_at"] ["_law_gates", "_law_cell_here", "_law_coins"] (defScope s__law_rewritten) := ⟨rfl, rfl, rfl, by decide +kernel, rfl, by decide +kernel, by decide +kernel⟩
theorem ok_rewr (D : Def K mg "_law_rewritten" s__law_rewritten) (T : Free mg) (LG : Has P w K mg base 1 "_law_gate" ["_law_cell_here", "_law_coins"] (spLGate K)) (LO : Has P w K mg base 2 "_law_otherwise" ["_law_gate_here", "_law_cell_here", "_law_coins"] (spOther K)) :
    Has P w K mg base 3 "_law_rewritten" ["_law_gates", "_law_cell_here", "_law_coins"] (spRewr K) := by
  refine has_of D scRewr (fun vs H Q E h => ?_) (fun _ _ _ _ _ _ us hl => match us, hl with | [_, _, _], _ => rfl) (fun f cdv A outer s H vs Q E hr h => ?_)
  · obtain ⟨a, z, n, gs, rfl, _⟩ := h
    rfl
  · obtain ⟨a, z, n, gs, rfl, ⟨ws, hA, hW⟩, hok, h20, h1, h6, q⟩ := h
    refine ⟨_, pss_cons (ps_set (i := 3) scRewr.nd rfl (.inl rfl) (pe_lst pa_nil))
      (pss_cons (ps_for PassesOwn.never rfl (pi_range1 (by rfl) T.range (pa_cons (pe_callB call_len_seq (by rfl) T.len PySem.boot_len (pa_cons (pv 0) pa_nil)) pa_nil)) (pg_name (i := 4) scRewr.nd rfl (.inl rfl))
        (pss_one (ps_if (pt_cmpR op_eq (pe_op op_mod (pe_op op_fdiv (pv 1) (pe_op op_add (pv 4) pe_int)) pe_int) pe_int (nomark _))
          (pss_one (ps_set (i := 3) scRewr.nd rfl (.inl rfl) (pe_op op_cat (pv 3) (pe_h LO hr (by decide) (by rfl) (pa_cons (pe_ix ix_list (pv 0) (pv 4) (fun _ _ => rfl)) (pa_cons (pe_op op_fdiv (pv 1) (pe_op op_add (pe_op op_mul pe_int (pv 4)) pe_int)) (pa_cons (pv 2) pa_nil)))))))
          (pss_one (ps_set (i := 3) scRewr.nd rfl (.inl rfl) (pe_op op_cat (pv 3) (pe_lst (pa_cons (pe_ix ix_list (pv 0) (pv 4) (fun _ _ => rfl)) pa_nil))))))))
      (pss_cons (ps_if (pt_cmpR op_eq (pe_op op_mod (pe_op op_fdiv (pv 1) pe_int) pe_int) pe_int (nomark _))
        (pss_cons (ps_set (i := 5) scRewr.nd rfl (.inl rfl) (pe_op op_mod (pe_op op_fdiv (pv 1) pe_int) (pe_op op_add (pe_callB call_len_seq (by rfl) T.len PySem.boot_len (pa_cons (pv 3) pa_nil)) pe_int)))
        (pss_one (ps_set (i := 3) scRewr.nd rfl (.inl rfl) (pe_op op_cat (pe_op op_cat (pe_slice sl_list (pv 3) po_none (po_some (pv 5))) (pe_lst (pa_cons (pe_h LG hr (by decide) (by rfl) (pa_cons (pe_op op_fdiv (pv 1) pe_int) (pa_cons (pv 2) pa_nil))) pa_nil))) (pe_slice sl_list (pv 3) (po_some (pv 5)) po_none))))) pss_nil)
      (pss_one (ps_ret (pv 3))))), ?_⟩
    refine ⟨Nat.zero_le _, fun p0 n0 => ?_⟩
    have s0 : Same H (upd H p0 (.lst [])) := same_upd n0
    have hwl : ws.length ≤ 20 := by rw [hW.len]; exact h20
    refine ⟨_, rfl, a, _, rfl, .inl (SqL.of (s0 _ _ hA)), (ws.length : Int), rfl, by omega, by omega, ?_⟩
    refine for_range (lo := 0) (n := ws.length) (fun i σ H' => ∃ p v4 ms gs', σ = [some (.ref a), some (.int z), some (.int (n : Int)), some (.ref p), v4, none] ∧ Same H H' ∧ H' p = some (.lst ms) ∧ Reps (GT K H') ms gs' ∧ okAll n gs' ∧ gs'.length ≤ 3 * i)
      ⟨p0, none, [], [], rfl, s0, upd_same, Reps.nil, (fun _ h => by cases h), Nat.le_refl _⟩ ?_ ?_
    · rintro i σ H' hi ⟨p, v4, ms, gs', rfl, s1, hp, hM, hok', hl'⟩
      rw [Int.zero_add]
      obtain ⟨g, hg, hx⟩ := hW.get (List.getElem?_eq_getElem hi)
      have hgo := hok g (List.mem_of_getElem? hg)
      refine ⟨_, rfl, _, rfl, _, _, rfl, rfl, _, _, rfl, rfl, ⟨by show (0 : Int) < (i : Int) + 1; omega, by show (i : Int) + 1 < 1073741824; omega⟩, _, _, rfl, rfl, (by show (0 : Int) < 5; decide), rfl, _, rfl, ite2 (fun _ => ?_) (fun _ => ?_)⟩
      · refine ⟨_, rfl, _, rfl, _, rfl, a, ws, _, _, rfl, rfl, SqL.of (s1 _ _ hA), atI_nat (List.getElem?_eq_getElem hi), _, rfl, _, rfl, _, _, rfl, rfl, .inl (by decide), _, _, rfl, rfl, _, _, rfl, rfl, ⟨by show (0 : Int) < 7 * (i : Int) + 5; omega, by show 7 * (i : Int) + 5 < 1073741824; omega⟩, _, rfl, _, _, n, g, rfl, GT.mono s1 hx, hgo, h1, h6, fun H2 p2 gs2 s2 ⟨ns, hp2, hN⟩ hok2 hl2 => ?_⟩
        refine ⟨p, p2, ms, ns, rfl, rfl, s2 _ _ hp, hp2, ?_, fun p3 n3 => ?_⟩
        · rw [hM.len, hN.len]
          exact Nat.le_of_lt (small1000 (by omega))
        · have s3 : Same H2 (upd H2 p3 (.lst (ms ++ ns))) := same_upd n3
          refine ⟨p3, _, ms ++ ns, gs' ++ gs2, rfl, (s1.trans s2).trans s3, upd_same, (hM.mono fun v x r => GT.mono (s2.trans s3) r).app (hN.mono fun v x r => GT.mono s3 r), ?_, ?_⟩
          · intro y hy
            rcases List.mem_append.mp hy with hy | hy
            · exact hok' y hy
            · exact hok2 y hy
          · rw [List.length_append]
            omega
      · refine ⟨_, rfl, _, rfl, _, rfl, a, ws, _, _, rfl, rfl, SqL.of (s1 _ _ hA), atI_nat (List.getElem?_eq_getElem hi), (by show 1 ≤ sizeLine; decide), fun p2 n2 => ?_⟩
        have s2 : Same H' (upd H' p2 (.lst [ws[i]])) := same_upd n2
        refine ⟨p, p2, ms, [ws[i]], rfl, rfl, s2 _ _ hp, upd_same, ?_, fun p3 n3 => ?_⟩
        · rw [hM.len]
          exact Nat.le_of_lt (small1000 (by show gs'.length + 1 ≤ 1000; omega))
        · have s3 : Same (upd H' p2 (.lst [ws[i]])) (upd (upd H' p2 (.lst [ws[i]])) p3 (.lst (ms ++ [ws[i]]))) := same_upd n3
          refine ⟨p3, _, ms ++ [ws[i]], gs' ++ [g], rfl, (s1.trans s2).trans s3, upd_same, (hM.mono fun v x r => GT.mono (s2.trans s3) r).snoc (GT.mono ((s1.trans s2).trans s3) hx), ?_, ?_⟩
          · intro y hy
            rcases List.mem_append.mp hy with hy | hy
            · exact hok' y hy
            · rw [List.mem_singleton.mp hy]
              exact hgo
          · rw [List.length_append]
            show gs'.length + 1 ≤ 3 * (i + 1)
            omega
    · rintro σ H' ⟨p, v4, ms, gs', rfl, s1, hp, hM, hok', hl'⟩
      have hl60 : gs'.length ≤ 60 := by omega
      refine ⟨_, rfl, _, _, rfl, rfl, ⟨by decide, by decide⟩, _, _, rfl, rfl, (by show (0 : Int) < 2; decide), rfl, _, rfl, ite2 (fun _ => ?_) (fun _ => ?_)⟩
      · refine ⟨_, rfl, _, _, rfl, rfl, ⟨by decide, by decide⟩, _, rfl, p, _, rfl, .inl (SqL.of hp), _, _, rfl, rfl, _, _, rfl, rfl, (by show (0 : Int) < (ms.length : Int) + 1; omega), ?_⟩
        refine ⟨_, rfl, _, rfl, _, rfl, p, ms, rfl, SqL.of hp, fun p2 n2 => ?_⟩
        obtain ⟨ys, hY, hYs, hYl⟩ := hM.cut none (some (z / 6 % ((ms.length : Int) + 1)))
        have s2 : Same H' (upd H' p2 (.lst (cutV ms none (some (z / 6 % ((ms.length : Int) + 1)))))) := same_upd n2
        have hp2 : (upd H' p2 (.lst (cutV ms none (some (z / 6 % ((ms.length : Int) + 1)))))) p2 = some (.lst (cutV ms none (some (z / 6 % ((ms.length : Int) + 1))))) := upd_same
        generalize upd H' p2 (.lst (cutV ms none (some (z / 6 % ((ms.length : Int) + 1))))) = H2 at s2 hp2
        refine ⟨_, rfl, _, _, rfl, rfl, ⟨by decide, by decide⟩, _, rfl, _, n, rfl, h1, h6, fun H3 v3 g3 s3 hg3 hv3 => ?_⟩
        refine ⟨(by show 1 ≤ sizeLine; decide), fun p4 n4 => ?_⟩
        have s4 : Same H3 (upd H3 p4 (.lst [v3])) := same_upd n4
        have hp4 : (upd H3 p4 (.lst [v3])) p4 = some (.lst [v3]) := upd_same
        generalize upd H3 p4 (.lst [v3]) = H4 at s4 hp4
        refine ⟨p2, p4, _, _, rfl, rfl, s4 _ _ (s3 _ _ hp2), hp4, ?_, fun p5 n5 => ?_⟩
        · rw [hY.len]
          exact Nat.le_of_lt (small1000 (by show ys.length + 1 ≤ 1000; omega))
        have s5 : Same H4 (upd H4 p5 (.lst (cutV ms none (some (z / 6 % ((ms.length : Int) + 1))) ++ [v3]))) := same_upd n5
        have hp5 : (upd H4 p5 (.lst (cutV ms none (some (z / 6 % ((ms.length : Int) + 1))) ++ [v3]))) p5 = some (.lst (cutV ms none (some (z / 6 % ((ms.length : Int) + 1))) ++ [v3])) := upd_same
        generalize upd H4 p5 (.lst (cutV ms none (some (z / 6 % ((ms.length : Int) + 1))) ++ [v3])) = H5 at s5 hp5
        have s25 : Same H' H5 := ((s2.trans s3).trans s4).trans s5
        obtain ⟨xs, hX, hXs, hXl⟩ := hM.cut (some (z / 6 % ((ms.length : Int) + 1))) none
        refine ⟨_, rfl, _, rfl, _, rfl, p, ms, rfl, SqL.of (s25 _ _ hp), fun p6 n6 => ?_⟩
        have s6 : Same H5 (upd H5 p6 (.lst (cutV ms (some (z / 6 % ((ms.length : Int) + 1))) none))) := same_upd n6
        have hp6 : (upd H5 p6 (.lst (cutV ms (some (z / 6 % ((ms.length : Int) + 1))) none))) p6 = some (.lst (cutV ms (some (z / 6 % ((ms.length : Int) + 1))) none)) := upd_same
        generalize upd H5 p6 (.lst (cutV ms (some (z / 6 % ((ms.length : Int) + 1))) none)) = H6 at s6 hp6
        refine ⟨p5, p6, _, _, rfl, rfl, s6 _ _ hp5, hp6, ?_, fun p7 n7 => ?_⟩
        · rw [List.length_append, hY.len, hX.len]
          exact Nat.le_of_lt (small1000 (by show ys.length + 1 + xs.length ≤ 1000; omega))
        have s7 : Same H6 (upd H6 p7 (.lst ((cutV ms none (some (z / 6 % ((ms.length : Int) + 1))) ++ [v3]) ++ cutV ms (some (z / 6 % ((ms.length : Int) + 1))) none))) := same_upd n7
        refine ⟨_, rfl, q _ p7 ((ys ++ [g3]) ++ xs) (s1.trans (s25.trans (s6.trans s7))) ⟨_, upd_same, ?_⟩ ?_ ?_⟩
        · exact ((hY.mono fun v x r => GT.mono (s25.trans (s6.trans s7)) r).snoc (GT.mono ((s4.trans s5).trans (s6.trans s7)) hv3)).app (hX.mono fun v x r => GT.mono (s25.trans (s6.trans s7)) r)
        · intro y hy
          rcases List.mem_append.mp hy with hy | hy
          · rcases List.mem_append.mp hy with hy | hy
            · exact hok' y (hYs y hy)
            · rw [List.mem_singleton.mp hy]
              exact hg3
          · exact hok' y (hXs y hy)
        · rw [List.length_append, List.length_append]
          show ys.length + 1 + xs.length ≤ 200
          omega
      · exact ⟨_, rfl, q H' p gs' s1 ⟨ms, hp, hM⟩ hok' (by omega)⟩
end
end TC
set_option Elab.async false
set_option linter.all false
set_option maxRecDepth 100000
set_option maxHeartbeats 4000000
/-! Turncoins, the law's own defs: a row of gates as a text. -/
namespace TC
open PySem PySem.Spec PyProof.Rows L2
section
variable {P : Program} {w : World} {K : PySem.W.Frag} {mg : Str → Option Value} {base : Heap}
def spGText (K : PySem.W.Frag) : Sp := fun vs H Q _ => ∃ (a : Addr) (n : Nat) (gs : List G), vs = [.ref a] ∧ GTs K H a gs ∧ n ≤ 10 ∧ okAll n gs ∧ gs.length ≤ 200 ∧ ∀ H', Same H H' → Q (.str (gstext gs)) H'
theorem scGText : FnScope ["_law_gates", "_law_gate_here", "_law_coin"] ["_law_gates"] (defScope s__law_gates_text) := ⟨rfl, rfl, rfl, by decide +kernel, rfl, by decide +kernel, by decide +kernel⟩
/-- readings that say K itself: within a comprehension a reading may not hang on the comprehension's context -/
def rJoin (K : PySem.W.Frag) : V → List V → Hp → VK → Prop := fun x xs H Q => ∃ a p, ∃ ys : List Str, x = .str a ∧ xs = [.ref p] ∧ (SqL K H p (ys.map V.str) ∨ SqT K H p (ys.map V.str)) ∧ (ys.map (·.length)).sum + ys.length * a.length ≤ 16777216 ∧ Q (.str (Txt.join a ys)) H
section
variable {X : Cx} {o e : Expr} {tg : Expr} {to te : TE}
theorem pe_joinK (K : PySem.W.Frag) {apos pos : Pos} (hK : X.K = K) (ho : PE X o to) (he : PE X e te) (hs : starEach [e] X.env = [(false, eval e X.env)] := by rfl) (hbase : attributeBase o "join" X.env (eval o X.env) = eval o X.env := by rfl) (hline : (apos.endLine == pos.line) = true := by rfl) :
    PE X (.Call (.Attribute o "join" apos) [e] [] pos) (tM1 (rJoin K) to te) := by
  subst hK
  exact pe_join ho he hs hbase hline
theorem ix_tupK (K : PySem.W.Frag) (hK : X.K = K) : IxR X (rIxT K) := by
  subst hK
  exact ix_tup
theorem ix_listK (K : PySem.W.Frag) (hK : X.K = K) : IxR X (rIxL K) := by
  subst hK
  exact ix_list
theorem sl_tupK (K : PySem.W.Frag) (hK : X.K = K) : SlR X (rSlT K) := by
  subst hK
  exact sl_tup
theorem pi_tupK (K : PySem.W.Frag) (hK : X.K = K) (hl : PE X e te) : PI X tg e (iTup K te) := by
  subst hK
  exact pi_tup hl
end
def lcScope : Expr → Scope
  | .ListComp _ _ sc _ => sc
  | _ => defScope (top 0)
def gtOuter : Scope := match defBody s__law_gates_text with
  | [.Return (some (.Call _ [e] _ _)) _] => lcScope e
  | _ => defScope (top 0)
theorem ok_gtext (D : Def K mg "_law_gates_text" s__law_gates_text) (T : Free mg) : Has P w K mg base 1 "_law_gates_text" ["_law_gates"] (spGText K) := by
  refine has_of D scGText (fun vs H Q E h => ?_) (fun _ _ _ _ _ _ us hl => match us, hl with | [_], _ => rfl) (fun f cdv A outer s H vs Q E hr h => ?_)
  · obtain ⟨a, n, gs, rfl, _⟩ := h
    rfl
  · obtain ⟨a, n, gs, rfl, ⟨ws, hA, hW⟩, hn, hok, h200, q⟩ := h
    refine ⟨_, pss_one (ps_ret (pe_join pe_str (pe_lc (own := [("_law_gate_here", 1)]) (g := gName 1) (tt := tYes) rfl scGText.nd (pi_list (pv 0))
      (blkOk_by (own := [("_law_gate_here", 1)]) (N := ["_law_gates", "_law_gate_here", "_law_coin"]) (sc := defScope s__law_gates_text) (by decide +kernel)) (fun _ _ _ _ _ => pg_name (i := 1) scGText.nd rfl (Or.inl rfl)) (fun _ _ _ _ _ => pts_nil)
      (fun _ _ _ _ _ => pe_joinK K rfl pe_str (pe_op op_cat (pe_lst (pa_cons (pe_ix (ix_tupK K rfl) (pv 1) pe_int (fun _ _ => rfl)) pa_nil))
        (pe_lc (own := [("_law_coin", 2)]) (g := gName 2) (tt := tYes) rfl scGText.nd (pi_tupK K rfl (pe_slice (sl_tupK K rfl) (pv 1) (po_some pe_int) po_none))
          (by exact blkOk_by (own := [("_law_coin", 2)]) (N := ["_law_gates", "_law_gate_here", "_law_coin"]) (sc := relS gtOuter (defScope s__law_gates_text)) (by decide +kernel)) (fun _ _ _ _ _ => pg_name (i := 2) scGText.nd rfl (Or.inl rfl)) (fun _ _ _ _ _ => pts_nil)
          (fun _ _ _ _ _ => pe_callTy call_str_int (by rfl) T.str (by decide +kernel) (pa_cons (pv 2) pa_nil)))))))), ?_⟩
    refine ⟨⟨_, rfl⟩, _, rfl, a, rfl, ⟨_, SqL.of hA⟩, fun Dd nD => lc_list (K := K) (a := a) (xs := ws) (fun i H' => Same H H' ∧ H' Dd = some (.lst (((gs.take i).map gtext).map V.str)))
      ⟨same_upd nD, upd_same⟩ (fun i H' _ ⟨s1, _⟩ => SqL.of (s1 _ _ hA)) ?_ ?_⟩
    · rintro i x H' hi ⟨s1, hD⟩
      obtain ⟨g, hg, ga, rfl, hG⟩ := hW.get hi
      have hgo := hok g (List.mem_of_getElem? hg)
      have hG1 := Same.tup s1 hG
      refine ⟨rfl, ?_⟩
      refine ⟨⟨_, rfl⟩, _, rfl, ga, _, _, _, rfl, rfl, hG1, atI_nat (j := 0) rfl, (by show 1 ≤ sizeLine; decide), fun p2 n2 => ?_⟩
      have s2 : Same H' (upd H' p2 (.lst [.str (W g)])) := same_upd n2
      have hp2 : (upd H' p2 (.lst [.str (W g)])) p2 = some (.lst [.str (W g)]) := upd_same
      generalize upd H' p2 (.lst [.str (W g)]) = H2 at s2 hp2
      have hlen : (1 : Nat) < (gtup g).length := by
        rw [gtup_len]
        cases g <;> simp [cs]
      refine ⟨_, rfl, 1, rfl, ga, _, rfl, Same.tup s2 hG1, fun ⟨z, _⟩ => ?_, fun p3 n3 => ?_⟩
      · rw [show HT.sIx (gtup g).length 0 (some 1) = min 1 (gtup g).length from HT.sIx_nat _ 0 1] at z
        omega
      rw [show cutV (gtup g) (some 1) none = (cs g).map fun (c : Nat) => V.int (c : Int) from cut1 _]
      have s3 : Same H2 (upd H2 p3 (.tup ((cs g).map fun (c : Nat) => V.int (c : Int)))) := same_upd n3
      have hp3 : SqT K (upd H2 p3 (.tup ((cs g).map fun (c : Nat) => V.int (c : Int)))) p3 ((cs g).map fun (c : Nat) => V.int (c : Int)) := SqT.of upd_same
      generalize upd H2 p3 (.tup ((cs g).map fun (c : Nat) => V.int (c : Int))) = H3 at s3 hp3
      have hcl : (cs g).length ≤ 2 := by cases g <;> simp [cs]
      refine ⟨p3, rfl, ⟨_, hp3⟩, fun D2 nD2 => lc_tup (K := K) (a := p3) (xs := (cs g).map fun (c : Nat) => V.int (c : Int)) (fun j H' => Same H3 H' ∧ H' D2 = some (.lst (((cs g).take j).map fun c => V.str (num c))))
        ⟨same_upd nD2, upd_same⟩ (fun j H' _ ⟨s4, _⟩ => Same.tup s4 hp3) ?_ ?_⟩
      · rintro j x H4 hj ⟨s4, hD2⟩
        rw [List.getElem?_map] at hj
        obtain ⟨c, hc, rfl⟩ := Option.map_eq_some_iff.mp hj
        have hcn := cs_lt hgo c (List.mem_of_getElem? hc)
        refine ⟨rfl, ?_⟩
        refine ⟨_, rfl, (c : Int), rfl, ?_, _, hD2, small1000 ?_, same_at nD2 s4, ?_⟩
        · rw [Int.natAbs_natCast]
          exact Nat.lt_of_le_of_lt (Nat.log2_le_self c) (by omega)
        · rw [List.length_map, List.length_take]
          omega
        · rw [upd_same, take_snoc hc, List.map_append]
          rfl
      · rintro H4 ⟨s4, hD2⟩
        rw [List.length_map, List.take_length] at hD2
        have s34 := s3.trans s4
        refine ⟨p2, D2, _, _, rfl, rfl, s34 _ _ hp2, hD2, ?_, fun p5 n5 => ?_⟩
        · rw [List.length_map]
          exact Nat.le_of_lt (small1000 (by show 1 + (cs g).length ≤ 1000; omega))
        have e5 : ([.str (W g)] ++ (cs g).map fun c => V.str (num c)) = (gwords g).map V.str := by
          show _ = V.str (W g) :: ((cs g).map num).map V.str
          rw [List.map_map]
          rfl
        rw [e5]
        have s5 : Same H4 (upd H4 p5 (.lst ((gwords g).map V.str))) := same_upd n5
        have hp5 : (upd H4 p5 (.lst ((gwords g).map V.str))) p5 = some (.lst ((gwords g).map V.str)) := upd_same
        generalize upd H4 p5 (.lst ((gwords g).map V.str)) = H5 at s5 hp5
        have s15 : Same H' H5 := (s2.trans s34).trans s5
        refine ⟨_, p5, gwords g, rfl, rfl, .inl (SqL.of hp5), ?_, _, s15 _ _ hD, small1000 ?_, ?_, ?_⟩
        · have h1 := sum_len (gwords_len hn hgo)
          have h2 := (gwords_3 g).1
          have h3 : (" " : Str).length = 1 := by decide +kernel
          rw [h3]
          exact Nat.le_trans (show _ ≤ 100 by omega) (by decide)
        · rw [List.length_map, List.length_map, List.length_take]
          omega
        · exact same_at nD (s1.trans s15)
        · rw [upd_same, take_snoc hg, List.map_append, List.map_append]
          rfl
    · rintro H' ⟨s1, hD⟩
      rw [hW.len, List.take_length] at hD
      refine ⟨_, Dd, gs.map gtext, rfl, rfl, .inl (SqL.of hD), ?_, q _ s1⟩
      have h1 := sum_len (k := 21) (l := gs.map gtext) fun p hp => by
        obtain ⟨g, hg, rfl⟩ := List.mem_map.mp hp
        exact gtext_len hn (hok g hg)
      have h3 : ("; " : Str).length = 2 := by decide +kernel
      rw [List.length_map] at h1
      rw [h3, List.length_map]
      exact Nat.le_trans (show _ ≤ 6000 by omega) (by decide)
end
end TC
set_option Elab.async false
set_option linter.all false
set_option maxRecDepth 100000
set_option maxHeartbeats 4000000
/-! Turncoins, the law's own defs: a cell of the script; the list that a start ends in. -/
namespace TC
open PySem PySem.Spec PyProof.Rows L2
section
variable {P : Program} {w : World} {K : PySem.W.Frag} {mg : Str → Option Value} {base : Heap}
def spCell (K : PySem.W.Frag) : Sp := fun vs H Q _ => ∃ (a : Addr) (ns : List Int), vs = [.ref a, .int 0] ∧ SqL K H a (ns.map V.int) ∧ ∀ H' z, Same H H' → Q (.int z) H'
theorem scCell : FnScope ["_law_script", "_law_k", "_law_number", "_law_cell_here"] ["_law_script", "_law_k"] (defScope s__law_cell) := ⟨rfl, rfl, rfl, by decide +kernel, rfl, by decide +kernel, by decide +kernel⟩
theorem ok_cell (D : Def K mg "_law_cell" s__law_cell) (T : Free mg) : Has P w K mg base 1 "_law_cell" ["_law_script", "_law_k"] (spCell K) := by
  refine has_of D scCell (fun vs H Q E h => ?_) (fun _ _ _ _ _ _ us hl => match us, hl with | [_, _], _ => rfl) (fun f cdv A outer s H vs Q E hr h => ?_)
  · obtain ⟨a, ns, rfl, _⟩ := h
    rfl
  · obtain ⟨a, ns, rfl, hA, q⟩ := h
    refine ⟨_, pss_cons (ps_if (pt_cmpR op_lt (pv 1) (pe_callB call_len_seq (by rfl) T.len PySem.boot_len (pa_cons (pv 0) pa_nil)) (nomark _)) (pss_one (ps_ret (pe_op op_mod (pe_ix ix_list (pv 0) (pv 1) (fun _ _ => rfl)) (pe_op op_pow pe_int pe_int)))) pss_nil)
      (pss_cons (ps_set (i := 2) scCell.nd rfl (.inl rfl) (pe_op op_add pe_int (pe_callB call_len_seq (by rfl) T.len PySem.boot_len (pa_cons (pv 0) pa_nil))))
      (pss_cons (ps_for PassesOwn.never rfl (pi_list (pe_slice sl_list (pv 0) po_none (po_some pe_int))) (pg_name (i := 3) scCell.nd rfl (.inl rfl))
        (pss_one (ps_set (i := 2) scCell.nd rfl (.inl rfl) (pe_op op_mod (pe_op op_add (pe_op op_mul (pv 2) pe_int) (pe_op op_mod (pv 3) pe_int)) pe_int))))
      (pss_one (ps_ret (pe_op op_mod (pe_op op_mul (pv 2) (pe_op op_add (pe_op op_add (pe_op op_mul (pv 1) (pv 1)) (pe_op op_mul pe_int (pv 1))) pe_int)) pe_int))))), ?_⟩
    refine ⟨_, rfl, _, rfl, a, _, rfl, .inl hA, _, _, rfl, rfl, _, rfl, ?_⟩
    cases ns with
    | cons z r =>
      refine ifT (decide_eq_true (show (0 : Int) < (((z :: r).map V.int).length : Int) by rw [List.length_map, List.length_cons]; omega)) ?_
      refine ⟨_, rfl, _, rfl, a, _, _, .int z, rfl, rfl, hA, atI_nat (j := 0) rfl, _, _, rfl, rfl, ⟨by decide, by decide, by decide⟩, _, _, rfl, rfl, (show (0 : Int) < 10 ^ Int.toNat 40 by decide +kernel), q _ _ (Same.refl _)⟩
    | nil =>
      refine ifF (decide_eq_false (show ¬ (0 : Int) < ((([] : List Int).map V.int).length : Int) by decide)) ?_
      refine ⟨_, rfl, a, _, rfl, .inl hA, _, _, rfl, rfl, ?_⟩
      refine ⟨_, rfl, 7, rfl, a, _, rfl, hA, fun p np => ?_⟩
      have e0 : cutV (([] : List Int).map V.int) none (some 7) = [] := by decide +kernel
      rw [e0]
      have s1 : Same H (upd H p (.lst [])) := same_upd np
      have hp : (upd H p (.lst [])) p = some (.lst []) := upd_same
      generalize upd H p (.lst []) = H1 at s1 hp
      refine ⟨p, rfl, ⟨_, SqL.of hp⟩, for_list (K := K) (a := p) (xs := []) (fun i σ H' => ∃ v3, σ = [some (.ref a), some (.int 0), some (.int 40961), v3] ∧ H' = H1) ⟨none, rfl, rfl⟩ (fun i σ H' _ ⟨_, _, e⟩ => by rw [e]; exact SqL.of hp) ?_ ?_⟩
      · intro i x σ H' hi _
        simp at hi
      · rintro σ H' ⟨v3, rfl, rfl⟩
        exact ⟨_, rfl, _, rfl, _, rfl, _, _, rfl, rfl, .inl (by decide), _, rfl, _, _, rfl, rfl, .inl (by decide), _, _, rfl, rfl, _, _, rfl, rfl, _, _, rfl, rfl, .inl (by decide), _, _, rfl, rfl, (by show (0 : Int) < 998244353; decide), q _ _ s1⟩
/-! ### the list that a start ends in -/
def spEnd (K : PySem.W.Frag) : Sp := fun vs H Q _ => ∃ (bs : List Bool) (a : Addr) (gs : List G), vs = [.str (tx bs), .ref a] ∧ GTs K H a gs ∧ okAll bs.length gs ∧ bs.length ≤ 6 ∧
  ∀ H' p, Same H H' → H' p = some (.lst ((endL gs (startL bs.length (shutOf bs))).map V.int)) → Q (.ref p) H'
theorem scEnd : FnScope ["_law_start", "_law_gates", "_law_shut", "_law_numbers", "_law_gate_here", "_law_coin", "_law_place"] ["_law_start", "_law_gates"] (defScope s__law_end) := ⟨rfl, rfl, rfl, by decide +kernel, rfl, by decide +kernel, by decide +kernel⟩
def sgn (b : Bool) : Nat := if b then 43 else 48
theorem sgn_0 (b : Bool) : decide (V.str ⟨#[sgn b]⟩ = V.str ("0" : Str)) = !b := by cases b <;> decide +kernel
theorem tx_at {bs : List Bool} {c : Nat} {b : Bool} (h : bs[c]? = some b) : atI (tx bs).cps.toList (c : Int) = some (sgn b) := atI_nat (by
  show (bs.map fun b => if b then 43 else 48)[c]? = _
  rw [List.getElem?_map, h]
  rfl)
theorem start_at (n m : Nat) {p : Nat} (h : p < 2 ^ n) : (startL n m)[p]? = some (S m p) := by
  unfold startL
  rw [List.getElem?_map, List.getElem?_range h]
  rfl
theorem end_snoc {gs : List G} {i : Nat} {g : G} (h : gs[i]? = some g) (l : List Int) : endL (gs.take (i + 1)) l = leastL (madeL g (endL (gs.take i) l)) := by
  unfold endL
  rw [take_snoc h, List.foldl_append]
  rfl
theorem ok_end (D : Def K mg "_law_end" s__law_end) (T : Free mg) (MD : Has P w K mg base 2 "_law_made" ["_law_numbers", "_law_gate_here"] (spMade K)) (LE : Has P w K mg base 2 "_law_least" ["_law_numbers"] (spLeast K)) :
    Has P w K mg base 3 "_law_end" ["_law_start", "_law_gates"] (spEnd K) := by
  refine has_of D scEnd (fun vs H Q E h => ?_) (fun _ _ _ _ _ _ us hl => match us, hl with | [_, _], _ => rfl) (fun f cdv A outer s H vs Q E hr h => ?_)
  · obtain ⟨bs, a, gs, rfl, _⟩ := h
    rfl
  · obtain ⟨bs, a, gs, rfl, ⟨ws, hA, hW⟩, hok, h6, q⟩ := h
    have hz : (tx bs).length ≤ sizeLine := by
      rw [tx_len]
      exact Nat.le_of_lt (small1000 (by omega))
    have h64 : 2 ^ bs.length ≤ 64 := Nat.pow_le_pow_right (n := 2) (by decide) h6
    refine ⟨_, pss_cons (ps_set (i := 2) scEnd.nd rfl (.inr rfl) (pe_callB (cr_sum rfl) (by rfl) T.sum (by decide +kernel) (pa_cons (pe_lc (own := [("_law_coin", 5)]) (g := gName 5) (tt := tTest (tOp rEq (tOp rIxS (tVar 0) (tVar 5)) (tC (.str "0")))) rfl scEnd.nd
        (pi_range1 (by rfl) T.range (pa_cons (pe_callB call_len_str (by rfl) T.len PySem.boot_len (pa_cons (pv 0) pa_nil)) pa_nil))
        (blkOk_by (own := [("_law_coin", 5)]) (N := ["_law_start", "_law_gates", "_law_shut", "_law_numbers", "_law_gate_here", "_law_coin", "_law_place"]) (sc := defScope s__law_end) (by decide +kernel)) (fun _ _ _ _ _ => pg_name (i := 5) scEnd.nd rfl (Or.inl rfl))
        (fun _ _ _ _ _ => pts_one (pt_cmpR op_eq (pe_ix ix_str (pv 0) (pv 5) (fun _ _ => rfl)) pe_str (nomark _))) (fun _ _ _ _ _ => pe_op op_shl1 pe_int (pv 5))) pa_nil)))
      (pss_cons (ps_setLc (i := 3) (own := [("_law_place", 6)]) (g := gName 6) (tt := tYes) rfl scEnd.nd rfl rfl rfl
        (pi_range1 (by rfl) T.range (pa_cons (pe_op op_shl1 pe_int (pe_callB call_len_str (by rfl) T.len PySem.boot_len (pa_cons (pv 0) pa_nil))) pa_nil))
        (blkOk_by (own := [("_law_place", 6)]) (N := ["_law_start", "_law_gates", "_law_shut", "_law_numbers", "_law_gate_here", "_law_coin", "_law_place"]) (sc := defScope s__law_end) (by decide +kernel)) (fun _ _ _ _ _ => pg_name (i := 6) scEnd.nd rfl (Or.inl rfl))
        (fun _ _ _ _ _ => pts_nil) (fun _ _ _ _ _ => pe_callTy call_int1 (by rfl) T.int (by decide +kernel) (pa_cons (pe_cmpR op_eq (pe_op op_andN (pv 6) (pv 2)) pe_int (nomark _)) pa_nil)))
      (pss_cons (ps_for PassesOwn.never rfl (pi_list (pv 1)) (pg_name (i := 4) scEnd.nd rfl (.inl rfl))
        (pss_one (ps_set (i := 3) scEnd.nd rfl (.inl rfl) (pe_h LE hr (by decide) (by rfl) (pa_cons (pe_h MD hr (by decide) (by rfl) (pa_cons (pv 3) (pa_cons (pv 4) pa_nil))) pa_nil)))))
      (pss_one (ps_ret (pv 3))))), ?_⟩
    refine ⟨_, rfl, _, rfl, hz, (bs.length : Int), by rw [tx_len], by omega, by omega, fun D1 n1 => lc_range (lo := 0) (n := bs.length) (fun i H' => Same H H' ∧ ∃ ns : List Int, H' D1 = some (.lst (ns.map V.int)) ∧ ns.sum = ((maskN (fun i => !bs.getD i true) i : Nat) : Int) ∧ ns.length ≤ i)
      ⟨same_upd n1, [], upd_same, rfl, Nat.le_refl _⟩ ?_ ?_⟩
    · rintro i H' hi ⟨s1, ns, hD, hsum, hnl⟩
      rw [Int.zero_add]
      have hb : bs[i]? = some bs[i] := List.getElem?_eq_getElem hi
      have hq : bs.getD i true = bs[i] := by rw [List.getD_eq_getElem?_getD, hb]; rfl
      refine ⟨rfl, ?_⟩
      refine ⟨_, rfl, _, rfl, _, _, _, rfl, rfl, hz, tx_at hb, rfl, _, rfl, ?_⟩
      cases hv : bs[i] with
      | true =>
        refine ifF (by rw [sgn_0]; rfl) ⟨s1, ns, hD, ?_, by omega⟩
        rw [hsum]
        show _ = ((maskN (fun i => !bs.getD i true) i + fl (!bs.getD i true) i : Nat) : Int)
        rw [hq, hv, Bool.not_true, fl_f, Nat.add_zero]
      | false =>
        refine ifT (by rw [sgn_0]; rfl) ?_
        refine ⟨_, rfl, i, rfl, rfl, by omega, _, hD, small1000 ?_, same_at n1 s1, ns ++ [((2 ^ i : Nat) : Int)], ?_, ?_, ?_⟩
        · rw [List.length_map]
          omega
        · rw [upd_same, List.map_append]
          rfl
        · rw [List.sum_append, hsum]
          show _ + (((2 ^ i : Nat) : Int) + 0) = ((maskN (fun i => !bs.getD i true) i + fl (!bs.getD i true) i : Nat) : Int)
          rw [hq, hv, Bool.not_false, fl_t]
          omega
        · rw [List.length_append]
          show ns.length + 1 ≤ i + 1
          omega
    · rintro H1 ⟨s1, ns, hD, hsum, hnl⟩
      refine ⟨D1, ns, rfl, SqL.of hD, ?_⟩
      rw [show ns.sum = ((shutOf bs : Nat) : Int) from hsum]
      generalize shutOf bs = m at *
      refine ⟨_, rfl, _, rfl, hz, bs.length, rfl, by rw [tx_len], by omega, ((2 ^ bs.length : Nat) : Int), rfl, by have := Int.natCast_nonneg (2 ^ bs.length); omega, by omega, fun D2 n2 => lc_range (lo := 0) (n := 2 ^ bs.length) (fun i H' => Same H1 H' ∧ H' D2 = some (.lst (((startL bs.length m).take i).map V.int)))
        ⟨same_upd n2, upd_same⟩ ?_ ?_⟩
      · rintro i H' hi ⟨s2, hD2⟩
        rw [Int.zero_add]
        refine ⟨rfl, ?_⟩
        refine ⟨_, rfl, _, rfl, i, m, rfl, rfl, rfl, .inr ⟨_, rfl, _, hD2, small1000 ?_, same_at n2 s2, ?_⟩⟩
        · rw [List.length_map, List.length_take, len_start]
          omega
        · rw [upd_same, take_snoc (start_at _ m hi), List.map_append]
          have e : (if decide (V.int (((i &&& m : Nat) : Int)) = V.int 0) = true then (1 : Int) else 0) = S m i := by
            unfold S
            by_cases h : i &&& m = 0
            · rw [if_pos h, if_pos (decide_eq_true (by rw [h]; rfl))]
            · rw [if_neg h, if_neg (by
                rw [decide_eq_true_iff]
                intro e
                have := V.int.inj e
                omega)]
          rw [e]
          rfl
      · rintro H2 ⟨s2, hD2⟩
        rw [show (startL bs.length m).take (2 ^ bs.length) = startL bs.length m from List.take_of_length_le (by rw [len_start]; exact Nat.le_refl _)] at hD2
        have s12 := s1.trans s2
        refine ⟨_, rfl, a, rfl, ⟨_, SqL.of (s12 _ _ hA)⟩, for_list (K := K) (a := a) (xs := ws) (fun i σ H' => ∃ p v4 l, σ = [some (.str (tx bs)), some (.ref a), some (.int (m : Int)), some (.ref p), v4, none, none] ∧ Same H H' ∧ H' p = some (.lst (l.map V.int)) ∧ l = endL (gs.take i) (startL bs.length m) ∧ l.length = 2 ^ bs.length ∧ Nz l ∧ gcdL l = 1)
          ⟨D2, none, _, rfl, s12, hD2, rfl, len_start _ _, nz_start _ _, gcd_start _ _⟩ (fun i σ H' _ ⟨_, _, _, _, s3, _⟩ => SqL.of (s3 _ _ hA)) ?_ ?_⟩
        · rintro i x σ H' hi ⟨p, v4, l, rfl, s3, hp, hl, hlen, hnz, hg1⟩
          obtain ⟨g, hg, ga, rfl, hG⟩ := hW.get hi
          have hgo := hok g (List.mem_of_getElem? hg)
          refine ⟨_, rfl, _, rfl, p, ga, l, g, bs.length, rfl, hp, Same.tup s3 hG, hgo, h6, hlen, fun H4 p4 s4 hp4 => ?_⟩
          refine ⟨p4, madeL g l, rfl, hp4, Nz.made hgo hlen hnz, (com_bound hgo hlen hg1).2, by rw [len_made, hlen]; exact h64, fun H5 p5 s5 hp5 => ?_⟩
          refine ⟨p5, _, leastL (madeL g l), rfl, (s3.trans s4).trans s5, hp5, by rw [end_snoc hg, ← hl], by rw [len_least, len_made, hlen], (Nz.made hgo hlen hnz).least, gcd_least (Nz.made hgo hlen hnz)⟩
        · rintro σ H' ⟨p, v4, l, rfl, s3, hp, hl, hlen, hnz, hg1⟩
          rw [hW.len, List.take_length] at hl
          exact ⟨_, rfl, q H' p s3 (by rw [← hl]; exact hp)⟩
end
end TC
set_option Elab.async false
set_option linter.all false
set_option maxRecDepth 100000
set_option maxHeartbeats 4000000
/-! Turncoins, the law's own defs: do two rows lead each start to the same list. -/
namespace TC
open PySem PySem.Spec PyProof.Rows L2
/-! ### lists of ints compared -/
def intsD (l : List Int) : PyData := .list (l.map .int)
theorem ints_dp {K : PySem.W.Frag} {H : Hp} : ∀ l : List Int, DpAll K H (l.map V.int) (l.map .int)
  | [] => .nil
  | x :: l => .cons (.int x) (ints_dp l)
theorem ints_lay : ∀ l : List Int, PyData.canLayAll0 (l.map .int) = true
  | [] => by simp [PyData.canLayAll0]
  | x :: l => by simp [PyData.canLayAll0, PyData.canLay0, ints_lay l]
theorem ints_depth : ∀ l : List Int, PyData.depthAll (l.map .int) = 0
  | [] => by simp [PyData.depthAll]
  | x :: l => by simp [PyData.depthAll, PyData.depth, ints_depth l]
theorem ints_shaped (l : List Int) : SeqAt.shaped (intsD l) = true := by
  show ((intsD l).canLay0 && decide ((intsD l).depth ≤ 64)) = true
  rw [Bool.and_eq_true]
  refine ⟨ints_lay l, decide_eq_true ?_⟩
  show PyData.depthAll (l.map .int) + 1 ≤ 64
  rw [ints_depth]
  decide
theorem ints_eqvAll : ∀ l m : List Int, PyData.eqvAll (l.map .int) (m.map .int) = decide (l = m)
  | [], [] => by simp [PyData.eqvAll]
  | [], y :: m => by simp [PyData.eqvAll]
  | x :: l, [] => by simp [PyData.eqvAll]
  | x :: l, y :: m => by
    simp only [List.map_cons, PyData.eqvAll, PyData.eqv, ints_eqvAll l m]
    by_cases h1 : x = y <;> by_cases h2 : l = m <;> simp [h1, h2]
theorem ints_eqv (l m : List Int) : PyData.eqv (intsD l) (intsD m) = decide (l = m) := ints_eqvAll l m
/-! ### a start joined of its signs -/
theorem join_single : ∀ l : List Nat, TL.joinL [] (l.map fun c => [c]) = l
  | [] => rfl
  | [c] => rfl
  | c :: d :: r => by
    have ih := join_single (d :: r)
    show [c] ++ ([] ++ TL.joinL [] ((d :: r).map fun c => [c])) = c :: d :: r
    rw [ih]
    rfl
theorem tl_empty : tl ("" : Str) = [] := by decide +kernel
theorem tx_join (bs : List Bool) : Txt.join "" (bs.map fun b => (⟨#[sgn b]⟩ : Str)) = tx bs := TL.ext_tl (by
  show tl (Txt.join "" _) = tl (tx bs)
  rw [tl_join, tl_empty, List.map_map]
  have e : bs.map (tl ∘ fun b => (⟨#[sgn b]⟩ : Str)) = (bs.map sgn).map fun c => [c] := by
    rw [List.map_map]
    rfl
  rw [e, join_single]
  rfl)
theorem sign_of (b : Bool) : atI ("0+" : Str).cps.toList (bi b) = some (sgn b) := by cases b <;> decide +kernel
section
variable {P : Program} {w : World} {K : PySem.W.Frag} {mg : Str → Option Value} {base : Heap}
def spAlike (K : PySem.W.Frag) : Sp := fun vs H Q _ => ∃ (n : Nat) (a b : Addr) (one other : List G), vs = [.int (n : Int), .ref a, .ref b] ∧ GTs K H a one ∧ GTs K H b other ∧ okAll n one ∧ okAll n other ∧ n ≤ 6 ∧
  (∀ m, endL one (startL n m) = endL other (startL n m)) ∧ ∀ H', Same H H' → Q (.bl true) H'
theorem scAlike : FnScope ["_law_coins", "_law_one", "_law_other", "_law_numbers", "_law_number", "_law_start", "_law_coin"] ["_law_coins", "_law_one", "_law_other"] (defScope s__law_alike) := ⟨rfl, rfl, rfl, by decide +kernel, rfl, by decide +kernel, by decide +kernel⟩
theorem ok_alike (D : Def K mg "_law_alike" s__law_alike) (T : Free mg) (EN : Has P w K mg base 3 "_law_end" ["_law_start", "_law_gates"] (spEnd K)) : Has P w K mg base 4 "_law_alike" ["_law_coins", "_law_one", "_law_other"] (spAlike K) := by
  refine has_of D scAlike (fun vs H Q E h => ?_) (fun _ _ _ _ _ _ us hl => match us, hl with | [_, _, _], _ => rfl) (fun f cdv A outer s H vs Q E hr h => ?_)
  · obtain ⟨n, a, b, one, other, rfl, _⟩ := h
    rfl
  · obtain ⟨n, a, b, one, other, rfl, hA, hB, hok1, hok2, h6, hall, q⟩ := h
    have h64 : 2 ^ n ≤ 64 := Nat.pow_le_pow_right (n := 2) (by decide) h6
    have h1 : 1 ≤ 2 ^ n := Nat.one_le_two_pow
    have tail : ∃ t, PSs (cxOf CX0 P w K mg base ["_law_coins", "_law_one", "_law_other", "_law_numbers", "_law_number", "_law_start", "_law_coin"] "_law_alike" (defScope s__law_alike) f cdv A outer s H E).nox ((defBody s__law_alike).drop 2) t ∧
        ∀ (p : Addr) (xs : List V) (H1 : Hp), Same H H1 → H1 p = some (.lst xs) → (∀ x ∈ xs, ∃ m : Nat, x = V.int (m : Int)) → t { nx := fun _ H' => Q .non H', rt := Q } [some (.int (n : Int)), some (.ref a), some (.ref b), some (.ref p), none, none, none] H1 := by
      refine ⟨_, pss_cons (ps_for PassesOwn.never rfl (pi_list (pv 3)) (pg_name (i := 4) scAlike.nd rfl (.inr rfl))
          (pss_cons (ps_set (i := 5) scAlike.nd rfl (.inl rfl) (pe_join pe_str (pe_lc (own := [("_law_coin", 6)]) (g := gName 6) (tt := tYes) rfl scAlike.nd (pi_range1 (by rfl) T.range (pa_cons (pv 0) pa_nil))
            (blkOk_by (own := [("_law_coin", 6)]) (N := ["_law_coins", "_law_one", "_law_other", "_law_numbers", "_law_number", "_law_start", "_law_coin"]) (sc := defScope s__law_alike) (by decide +kernel)) (fun _ _ _ _ _ => pg_name (i := 6) scAlike.nd rfl (Or.inl rfl))
            (fun _ _ _ _ _ => pts_nil) (fun _ _ _ _ _ => pe_ix ix_str pe_str (pe_op op_bit (pe_op op_shr (pv 4) (pv 6)) pe_int) (fun _ _ => rfl)))))
          (pss_one (ps_if (pt_cmpR (op_neD hr.units) (pe_h EN hr (by decide) (by rfl) (pa_cons (pv 5) (pa_cons (pv 1) pa_nil))) (pe_h EN hr (by decide) (by rfl) (pa_cons (pv 5) (pa_cons (pv 2) pa_nil))) (nomark _))
            (pss_one (ps_ret pe_bl)) pss_nil))))
        (pss_one (ps_ret pe_bl)), fun p xs H1 s1 hp hx => ?_⟩
      refine ⟨_, rfl, p, rfl, ⟨_, SqL.of hp⟩, for_list (K := K) (a := p) (xs := xs) (fun i σ H' => ∃ v4 v5, σ = [some (.int (n : Int)), some (.ref a), some (.ref b), some (.ref p), v4, v5, none] ∧ Same H1 H')
        ⟨none, none, rfl, Same.refl _⟩ (fun i σ H' _ ⟨_, _, _, s2⟩ => SqL.of (s2 _ _ hp)) ?_ ?_⟩
      · rintro i x σ H' hi ⟨v4, v5, rfl, s2⟩
        obtain ⟨m, rfl⟩ := hx x (List.mem_of_getElem? hi)
        refine ⟨⟨_, rfl⟩, _, rfl, (n : Int), rfl, by omega, by omega, fun D1 n1 => lc_range (lo := 0) (n := n) (fun j H4 => Same H' H4 ∧ H4 D1 = some (.lst ((((List.range j).map fun c => m.testBit c).map fun b => (⟨#[sgn b]⟩ : Str)).map V.str)))
          ⟨same_upd n1, upd_same⟩ ?_ ?_⟩
        · rintro j H4 hj ⟨s4, hD⟩
          rw [Int.zero_add]
          refine ⟨rfl, ?_⟩
          refine ⟨_, rfl, _, rfl, _, _, rfl, rfl, Int.natCast_nonneg _, m, j, rfl, rfl, _, _, _, rfl, rfl, (by decide +kernel), sign_of _, _, hD, small1000 ?_, same_at n1 s4, ?_⟩
          · rw [List.length_map, List.length_map, List.length_map, List.length_range]
            omega
          · rw [upd_same, List.range_succ, List.map_append, List.map_append, List.map_append]
            rfl
        · rintro H4 ⟨s4, hD⟩
          generalize hbs : (List.range n).map (fun c => m.testBit c) = bs at hD
          have hbl : bs.length = n := by rw [← hbs, List.length_map, List.length_range]
          refine ⟨_, D1, _, rfl, rfl, .inl (SqL.of hD), ?_, ?_⟩
          · rw [show ("" : Str).length = 0 by decide +kernel, List.length_map, List.map_map]
            have hs : (bs.map ((·.length) ∘ fun b => (⟨#[sgn b]⟩ : Str))).sum = bs.length := by
              have e : bs.map ((·.length) ∘ fun b => (⟨#[sgn b]⟩ : Str)) = bs.map fun _ => 1 := List.map_congr_left fun b _ => rfl
              rw [e, List.map_const', List.sum_replicate_nat, Nat.mul_one]
            rw [hs]
            omega
          rw [tx_join]
          have s24 := (s1.trans s2).trans s4
          refine ⟨_, rfl, _, rfl, bs, a, one, rfl, LsAt.mono GT.mono s24 hA, by rw [hbl]; exact hok1, by omega, fun H5 p5 s5 hp5 => ?_⟩
          refine ⟨_, rfl, _, rfl, bs, b, other, rfl, LsAt.mono GT.mono (s24.trans s5) hB, by rw [hbl]; exact hok2, by omega, fun H6 p6 s6 hp6 => ?_⟩
          refine ⟨intsD _, intsD _, .lst (SqL.of (s6 _ _ hp5)) (ints_dp _), .lst (SqL.of hp6) (ints_dp _), ints_shaped _, ints_shaped _, _, rfl, ifF ?_ ?_⟩
          · rw [ints_eqv, hbl, hall, decide_eq_true rfl]
            rfl
          · exact ⟨_, _, rfl, ((s2.trans s4).trans s5).trans s6⟩
      · rintro σ H' ⟨v4, v5, rfl, s2⟩
        exact q _ (s1.trans s2)
    obtain ⟨t, ht, hq⟩ := tail
    refine ⟨_, pss_cons (ps_set (i := 3) scAlike.nd rfl (.inl rfl) (pe_listRg rfl (by rfl) T.list (prg_1 (by rfl) T.range (pe_op op_shl1 pe_int (pv 0)))))
      (pss_cons (ps_if (pt_cmpR op_gt (pv 0) pe_int (nomark _)) (pss_one (ps_set (i := 3) scAlike.nd rfl (.inl rfl) (pe_lst (pa_cons pe_int (pa_cons (pe_op op_sub (pe_op op_shl1 pe_int (pv 0)) pe_int) (pa_cons pe_int (pa_cons pe_int pa_nil))))))) pss_nil) ht), ?_⟩
    have hr0 : ((2 ^ n : Nat) : Int) ≤ 16777216 := by
      have : ((2 ^ n : Nat) : Int) ≤ ((64 : Nat) : Int) := Int.ofNat_le.mpr h64
      omega
    refine ⟨_, rfl, n, rfl, rfl, by omega, _, rfl, RgOk.of_le (by decide) hr0 (by decide) (Int.natCast_nonneg _), fun p0 n0 => ?_⟩
    have s0 : Same H (upd H p0 (.lst (rgV 0 ((2 ^ n : Nat) : Int)))) := same_upd n0
    have hp0 : (upd H p0 (.lst (rgV 0 ((2 ^ n : Nat) : Int)))) p0 = some (.lst (rgV 0 ((2 ^ n : Nat) : Int))) := upd_same
    generalize upd H p0 (.lst (rgV 0 ((2 ^ n : Nat) : Int))) = H1 at s0 hp0
    refine ⟨_, rfl, _, _, rfl, rfl, _, rfl, ite2 (fun _ => ?_) (fun _ => ?_)⟩
    · refine ⟨_, rfl, n, rfl, rfl, by omega, _, _, rfl, rfl, (by show 4 ≤ sizeLine; decide), fun p2 n2 => ?_⟩
      refine hq p2 _ _ (s0.trans (same_upd n2)) upd_same fun x hx => ?_
      simp only [List.mem_cons, List.not_mem_nil, or_false] at hx
      rcases hx with rfl | rfl | rfl | rfl
      · exact ⟨0, rfl⟩
      · exact ⟨2 ^ n - 1, congrArg V.int (by rw [Int.natCast_sub h1]; rfl)⟩
      · exact ⟨21, rfl⟩
      · exact ⟨10, rfl⟩
    · refine hq p0 _ _ s0 hp0 fun x hx => ?_
      obtain ⟨i, _, rfl⟩ := List.mem_map.mp hx
      exact ⟨i, by rw [Int.zero_add]⟩
end
end TC
set_option Elab.async false
set_option linter.all false
set_option maxRecDepth 100000
set_option maxHeartbeats 4000000
/-! Turncoins, the law: its last loop. -/
namespace TC
open PySem PySem.Spec PyProof.Rows L2
/-! ### a comprehension over a text -/
theorem lc_str {x : Str} {g : TG} {tt : TT} {te : TE} {vs : List Nat} {σ : L2.St} {H1 : Hp} {D : Addr} {Qd : Hp → Prop} (Pv : Nat → Hp → Prop) (h0 : Pv 0 (upd H1 D (.lst [])))
    (hs : ∀ i c H, x.cps[i]? = some c → Pv i H → g (.str ⟨#[c]⟩) (wipe σ vs) H fun σ2 H2 => wipe σ2 vs = wipe σ vs ∧ tt σ2 H2 fun b H3 =>
      if b = true then te σ2 H3 fun y H4 => ∃ acc, H4 D = some (.lst acc) ∧ acc.length < sizeLine ∧ Pv (i + 1) (upd H4 D (.lst (acc ++ [y]))) else Pv (i + 1) H3) (hd : ∀ H, Pv x.cps.size H → Qd H) :
    ∃ W : Nat → Nat → Hp → Prop, (∃ m, W 0 m (upd H1 D (.lst []))) ∧ ∀ i m H, W i m H →
      ((Its x).stop i H ∧ Qd H) ∨ ((Its x).go i H ∧ ∃ Nx : Hp → Prop, (∀ H', Nx H' → ∃ m', m' < m ∧ W (i + 1) m' H') ∧ ∀ v H', (Its x).yld i H v H' → g v (wipe σ vs) H' fun σ2 H2 => wipe σ2 vs = wipe σ vs ∧ tt σ2 H2 fun b H3 =>
        if b = true then te σ2 H3 fun y H4 => ∃ acc, H4 D = some (.lst acc) ∧ acc.length < sizeLine ∧ Nx (upd H4 D (.lst (acc ++ [y]))) else Nx H3) := by
  refine ⟨fun i m H => m = x.cps.size - i ∧ i ≤ x.cps.size ∧ Pv i H, ⟨x.cps.size, by simp, Nat.zero_le _, h0⟩, ?_⟩
  rintro i m H ⟨rfl, hi, p⟩
  by_cases hlt : i < x.cps.size
  · refine .inr ⟨hlt, Pv (i + 1), fun H' p' => ⟨x.cps.size - (i + 1), by omega, rfl, hlt, p'⟩, fun v H' y => ?_⟩
    obtain ⟨rfl, c, hc, rfl⟩ := y
    exact hs i c _ hc p
  · have e : i = x.cps.size := by omega
    subst e
    exact .inl ⟨Nat.le_refl _, hd H p⟩
theorem op_in_seqK {X : Cx} (K : PySem.W.Frag) (hK : X.K = K) : OpR X (compareOp .In) (rIn K false) := by
  subst hK
  exact op_in_seq
theorem tx_cps (bs : List Bool) : (tx bs).cps.size = bs.length := by
  have := tx_len bs
  exact this
theorem tx_sign {bs : List Bool} {i c : Nat} (h : (tx bs).cps[i]? = some c) : ∃ b, c = sgn b := by
  have h2 : (bs.map fun b => if b then 43 else 48)[i]? = some c := by
    rw [← h]
    show _ = ((bs.map fun b => if b then 43 else 48).toArray)[i]?
    rw [List.getElem?_toArray]
  rw [List.getElem?_map] at h2
  obtain ⟨b, _, e⟩ := Option.map_eq_some_iff.mp h2
  exact ⟨b, e.symm⟩
theorem sgn_in (b : Bool) : inV (.str ⟨#[sgn b]⟩) [.str "0", .str "+"] = true := by cases b <;> decide +kernel
theorem all_true : ∀ i : Nat, (List.replicate i true).all id = true
  | 0 => rfl
  | i + 1 => by rw [List.replicate_succ, List.all_cons, all_true i]; rfl
abbrev NL : List Str := ["_law_script", "_law_first", "_law_coins", "_law_one", "_law_other", "_law_desk", "_law_texts", "_law_found", "_law_back", "_law_start", "_law_cell_here", "_law_sign"]
theorem scLaw : FnScope NL ["_law_script"] (defScope s_law) := ⟨rfl, rfl, rfl, by decide +kernel, rfl, by decide +kernel, by decide +kernel⟩
section
variable {P : Program} {w : World} {K : PySem.W.Frag} {mg : Str → Option Value} {base : Heap}
theorem law_loop (T : Free mg) (EN : Has P w K mg base 3 "_law_end" ["_law_start", "_law_gates"] (spEnd K)) {f : Addr} {cdv : Value} {A : Around} {outer : List Env} {s : Shared} {H : Hp} {E : XK}
    (hr : Room 8 (A.deeper (envOfC "law" (defScope s_law) s.heap.objs.size f cdv))) (Q : VK) (q : ∀ H', Q (.bl true) H') :
    ∃ t, PSs (cxOf CX0 P w K mg base NL "law" (defScope s_law) f cdv A outer s H E).nox ((defBody s_law).drop 11) t ∧
      ∀ (sa a b : Addr) (z : Int) (n : Nat) (d e : Option V) (one other : List G) (bs cs : List Bool) (H1 : Hp), n ≤ 6 → GTs K H1 a one → GTs K H1 b other → okAll n one → okAll n other →
        (∀ c ∈ [bs, cs], c.length = n ∧ endL one (startL n (shutOf c)) ≠ endL other (startL n (shutOf c))) →
        t { nx := fun _ H' => Q .non H', rt := Q } [some (.ref sa), some (.int z), some (.int (n : Int)), some (.ref a), some (.ref b), d, e, some (.str (tx bs)), some (.str (tx cs)), none, none, none] H1 := by
  refine ⟨_, pss_cons (ps_for PassesOwn.never rfl (pi_list (pe_lst (pa_cons (pv 7) (pa_cons (pv 8) pa_nil)))) (pg_name (i := 9) scLaw.nd rfl (.inl rfl))
      (pss_cons (ps_if (PW.pt (pw_or (pt_cmpR op_ne (pe_callB call_len_str (by rfl) T.len PySem.boot_len (pa_cons (pv 9) pa_nil)) (pv 2) (nomark _))
          (pw_or1 (pt_not (pt_val (pe_callB (cr_all rfl) (by rfl) T.all (by decide +kernel) (pa_cons (pe_lc (own := [("_law_sign", 11)]) (g := gName 11) (tt := tYes) rfl scLaw.nd (pi_str (pv 9))
            (blkOk_by (own := [("_law_sign", 11)]) (N := NL) (sc := defScope s_law) (by decide +kernel)) (fun _ _ _ _ _ => pg_name (i := 11) scLaw.nd rfl (Or.inl rfl)) (fun _ _ _ _ _ => pts_nil)
            (fun _ _ _ _ _ => pe_cmpR (op_in_seqK K rfl) (pv 11) (pe_lst (pa_cons pe_str (pa_cons pe_str pa_nil))) rfl)) pa_nil)))))))
        (pss_one (ps_ret pe_bl)) pss_nil)
      (pss_one (ps_if (pt_cmpR (op_eqD hr.units) (pe_h EN hr (by decide) (by rfl) (pa_cons (pv 9) (pa_cons (pv 3) pa_nil))) (pe_h EN hr (by decide) (by rfl) (pa_cons (pv 9) (pa_cons (pv 4) pa_nil))) (nomark _))
        (pss_one (ps_ret pe_bl)) pss_nil))))
    (pss_one (ps_ret pe_bl)), ?_⟩
  intro sa a b z n d e one other bs cs H1 h6 hA hB hok1 hok2 hall
  refine ⟨_, rfl, _, rfl, (by show 2 ≤ sizeLine; decide), fun p np => ?_⟩
  have s1 : Same H1 (upd H1 p (.lst [.str (tx bs), .str (tx cs)])) := same_upd np
  have hp : (upd H1 p (.lst [.str (tx bs), .str (tx cs)])) p = some (.lst ([bs, cs].map fun c => V.str (tx c))) := upd_same
  generalize upd H1 p (.lst [.str (tx bs), .str (tx cs)]) = H2 at s1 hp
  refine ⟨p, rfl, ⟨_, SqL.of hp⟩, for_list (K := K) (a := p) (xs := [bs, cs].map fun c => V.str (tx c)) (fun i σ H' => ∃ v9, σ = [some (.ref sa), some (.int z), some (.int (n : Int)), some (.ref a), some (.ref b), d, e, some (.str (tx bs)), some (.str (tx cs)), v9, none, none] ∧ Same H2 H')
    ⟨none, rfl, Same.refl _⟩ (fun i σ H' _ ⟨_, _, s2⟩ => SqL.of (s2 _ _ hp)) ?_ ?_⟩
  · rintro i x σ H' hi ⟨v9, rfl, s2⟩
    rw [List.getElem?_map] at hi
    obtain ⟨c, hc, rfl⟩ := Option.map_eq_some_iff.mp hi
    obtain ⟨hcl, hne⟩ := hall c (List.mem_of_getElem? hc)
    have hz : (tx c).length ≤ sizeLine := by
      rw [tx_len]
      exact Nat.le_of_lt (small1000 (by omega))
    refine ⟨_, rfl, _, rfl, hz, _, rfl, rfl, _, rfl, ifF ?_ ?_⟩
    · rw [tx_len, hcl, decide_eq_true rfl]
      rfl
    refine ⟨_, rfl, _, rfl, fun D nD => lc_str (x := tx c) (fun i H4 => Same H' H4 ∧ H4 D = some (.lst ((List.replicate i true).map V.bl)) ∧ i ≤ 6) ⟨same_upd nD, upd_same, Nat.zero_le _⟩ ?_ ?_⟩
    · rintro j k H4 hk ⟨s4, hD, _⟩
      have hj : j < 6 := by
        have h1 := (Array.getElem?_eq_some_iff.mp hk).1
        rw [tx_cps] at h1
        omega
      obtain ⟨b', rfl⟩ := tx_sign hk
      refine ⟨rfl, ?_⟩
      refine ⟨_, rfl, (by show 2 ≤ sizeLine; decide), fun p2 n2 => ?_⟩
      have s5 : Same H4 (upd H4 p2 (.lst [.str "0", .str "+"])) := same_upd n2
      refine ⟨p2, _, rfl, .inl (SqL.of upd_same), rfl, rfl, _, s5 _ _ hD, small1000 ?_, same_at nD (s4.trans s5), ?_, by omega⟩
      · rw [List.length_map, List.length_replicate]
        omega
      · rw [upd_same, List.replicate_succ', List.map_append]
        show some (HO.lst (_ ++ [V.bl (inV _ _)])) = _
        rw [sgn_in]
        rfl
    · rintro H4 ⟨s4, hD, _⟩
      refine ⟨D, _, rfl, SqL.of hD, _, rfl, ifF (by rw [all_true]; rfl) ?_⟩
      have s14 := (s1.trans s2).trans s4
      refine ⟨_, rfl, _, rfl, c, a, one, rfl, LsAt.mono GT.mono s14 hA, by rw [hcl]; exact hok1, by omega, fun H5 p5 s5 hp5 => ?_⟩
      refine ⟨_, rfl, _, rfl, c, b, other, rfl, LsAt.mono GT.mono (s14.trans s5) hB, by rw [hcl]; exact hok2, by omega, fun H6 p6 s6 hp6 => ?_⟩
      refine ⟨intsD _, intsD _, .lst (SqL.of (s6 _ _ hp5)) (ints_dp _), .lst (SqL.of hp6) (ints_dp _), ints_shaped _, ints_shaped _, _, rfl, ifF ?_ ?_⟩
      · rw [ints_eqv, hcl]
        exact decide_eq_false hne
      · exact ⟨_, rfl, (s2.trans s4).trans (s5.trans s6)⟩
  · rintro σ H' ⟨v9, rfl, s2⟩
    exact q _
end
end TC
set_option Elab.async false
set_option linter.all false
set_option maxRecDepth 100000
set_option maxHeartbeats 4000000
/-! Turncoins, the law. -/
namespace TC
open PySem PySem.Spec PyProof.Rows L2
theorem len_app (a b : Str) : (a ++ b).length = a.length + b.length := by
  rw [len_tl, len_tl a, len_tl b]
  show (TL.tl (a ++ b)).length = _
  rw [TL.tl_append, List.length_append]
theorem len_num {n : Nat} (h : n < 10) : (num n).length = 1 := by rw [len_tl, tl_num h]; rfl
theorem sz {k : Nat} (h : k ≤ 10000) : k ≤ sizeLine := Nat.le_trans h (by decide)
theorem same_made2 {H H' : Hp} {x dx C : Addr} (nx : H x = none) (nd : H dx = none) (k : ∀ b o, b ≠ x → (upd (upd H dx (.own x)) x (.ins C dx [])) b = some o → H' b = some o) : Same H H' := fun b o e => by
  have h1 := ne_of_none e nx
  have h2 := ne_of_none e nd
  refine k b o h1 ?_
  rw [upd_ne h1, upd_ne h2]
  exact e
theorem tx_none (bs : List Bool) : tx bs ≠ "none" := by
  intro e
  have h : tl (tx bs) = tl ("none" : Str) := by rw [e]
  have h2 : tl ("none" : Str) = [110, 111, 110, 101] := by decide +kernel
  rw [h2] at h
  have h3 : bs.map (fun b => if b then 43 else 48) = [110, 111, 110, 101] := h
  cases bs with
  | nil => cases h3
  | cons b r =>
    rw [List.map_cons] at h3
    have h4 := (List.cons.inj h3).1
    cases b <;> simp at h4
theorem ans_none {n : Nat} {one other : List G} (h : parting n one other = none) : answer n one other = "none" := by
  unfold answer
  rw [h]
theorem ans_some {n : Nat} {one other : List G} {bs : List Bool} (h : parting n one other = some bs) : answer n one other = tx bs := by
  unfold answer
  rw [h]
theorem cut_ints (ns : List Int) (i j : Nat) : ∃ ms : List Int, cutV (ns.map V.int) (some (i : Int)) (some (j : Int)) = ms.map V.int ∧ ms.length ≤ j - i := by
  refine ⟨(ns.drop (HT.sIx (ns.map V.int).length 0 (some (i : Int)))).take (HT.sIx (ns.map V.int).length (ns.map V.int).length (some (j : Int)) - HT.sIx (ns.map V.int).length 0 (some (i : Int))), ?_, ?_⟩
  · rw [List.map_take, List.map_drop]
    rfl
  · rw [List.length_take, List.length_drop, HT.sIx_nat, HT.sIx_nat, List.length_map]
    omega
def clist : List V := [.int 1, .int 2, .int 3, .int 4, .int 2, .int 3, .int 5, .int 6]
theorem clist_at {k : Nat} (h : k < 8) : ∃ n : Nat, clist[k]? = some (.int (n : Int)) ∧ 1 ≤ n ∧ n ≤ 6 := by
  match k, h with
  | 0, _ => exact ⟨1, rfl, by decide, by decide⟩
  | 1, _ => exact ⟨2, rfl, by decide, by decide⟩
  | 2, _ => exact ⟨3, rfl, by decide, by decide⟩
  | 3, _ => exact ⟨4, rfl, by decide, by decide⟩
  | 4, _ => exact ⟨2, rfl, by decide, by decide⟩
  | 5, _ => exact ⟨3, rfl, by decide, by decide⟩
  | 6, _ => exact ⟨5, rfl, by decide, by decide⟩
  | 7, _ => exact ⟨6, rfl, by decide, by decide⟩
section
variable {P : Program} {w : World} {K : PySem.W.Frag} {mg : Str → Option Value} {base : Heap}
theorem law_tail (T : Free mg) (EN : Has P w K mg base 3 "_law_end" ["_law_start", "_law_gates"] (spEnd K)) (AL : Has P w K mg base 4 "_law_alike" ["_law_coins", "_law_one", "_law_other"] (spAlike K)) (GX : Has P w K mg base 1 "_law_gates_text" ["_law_gates"] (spGText K))
    (DK : HasC P w K mg base 1 "Desk" (deskC K) ["self"] (spDInit (deskC K))) (SY : HasM P w K mg base 8 (deskC K) "say" ["self", "line"] spSay) {f : Addr} {cdv : Value} {A : Around} {outer : List Env} {s : Shared} {H : Hp} {E : XK}
    (hr : Room 8 (A.deeper (envOfC "law" (defScope s_law) s.heap.objs.size f cdv))) (Q : VK) (q : ∀ H', Q (.bl true) H') :
    ∃ t, PSs (cxOf CX0 P w K mg base NL "law" (defScope s_law) f cdv A outer s H E).nox ((defBody s_law).drop 5) t ∧
      ∀ (sa a b : Addr) (z : Int) (n : Nat) (one other : List G) (H1 : Hp), 1 ≤ n → n ≤ 6 → GTs K H1 a one → GTs K H1 b other → okAll n one → okAll n other → one.length ≤ 200 → other.length ≤ 200 →
        t { nx := fun _ H' => Q .non H', rt := Q } [some (.ref sa), some (.int z), some (.int (n : Int)), some (.ref a), some (.ref b), none, none, none, none, none, none, none] H1 := by
  obtain ⟨t, ht, hq⟩ := law_loop (P := P) (w := w) (K := K) (mg := mg) (base := base) T EN (f := f) (cdv := cdv) (A := A) (outer := outer) (s := s) (H := H) (E := E) hr Q q
  refine ⟨_, pss_cons (ps_set (i := 5) scLaw.nd rfl (.inl rfl) (pe_mk0 DK hr (by decide) (by rfl)))
    (pss_cons (ps_set (i := 6) scLaw.nd rfl (.inl rfl) (pe_lst (pa_cons (pe_h GX hr (by decide) (by rfl) (pa_cons (pv 3) pa_nil)) (pa_cons (pe_h GX hr (by decide) (by rfl) (pa_cons (pv 4) pa_nil)) pa_nil))))
    (pss_cons (ps_set (i := 7) scLaw.nd rfl (.inl rfl) (pe_mt SY hr (by decide) (pv 5) (pa_cons (pe_op op_add_str (pe_op op_add_str (pe_op op_add_str (pe_op op_add_str (pe_op op_add_str pe_str (pe_callTy call_str_int (by rfl) T.str (by decide +kernel) (pa_cons (pv 2) pa_nil))) pe_str)
        (pe_ix ix_list (pv 6) pe_int (fun _ _ => rfl))) pe_str) (pe_ix ix_list (pv 6) pe_int (fun _ _ => rfl))) pa_nil)))
    (pss_cons (ps_set (i := 8) scLaw.nd rfl (.inl rfl) (pe_mt SY hr (by decide) (pv 5) (pa_cons (pe_op op_add_str (pe_op op_add_str (pe_op op_add_str (pe_op op_add_str (pe_op op_add_str pe_str (pe_callTy call_str_int (by rfl) T.str (by decide +kernel) (pa_cons (pv 2) pa_nil))) pe_str)
        (pe_ix ix_list (pv 6) pe_int (fun _ _ => rfl))) pe_str) (pe_ix ix_list (pv 6) pe_int (fun _ _ => rfl))) pa_nil)))
    (pss_cons (ps_if (PW.pt (pw_or (pt_not (pt_val (pe_callB call_isi (by rfl) T.isinstance (by decide +kernel) (pa_cons (pv 7) (pa_cons (pe_bltn (v := .ty "str") (by rfl) T.str (by decide +kernel) rfl) pa_nil)))))
        (pw_or (pt_not (pt_val (pe_callB call_isi (by rfl) T.isinstance (by decide +kernel) (pa_cons (pv 8) (pa_cons (pe_bltn (v := .ty "str") (by rfl) T.str (by decide +kernel) rfl) pa_nil)))))
        (pw_or1 (pt_cmpR op_ne (pe_cmpR op_eq (pv 7) pe_str (nomark _)) (pe_cmpR op_eq (pv 8) pe_str (nomark _)) (nomark _)))))) (pss_one (ps_ret pe_bl)) pss_nil)
    (pss_cons (ps_if (pt_cmpR op_eq (pv 7) pe_str (nomark _)) (pss_one (ps_ret (pe_h AL hr (by decide) (by rfl) (pa_cons (pv 2) (pa_cons (pv 3) (pa_cons (pv 4) pa_nil)))))) pss_nil) ht))))), ?_⟩
  intro sa a b z n one other H1 h1 h6 hA hB hok1 hok2 hl1 hl2
  refine fun x dx nx ndx nex => ⟨x, dx, rfl, upd_same, fun H2 d hk hx => ⟨rfl, ?_⟩⟩
  have s1 : Same H1 H2 := same_made2 nx ndx hk
  have hno : (putF "kept" (V.ref d) []).lookup ("say" : Str) = none := by
    rw [lookup_putF, if_neg (by decide +kernel)]
    rfl
  refine ⟨_, rfl, a, n, one, rfl, LsAt.mono GT.mono s1 hA, by omega, hok1, hl1, fun H3 s3 => ?_⟩
  refine ⟨_, rfl, b, n, other, rfl, LsAt.mono GT.mono (s1.trans s3) hB, by omega, hok2, hl2, fun H4 s4 => ?_⟩
  refine ⟨(by show 2 ≤ sizeLine; decide), fun p np => ?_⟩
  have s5 : Same H4 (upd H4 p (.lst [.str (gstext one), .str (gstext other)])) := same_upd np
  have hp : (upd H4 p (.lst [.str (gstext one), .str (gstext other)])) p = some (.lst [.str (gstext one), .str (gstext other)]) := upd_same
  generalize upd H4 p (.lst [.str (gstext one), .str (gstext other)]) = H5 at s5 hp
  have s25 : Same H2 H5 := (s3.trans s4).trans s5
  have hx5 := s25 _ _ hx
  have g1 : (gstext one).length ≤ 4600 := Nat.le_trans (gstext_len (n := n) (by omega) hok1) (by omega)
  have g2 : (gstext other).length ≤ 4600 := Nat.le_trans (gstext_len (n := n) (by omega) hok2) (by omega)
  have l1 : ("part " : Str).length = 5 := by decide +kernel
  have l2 : (" " : Str).length = 1 := by decide +kernel
  have l3 : (" / " : Str).length = 3 := by decide +kernel
  have l4 : (num n).length = 1 := len_num (by omega)
  have hlog : ((n : Int)).natAbs.log2 < 1920 := by
    rw [Int.natAbs_natCast]
    exact Nat.lt_of_le_of_lt (Nat.log2_le_self n) (by omega)
  refine ⟨_, rfl, x, dx, _, rfl, hx5, hno, _, rfl, (n : Int), rfl, hlog, _, num n, rfl, rfl, sz (by omega), _, _, rfl, rfl, sz (by rw [len_app]; omega), _, rfl, p, _, _, _, rfl, rfl, SqL.of hp, atI_nat (j := 0) rfl, _, _, rfl, rfl, sz (by rw [len_app, len_app]; omega), _, _, rfl, rfl, sz (by rw [len_app, len_app, len_app]; omega),
    _, rfl, p, _, _, _, rfl, rfl, SqL.of hp, atI_nat (j := 1) rfl, _, _, rfl, rfl, sz (by rw [len_app, len_app, len_app, len_app]; omega), x, n, one, other, rfl, h1, h6, hok1, hok2, hl1, hl2, fun H6 s6 => ?_⟩
  refine ⟨_, rfl, x, dx, _, rfl, s6 _ _ hx5, hno, _, rfl, (n : Int), rfl, hlog, _, num n, rfl, rfl, sz (by omega), _, _, rfl, rfl, sz (by rw [len_app]; omega), _, rfl, p, _, _, _, rfl, rfl, SqL.of (s6 _ _ hp), atI_nat (j := 1) rfl, _, _, rfl, rfl, sz (by rw [len_app, len_app]; omega), _, _, rfl, rfl, sz (by rw [len_app, len_app, len_app]; omega),
    _, rfl, p, _, _, _, rfl, rfl, SqL.of (s6 _ _ hp), atI_nat (j := 0) rfl, _, _, rfl, rfl, sz (by rw [len_app, len_app, len_app, len_app]; omega), x, n, other, one, rfl, h1, h6, hok2, hok1, hl2, hl1, fun H7 s7 => ?_⟩
  have s17 : Same H1 H7 := (s1.trans s25).trans (s6.trans s7)
  refine ⟨_, rfl, _, _, _, _, true, rfl, .ty _, .base (.str _), kit_ty (by decide +kernel), true, rfl, ifF rfl ?_⟩
  refine ⟨_, rfl, _, _, _, _, true, rfl, .ty _, .base (.str _), kit_ty (by decide +kernel), true, rfl, ifF rfl ?_⟩
  refine ⟨_, rfl, rfl, _, rfl, rfl, rfl, _, rfl, ?_⟩
  cases e1 : parting n one other with
  | none =>
    have e2 := parting_sym hok1 hok2 e1
    rw [ans_none e1, ans_none e2]
    refine ifF (by rw [decide_eq_true rfl]; rfl) ?_
    refine ⟨_, rfl, rfl, _, rfl, ifT (decide_eq_true rfl) ?_⟩
    refine ⟨_, rfl, _, rfl, _, rfl, n, a, b, one, other, rfl, LsAt.mono GT.mono s17 hA, LsAt.mono GT.mono s17 hB, hok1, hok2, h6, parting_none h6 hok1 hok2 e1, fun H8 _ => q H8⟩
  | some bs =>
    cases e2 : parting n other one with
    | none =>
      rw [parting_sym hok2 hok1 e2] at e1
      cases e1
    | some cs =>
      rw [ans_some e1, ans_some e2]
      have d1 : decide (V.str (tx bs) = V.str ("none" : Str)) = false := decide_eq_false fun e => tx_none bs (V.str.inj e)
      have d2 : decide (V.str (tx cs) = V.str ("none" : Str)) = false := decide_eq_false fun e => tx_none cs (V.str.inj e)
      refine ifF (by rw [d1, d2]; rfl) ?_
      refine ⟨_, rfl, rfl, _, rfl, ifF d1 ?_⟩
      refine hq sa a b z n _ _ one other bs cs H7 h6 (LsAt.mono GT.mono s17 hA) (LsAt.mono GT.mono s17 hB) hok1 hok2 ?_
      intro c hc
      rcases List.mem_cons.mp hc with rfl | hc
      · exact parting_some h6 hok1 hok2 e1
      · rw [List.mem_singleton.mp hc]
        obtain ⟨h8, h9⟩ := parting_some h6 hok2 hok1 e2
        exact ⟨h8, fun e => h9 e.symm⟩
def spLaw (K : PySem.W.Frag) : Sp := fun vs H Q _ => ∃ (a : Addr) (ns : List Int), vs = [.ref a] ∧ SqL K H a (ns.map V.int) ∧ ∀ H', Q (.bl true) H'
theorem ok_law {f : Addr} {fd : FuncData} (F : FnP K "law" "law" s_law f fd) (T : Free mg) (CE : Has P w K mg base 1 "_law_cell" ["_law_script", "_law_k"] (spCell K)) (LG : Has P w K mg base 1 "_law_gate" ["_law_cell_here", "_law_coins"] (spLGate K)) (RW : Has P w K mg base 3 "_law_rewritten" ["_law_gates", "_law_cell_here", "_law_coins"] (spRewr K))
    (EN : Has P w K mg base 3 "_law_end" ["_law_start", "_law_gates"] (spEnd K)) (AL : Has P w K mg base 4 "_law_alike" ["_law_coins", "_law_one", "_law_other"] (spAlike K)) (GX : Has P w K mg base 1 "_law_gates_text" ["_law_gates"] (spGText K))
    (DK : HasC P w K mg base 1 "Desk" (deskC K) ["self"] (spDInit (deskC K))) (SY : HasM P w K mg base 8 (deskC K) "say" ["self", "line"] spSay) : FnOk P w K mg base CX0 9 f fd ["_law_script"] (spLaw K) := by
  refine fn_ok F scLaw (fun vs H Q E h => ?_) (fun cdv A outer s H vs Q E hr h => ?_)
  · obtain ⟨a, ns, rfl, _⟩ := h
    rfl
  · obtain ⟨a, ns, rfl, hA, q⟩ := h
    obtain ⟨t, ht, hq⟩ := law_tail (P := P) (w := w) (K := K) (mg := mg) (base := base) T EN AL GX DK SY (f := f) (cdv := cdv) (A := A) (outer := outer) (s := s) (H := H) (E := E) hr Q q
    refine ⟨_, pss_cons (ps_set (i := 1) scLaw.nd rfl (.inl rfl) (pe_op op_mod (pe_h CE hr (by decide) (by rfl) (pa_cons (pv 0) (pa_cons pe_int pa_nil))) (pe_op op_pow pe_int pe_int)))
      (pss_cons (ps_set (i := 2) scLaw.nd rfl (.inr rfl) (pe_ix ix_list (pe_lst (pa_cons pe_int (pa_cons pe_int (pa_cons pe_int (pa_cons pe_int (pa_cons pe_int (pa_cons pe_int (pa_cons pe_int (pa_cons pe_int pa_nil))))))))) (pe_op op_mod (pv 1) pe_int) (fun _ _ => rfl)))
      (pss_cons (ps_setLc (i := 3) (own := [("_law_cell_here", 10)]) (g := gName 10) (tt := tYes) rfl scLaw.nd rfl rfl rfl (pi_list (pe_slice sl_list (pv 0) (po_some pe_int) (po_some pe_int)))
        (blkOk_by (own := [("_law_cell_here", 10)]) (N := NL) (sc := defScope s_law) (by decide +kernel)) (fun _ _ _ _ _ => pg_name (i := 10) scLaw.nd rfl (Or.inl rfl)) (fun _ _ _ _ _ => pts_nil)
        (fun _ _ _ _ _ => pe_h LG hr (by decide) (by rfl) (pa_cons (pe_op op_mod (pv 10) (pe_op op_pow pe_int pe_int)) (pa_cons (pv 2) pa_nil))))
      (pss_cons (ps_setLc (i := 4) (own := [("_law_cell_here", 10)]) (g := gName 10) (tt := tYes) rfl scLaw.nd rfl rfl rfl (pi_list (pe_slice sl_list (pv 0) (po_some pe_int) (po_some pe_int)))
        (blkOk_by (own := [("_law_cell_here", 10)]) (N := NL) (sc := defScope s_law) (by decide +kernel)) (fun _ _ _ _ _ => pg_name (i := 10) scLaw.nd rfl (Or.inl rfl)) (fun _ _ _ _ _ => pts_nil)
        (fun _ _ _ _ _ => pe_h LG hr (by decide) (by rfl) (pa_cons (pe_op op_mod (pv 10) (pe_op op_pow pe_int pe_int)) (pa_cons (pv 2) pa_nil))))
      (pss_cons (ps_if (pt_cmpR op_gt (pe_op op_mod (pe_op op_fdiv (pv 1) pe_int) pe_int) pe_int (nomark _)) (pss_one (ps_set (i := 4) scLaw.nd rfl (.inl rfl) (pe_h RW hr (by decide) (by rfl) (pa_cons (pv 3) (pa_cons (pe_op op_fdiv (pv 1) pe_int) (pa_cons (pv 2) pa_nil)))))) pss_nil) ht)))), ?_⟩
    refine ⟨_, rfl, a, ns, rfl, hA, fun H1 z0 s1 => ?_⟩
    refine ⟨_, _, rfl, rfl, ⟨by decide, by decide, by decide⟩, _, _, rfl, rfl, (show (0 : Int) < 10 ^ Int.toNat 15 by decide +kernel), ?_⟩
    obtain ⟨k, ek, hk⟩ := emod_nat (z0 % 10 ^ Int.toNat 15) (m := 8) (by decide)
    obtain ⟨n, en, h1, h6⟩ := clist_at hk
    refine ⟨(by show 8 ≤ sizeLine; decide), fun p1 n1 => ?_⟩
    have s2 : Same H1 (upd H1 p1 (.lst [.int 1, .int 2, .int 3, .int 4, .int 2, .int 3, .int 5, .int 6])) := same_upd n1
    have hp1 : (upd H1 p1 (.lst [.int 1, .int 2, .int 3, .int 4, .int 2, .int 3, .int 5, .int 6])) p1 = some (.lst clist) := upd_same
    generalize upd H1 p1 (.lst [.int 1, .int 2, .int 3, .int 4, .int 2, .int 3, .int 5, .int 6]) = H2 at s2 hp1
    refine ⟨_, rfl, _, _, rfl, rfl, (by show (0 : Int) < 8; decide), p1, clist, _, _, rfl, rfl, SqL.of hp1, at_of ek en, ?_⟩
    have s02 := s1.trans s2
    obtain ⟨ms1, em1, hm1⟩ := cut_ints ns 2 22
    have em1' : cutV (ns.map V.int) (some 2) (some 22) = ms1.map V.int := em1
    refine ⟨_, rfl, 2, rfl, 22, rfl, a, _, rfl, s02.seq hA, fun pa npa => ?_⟩
    rw [em1']
    have spa : Same H2 (upd H2 pa (.lst (ms1.map V.int))) := same_upd npa
    have hpa : (upd H2 pa (.lst (ms1.map V.int))) pa = some (.lst (ms1.map V.int)) := upd_same
    generalize upd H2 pa (.lst (ms1.map V.int)) = Hpa at spa hpa
    refine ⟨pa, rfl, ⟨_, SqL.of hpa⟩, fun D1 nD1 => lc_list (K := K) (a := pa) (xs := ms1.map V.int) (fun i H' => Same Hpa H' ∧ ∃ us gs, H' D1 = some (.lst us) ∧ Reps (GT K H') us gs ∧ okAll n gs ∧ gs.length ≤ i)
      ⟨same_upd nD1, [], [], upd_same, Reps.nil, (fun _ h => by cases h), Nat.le_refl _⟩ (fun i H' _ ⟨s4, _⟩ => s4.seq (SqL.of hpa)) ?_ ?_⟩
    · rintro i x H' hi ⟨s4, us, gs, hD, hU, hok, hgl⟩
      have hi20 : i < 20 := by
        have h1 := (List.getElem?_eq_some_iff.mp hi).1
        rw [List.length_map] at h1
        omega
      rw [List.getElem?_map] at hi
      obtain ⟨y, hy, rfl⟩ := Option.map_eq_some_iff.mp hi
      refine ⟨rfl, ?_⟩
      refine ⟨_, rfl, _, _, rfl, rfl, ⟨by decide, by decide, by decide⟩, _, _, rfl, rfl, (show (0 : Int) < 10 ^ Int.toNat 12 by decide +kernel), _, rfl, _, n, rfl, h1, h6, fun H5 v g s5 hg hv => ?_⟩
      have hD2 := s5 _ _ hD
      refine ⟨us, hD2, small1000 (by rw [hU.len]; omega), same_at nD1 (s4.trans s5), us ++ [v], gs ++ [g], upd_same, (hU.mono fun v x r => GT.upd hD2 (GT.mono s5 r)).snoc (GT.upd hD2 hv), ?_, ?_⟩
      · intro y hy
        rcases List.mem_append.mp hy with hy | hy
        · exact hok y hy
        · rw [List.mem_singleton.mp hy]
          exact hg
      · rw [List.length_append]
        show gs.length + 1 ≤ i + 1
        omega
    rintro H3 ⟨s3, us1, one, hD1, hU1, hok1, hl1⟩
    have hG1 : GTs K H3 D1 one := ⟨us1, hD1, hU1⟩
    rw [List.length_map] at hl1
    have s03 := (s02.trans spa).trans s3
    obtain ⟨ms2, em2, hm2⟩ := cut_ints ns 22 42
    have em2' : cutV (ns.map V.int) (some 22) (some 42) = ms2.map V.int := em2
    refine ⟨_, rfl, 22, rfl, 42, rfl, a, _, rfl, s03.seq hA, fun pb npb => ?_⟩
    rw [em2']
    have spb : Same H3 (upd H3 pb (.lst (ms2.map V.int))) := same_upd npb
    have hpb : (upd H3 pb (.lst (ms2.map V.int))) pb = some (.lst (ms2.map V.int)) := upd_same
    generalize upd H3 pb (.lst (ms2.map V.int)) = Hpb at spb hpb
    refine ⟨pb, rfl, ⟨_, SqL.of hpb⟩, fun D2 nD2 => lc_list (K := K) (a := pb) (xs := ms2.map V.int) (fun i H' => Same Hpb H' ∧ ∃ us gs, H' D2 = some (.lst us) ∧ Reps (GT K H') us gs ∧ okAll n gs ∧ gs.length ≤ i)
      ⟨same_upd nD2, [], [], upd_same, Reps.nil, (fun _ h => by cases h), Nat.le_refl _⟩ (fun i H' _ ⟨s4, _⟩ => s4.seq (SqL.of hpb)) ?_ ?_⟩
    · rintro i x H' hi ⟨s4, us, gs, hD, hU, hok, hgl⟩
      have hi20 : i < 20 := by
        have h1 := (List.getElem?_eq_some_iff.mp hi).1
        rw [List.length_map] at h1
        omega
      rw [List.getElem?_map] at hi
      obtain ⟨y, hy, rfl⟩ := Option.map_eq_some_iff.mp hi
      refine ⟨rfl, ?_⟩
      refine ⟨_, rfl, _, _, rfl, rfl, ⟨by decide, by decide, by decide⟩, _, _, rfl, rfl, (show (0 : Int) < 10 ^ Int.toNat 12 by decide +kernel), _, rfl, _, n, rfl, h1, h6, fun H5 v g s5 hg hv => ?_⟩
      have hD2 := s5 _ _ hD
      refine ⟨us, hD2, small1000 (by rw [hU.len]; omega), same_at nD2 (s4.trans s5), us ++ [v], gs ++ [g], upd_same, (hU.mono fun v x r => GT.upd hD2 (GT.mono s5 r)).snoc (GT.upd hD2 hv), ?_, ?_⟩
      · intro y hy
        rcases List.mem_append.mp hy with hy | hy
        · exact hok y hy
        · rw [List.mem_singleton.mp hy]
          exact hg
      · rw [List.length_append]
        show gs.length + 1 ≤ i + 1
        omega
    rintro H4 ⟨s4, us2, other, hD2, hU2, hok2, hl2⟩
    have hG2 : GTs K H4 D2 other := ⟨us2, hD2, hU2⟩
    rw [List.length_map] at hl2
    have s34 := spb.trans s4
    refine ⟨_, rfl, _, _, rfl, rfl, ⟨by decide, by decide⟩, _, _, rfl, rfl, (by show (0 : Int) < 3; decide), _, _, rfl, rfl, _, rfl, ite2 (fun _ => ?_) (fun _ => ?_)⟩
    · refine ⟨_, rfl, _, rfl, _, _, rfl, rfl, ⟨by decide, by decide⟩, _, rfl, D1, _, n, one, rfl, LsAt.mono GT.mono s34 hG1, hok1, by omega, h1, h6, fun H5 p5 other' s5 hG3 hok3 hl3 => ?_⟩
      exact hq a D1 p5 _ n one other' H5 h1 h6 (LsAt.mono GT.mono (s34.trans s5) hG1) hG3 hok1 hok3 (by omega) hl3
    · exact hq a D1 D2 _ n one other H4 h1 h6 (LsAt.mono GT.mono s34 hG1) hG2 hok1 hok2 (by omega) (by omega)
end
end TC
set_option Elab.async false
set_option linter.all false
set_option maxRecDepth 100000
set_option maxHeartbeats 16000000
/-! Turncoins: what the top leaves, the end (printed by gen_facts.py). -/
namespace TC
open PySem PySem.Spec PyProof.Rows L2
theorem Says.t {w : World} {K : PySem.W.Frag} (c : Says w K) : He.SaysT fa fn ts w K := c.1
theorem w_key (g : G) (x : Str) : ∀ {P : Str × He.Dv → Prop}, (∀ q ∈ pvals, P q) → P (W g, .int ((gtup g).length : Int)) := fun {P} h => by
  cases g
  · exact h ("mix", .int 2) (by simp [pvals])
  · exact h ("flip", .int 2) (by simp [pvals])
  · exact h ("sign", .int 2) (by simp [pvals])
  · exact h ("follow", .int 3) (by simp [pvals])
  · exact h ("meet", .int 3) (by simp [pvals])
  · exact h ("swap", .int 3) (by simp [pvals])
section
variable {P : Program} {w : World} {K : PySem.W.Frag} {h : Heap} {mg : Str → Option Value} {f : Addr}
theorem f_free (X : K.In h) (G : h.Ns mainGlobals mg) (c : Says w K) : Free mg := ⟨He.free_ok X G (c.t.d.fact 68 (f := .free "len") rfl), He.free_ok X G (c.t.d.fact 69 (f := .free "range") rfl), He.free_ok X G (c.t.d.fact 70 (f := .free "enumerate") rfl), He.free_ok X G (c.t.d.fact 71 (f := .free "isinstance") rfl), He.free_ok X G (c.t.d.fact 72 (f := .free "tuple") rfl), He.free_ok X G (c.t.d.fact 73 (f := .free "sum") rfl), He.free_ok X G (c.t.d.fact 74 (f := .free "int") rfl), He.free_ok X G (c.t.d.fact 75 (f := .free "str") rfl), He.free_ok X G (c.t.d.fact 76 (f := .free "list") rfl), He.free_ok X G (c.t.d.fact 77 (f := .free "abs") rfl), He.free_ok X G (c.t.d.fact 78 (f := .free "all") rfl), He.free_ok X G (c.t.d.fact 79 (f := .free "bool") rfl)⟩
theorem f_PARTS_gates (X : K.In h) (G : h.Ns mainGlobals mg) (c : Says w K) : PartsAt K mg w "PARTS_gates" := by
  obtain ⟨es, n, D⟩ := c.t.tab 0 (t := (fun K => He.ga K "PARTS_gates", pkeys)) rfl
  have e : (He.valsB K (He.ga K "PARTS_gates") pvals && He.valsB K (He.ga K "PARTS_texts") pvals) = true := c.2
  exact ⟨_, es, n, D, He.glo_ok X G (c.t.d.fact 81 (f := .glo "PARTS_gates") rfl), fun g => w_key g "" fun q hq => He.valsB_ok (He.ba e).1 hq⟩
theorem f_PARTS_texts (X : K.In h) (G : h.Ns mainGlobals mg) (c : Says w K) : PartsAt K mg w "PARTS_texts" := by
  obtain ⟨es, n, D⟩ := c.t.tab 1 (t := (fun K => He.ga K "PARTS_texts", pkeys)) rfl
  have e : (He.valsB K (He.ga K "PARTS_gates") pvals && He.valsB K (He.ga K "PARTS_texts") pvals) = true := c.2
  exact ⟨_, es, n, D, He.glo_ok X G (c.t.d.fact 82 (f := .glo "PARTS_texts") rfl), fun g => w_key g "" fun q hq => He.valsB_ok (He.ba e).2 hq⟩
theorem f_bit_of (X : K.In h) (G : h.Ns mainGlobals mg) (c : Says w K) : Def K mg "bit_of" s_bit_of := by
  obtain ⟨fd, F⟩ := c.t.d.def_ 0 (d := d_bit_of) rfl
  exact ⟨_, fd, F, He.glo_ok X G (c.t.d.fact 0 (f := .glo "bit_of") rfl)⟩
theorem f_is_gate (X : K.In h) (G : h.Ns mainGlobals mg) (c : Says w K) : Def K mg "is_gate" s_is_gate := by
  obtain ⟨fd, F⟩ := c.t.d.def_ 1 (d := d_is_gate) rfl
  exact ⟨_, fd, F, He.glo_ok X G (c.t.d.fact 1 (f := .glo "is_gate") rfl)⟩
theorem f_gate_of (X : K.In h) (G : h.Ns mainGlobals mg) (c : Says w K) : Def K mg "gate_of" s_gate_of := by
  obtain ⟨fd, F⟩ := c.t.d.def_ 2 (d := d_gate_of) rfl
  exact ⟨_, fd, F, He.glo_ok X G (c.t.d.fact 2 (f := .glo "gate_of") rfl)⟩
theorem f_gates_from (X : K.In h) (G : h.Ns mainGlobals mg) (c : Says w K) : Def K mg "gates_from" s_gates_from := by
  obtain ⟨fd, F⟩ := c.t.d.def_ 3 (d := d_gates_from) rfl
  exact ⟨_, fd, F, He.glo_ok X G (c.t.d.fact 3 (f := .glo "gates_from") rfl)⟩
theorem f_first_images (X : K.In h) (G : h.Ns mainGlobals mg) (c : Says w K) : Def K mg "first_images" s_first_images := by
  obtain ⟨fd, F⟩ := c.t.d.def_ 4 (d := d_first_images) rfl
  exact ⟨_, fd, F, He.glo_ok X G (c.t.d.fact 4 (f := .glo "first_images") rfl)⟩
theorem f_images (X : K.In h) (G : h.Ns mainGlobals mg) (c : Says w K) : Def K mg "images" s_images := by
  obtain ⟨fd, F⟩ := c.t.d.def_ 5 (d := d_images) rfl
  exact ⟨_, fd, F, He.glo_ok X G (c.t.d.fact 5 (f := .glo "images") rfl)⟩
theorem f_start_beside (X : K.In h) (G : h.Ns mainGlobals mg) (c : Says w K) : Def K mg "start_beside" s_start_beside := by
  obtain ⟨fd, F⟩ := c.t.d.def_ 6 (d := d_start_beside) rfl
  exact ⟨_, fd, F, He.glo_ok X G (c.t.d.fact 6 (f := .glo "start_beside") rfl)⟩
theorem f_parting (X : K.In h) (G : h.Ns mainGlobals mg) (c : Says w K) : Def K mg "parting" s_parting := by
  obtain ⟨fd, F⟩ := c.t.d.def_ 7 (d := d_parting) rfl
  exact ⟨_, fd, F, He.glo_ok X G (c.t.d.fact 7 (f := .glo "parting") rfl)⟩
theorem f_read_figure (X : K.In h) (G : h.Ns mainGlobals mg) (c : Says w K) : Def K mg "read_figure" s_read_figure := by
  obtain ⟨fd, F⟩ := c.t.d.def_ 8 (d := d_read_figure) rfl
  exact ⟨_, fd, F, He.glo_ok X G (c.t.d.fact 8 (f := .glo "read_figure") rfl)⟩
theorem f_read_gate (X : K.In h) (G : h.Ns mainGlobals mg) (c : Says w K) : Def K mg "read_gate" s_read_gate := by
  obtain ⟨fd, F⟩ := c.t.d.def_ 9 (d := d_read_gate) rfl
  exact ⟨_, fd, F, He.glo_ok X G (c.t.d.fact 9 (f := .glo "read_gate") rfl)⟩
theorem f_read_gates (X : K.In h) (G : h.Ns mainGlobals mg) (c : Says w K) : Def K mg "read_gates" s_read_gates := by
  obtain ⟨fd, F⟩ := c.t.d.def_ 10 (d := d_read_gates) rfl
  exact ⟨_, fd, F, He.glo_ok X G (c.t.d.fact 10 (f := .glo "read_gates") rfl)⟩
theorem f_is_known (X : K.In h) (G : h.Ns mainGlobals mg) (c : Says w K) : Def K mg "is_known" s_is_known := by
  obtain ⟨fd, F⟩ := c.t.d.def_ 11 (d := d_is_known) rfl
  exact ⟨_, fd, F, He.glo_ok X G (c.t.d.fact 11 (f := .glo "is_known") rfl)⟩
theorem f_read_within (X : K.In h) (G : h.Ns mainGlobals mg) (c : Says w K) : Def K mg "read_within" s_read_within := by
  obtain ⟨fd, F⟩ := c.t.d.def_ 12 (d := d_read_within) rfl
  exact ⟨_, fd, F, He.glo_ok X G (c.t.d.fact 12 (f := .glo "read_within") rfl)⟩
theorem f_told_parting (X : K.In h) (G : h.Ns mainGlobals mg) (c : Says w K) : Def K mg "told_parting" s_told_parting := by
  obtain ⟨fd, F⟩ := c.t.d.def_ 13 (d := d_told_parting) rfl
  exact ⟨_, fd, F, He.glo_ok X G (c.t.d.fact 13 (f := .glo "told_parting") rfl)⟩
theorem f__law_cell (X : K.In h) (G : h.Ns mainGlobals mg) (c : Says w K) : Def K mg "_law_cell" s__law_cell := by
  obtain ⟨fd, F⟩ := c.t.d.def_ 14 (d := d__law_cell) rfl
  exact ⟨_, fd, F, He.glo_ok X G (c.t.d.fact 14 (f := .glo "_law_cell") rfl)⟩
theorem f__law_gate (X : K.In h) (G : h.Ns mainGlobals mg) (c : Says w K) : Def K mg "_law_gate" s__law_gate := by
  obtain ⟨fd, F⟩ := c.t.d.def_ 15 (d := d__law_gate) rfl
  exact ⟨_, fd, F, He.glo_ok X G (c.t.d.fact 15 (f := .glo "_law_gate") rfl)⟩
theorem f__law_bit (X : K.In h) (G : h.Ns mainGlobals mg) (c : Says w K) : Def K mg "_law_bit" s__law_bit := by
  obtain ⟨fd, F⟩ := c.t.d.def_ 16 (d := d__law_bit) rfl
  exact ⟨_, fd, F, He.glo_ok X G (c.t.d.fact 16 (f := .glo "_law_bit") rfl)⟩
theorem f__law_made (X : K.In h) (G : h.Ns mainGlobals mg) (c : Says w K) : Def K mg "_law_made" s__law_made := by
  obtain ⟨fd, F⟩ := c.t.d.def_ 17 (d := d__law_made) rfl
  exact ⟨_, fd, F, He.glo_ok X G (c.t.d.fact 17 (f := .glo "_law_made") rfl)⟩
theorem f__law_gcd (X : K.In h) (G : h.Ns mainGlobals mg) (c : Says w K) : Def K mg "_law_gcd" s__law_gcd := by
  obtain ⟨fd, F⟩ := c.t.d.def_ 18 (d := d__law_gcd) rfl
  exact ⟨_, fd, F, He.glo_ok X G (c.t.d.fact 18 (f := .glo "_law_gcd") rfl)⟩
theorem f__law_least (X : K.In h) (G : h.Ns mainGlobals mg) (c : Says w K) : Def K mg "_law_least" s__law_least := by
  obtain ⟨fd, F⟩ := c.t.d.def_ 19 (d := d__law_least) rfl
  exact ⟨_, fd, F, He.glo_ok X G (c.t.d.fact 19 (f := .glo "_law_least") rfl)⟩
theorem f__law_gates_text (X : K.In h) (G : h.Ns mainGlobals mg) (c : Says w K) : Def K mg "_law_gates_text" s__law_gates_text := by
  obtain ⟨fd, F⟩ := c.t.d.def_ 20 (d := d__law_gates_text) rfl
  exact ⟨_, fd, F, He.glo_ok X G (c.t.d.fact 20 (f := .glo "_law_gates_text") rfl)⟩
theorem f__law_otherwise (X : K.In h) (G : h.Ns mainGlobals mg) (c : Says w K) : Def K mg "_law_otherwise" s__law_otherwise := by
  obtain ⟨fd, F⟩ := c.t.d.def_ 21 (d := d__law_otherwise) rfl
  exact ⟨_, fd, F, He.glo_ok X G (c.t.d.fact 21 (f := .glo "_law_otherwise") rfl)⟩
theorem f__law_rewritten (X : K.In h) (G : h.Ns mainGlobals mg) (c : Says w K) : Def K mg "_law_rewritten" s__law_rewritten := by
  obtain ⟨fd, F⟩ := c.t.d.def_ 22 (d := d__law_rewritten) rfl
  exact ⟨_, fd, F, He.glo_ok X G (c.t.d.fact 22 (f := .glo "_law_rewritten") rfl)⟩
theorem f__law_end (X : K.In h) (G : h.Ns mainGlobals mg) (c : Says w K) : Def K mg "_law_end" s__law_end := by
  obtain ⟨fd, F⟩ := c.t.d.def_ 23 (d := d__law_end) rfl
  exact ⟨_, fd, F, He.glo_ok X G (c.t.d.fact 23 (f := .glo "_law_end") rfl)⟩
theorem f__law_alike (X : K.In h) (G : h.Ns mainGlobals mg) (c : Says w K) : Def K mg "_law_alike" s__law_alike := by
  obtain ⟨fd, F⟩ := c.t.d.def_ 24 (d := d__law_alike) rfl
  exact ⟨_, fd, F, He.glo_ok X G (c.t.d.fact 24 (f := .glo "_law_alike") rfl)⟩
theorem f_Mix_on_row (c : Says w K) : DefM K (Kd.mix.C K) "on_row" "Mix.on_row" s_Mix_on_row := by
  obtain ⟨fd, F⟩ := c.t.d.def_ 27 (d := d_Mix_on_row) rfl
  exact ⟨_, fd, F, He.cls_ok (c.t.d.fact 27 (f := .cls "Mix") rfl), He.meth_ok (c.t.d.fact 31 (f := .meth "Mix" "on_row") rfl)⟩
theorem f_Flip_on_row (c : Says w K) : DefM K (Kd.flip.C K) "on_row" "Flip.on_row" s_Flip_on_row := by
  obtain ⟨fd, F⟩ := c.t.d.def_ 29 (d := d_Flip_on_row) rfl
  exact ⟨_, fd, F, He.cls_ok (c.t.d.fact 33 (f := .cls "Flip") rfl), He.meth_ok (c.t.d.fact 37 (f := .meth "Flip" "on_row") rfl)⟩
theorem f_Sign_on_row (c : Says w K) : DefM K (Kd.sign.C K) "on_row" "Sign.on_row" s_Sign_on_row := by
  obtain ⟨fd, F⟩ := c.t.d.def_ 31 (d := d_Sign_on_row) rfl
  exact ⟨_, fd, F, He.cls_ok (c.t.d.fact 39 (f := .cls "Sign") rfl), He.meth_ok (c.t.d.fact 43 (f := .meth "Sign" "on_row") rfl)⟩
theorem f_Follow_on_row (c : Says w K) : DefM K (Kd.follow.C K) "on_row" "Follow.on_row" s_Follow_on_row := by
  obtain ⟨fd, F⟩ := c.t.d.def_ 33 (d := d_Follow_on_row) rfl
  exact ⟨_, fd, F, He.cls_ok (c.t.d.fact 45 (f := .cls "Follow") rfl), He.meth_ok (c.t.d.fact 49 (f := .meth "Follow" "on_row") rfl)⟩
theorem f_Meet_on_row (c : Says w K) : DefM K (Kd.meet.C K) "on_row" "Meet.on_row" s_Meet_on_row := by
  obtain ⟨fd, F⟩ := c.t.d.def_ 35 (d := d_Meet_on_row) rfl
  exact ⟨_, fd, F, He.cls_ok (c.t.d.fact 51 (f := .cls "Meet") rfl), He.meth_ok (c.t.d.fact 55 (f := .meth "Meet" "on_row") rfl)⟩
theorem f_Swap_on_row (c : Says w K) : DefM K (Kd.swap.C K) "on_row" "Swap.on_row" s_Swap_on_row := by
  obtain ⟨fd, F⟩ := c.t.d.def_ 37 (d := d_Swap_on_row) rfl
  exact ⟨_, fd, F, He.cls_ok (c.t.d.fact 57 (f := .cls "Swap") rfl), He.meth_ok (c.t.d.fact 61 (f := .meth "Swap" "on_row") rfl)⟩
theorem f_Swap_changed (c : Says w K) : DefM K (Kd.swap.C K) "changed" "Swap.changed" s_Swap_changed := by
  obtain ⟨fd, F⟩ := c.t.d.def_ 38 (d := d_Swap_changed) rfl
  exact ⟨_, fd, F, He.cls_ok (c.t.d.fact 57 (f := .cls "Swap") rfl), He.meth_ok (c.t.d.fact 62 (f := .meth "Swap" "changed") rfl)⟩
theorem f_Desk_say (c : Says w K) : DefM K (deskC K) "say" "Desk.say" s_Desk_say := by
  obtain ⟨fd, F⟩ := c.t.d.def_ 40 (d := d_Desk_say) rfl
  exact ⟨_, fd, F, He.cls_ok (c.t.d.fact 64 (f := .cls "Desk") rfl), He.meth_ok (c.t.d.fact 67 (f := .meth "Desk" "say") rfl)⟩
theorem f_kt_mix (c : Says w K) : KTxt K .mix := ⟨He.cls_ok (c.t.d.fact 27 (f := .cls "Mix") rfl), He.noat_ok (c.t.d.fact 29 (f := .noat "Mix" "first") rfl), He.noat_ok (c.t.d.fact 30 (f := .noat "Mix" "second") rfl)⟩
theorem f_mk_mix {base : Heap} (X : K.In h) (G : h.Ns mainGlobals mg) (c : Says w K) : HasC P w K mg base 1 "Mix" (Kd.mix.C K) ["self", "first", "second"] (spGInit (Kd.mix.C K)) := by
  obtain ⟨fd, F⟩ := c.t.d.def_ 26 (d := d_Mix_init) rfl
  exact ok_gmake (k := .mix) F (f_kt_mix c) (He.mkr_ok (c.t.d.fact 28 (f := .mkr "Mix") rfl)) (He.glo_ok X G (c.t.d.fact 26 (f := .glo "Mix") rfl))
theorem f_kt_flip (c : Says w K) : KTxt K .flip := ⟨He.cls_ok (c.t.d.fact 33 (f := .cls "Flip") rfl), He.noat_ok (c.t.d.fact 35 (f := .noat "Flip" "first") rfl), He.noat_ok (c.t.d.fact 36 (f := .noat "Flip" "second") rfl)⟩
theorem f_mk_flip {base : Heap} (X : K.In h) (G : h.Ns mainGlobals mg) (c : Says w K) : HasC P w K mg base 1 "Flip" (Kd.flip.C K) ["self", "first", "second"] (spGInit (Kd.flip.C K)) := by
  obtain ⟨fd, F⟩ := c.t.d.def_ 28 (d := d_Flip_init) rfl
  exact ok_gmake (k := .flip) F (f_kt_flip c) (He.mkr_ok (c.t.d.fact 34 (f := .mkr "Flip") rfl)) (He.glo_ok X G (c.t.d.fact 32 (f := .glo "Flip") rfl))
theorem f_kt_sign (c : Says w K) : KTxt K .sign := ⟨He.cls_ok (c.t.d.fact 39 (f := .cls "Sign") rfl), He.noat_ok (c.t.d.fact 41 (f := .noat "Sign" "first") rfl), He.noat_ok (c.t.d.fact 42 (f := .noat "Sign" "second") rfl)⟩
theorem f_mk_sign {base : Heap} (X : K.In h) (G : h.Ns mainGlobals mg) (c : Says w K) : HasC P w K mg base 1 "Sign" (Kd.sign.C K) ["self", "first", "second"] (spGInit (Kd.sign.C K)) := by
  obtain ⟨fd, F⟩ := c.t.d.def_ 30 (d := d_Sign_init) rfl
  exact ok_gmake (k := .sign) F (f_kt_sign c) (He.mkr_ok (c.t.d.fact 40 (f := .mkr "Sign") rfl)) (He.glo_ok X G (c.t.d.fact 38 (f := .glo "Sign") rfl))
theorem f_kt_follow (c : Says w K) : KTxt K .follow := ⟨He.cls_ok (c.t.d.fact 45 (f := .cls "Follow") rfl), He.noat_ok (c.t.d.fact 47 (f := .noat "Follow" "first") rfl), He.noat_ok (c.t.d.fact 48 (f := .noat "Follow" "second") rfl)⟩
theorem f_mk_follow {base : Heap} (X : K.In h) (G : h.Ns mainGlobals mg) (c : Says w K) : HasC P w K mg base 1 "Follow" (Kd.follow.C K) ["self", "first", "second"] (spGInit (Kd.follow.C K)) := by
  obtain ⟨fd, F⟩ := c.t.d.def_ 32 (d := d_Follow_init) rfl
  exact ok_gmake (k := .follow) F (f_kt_follow c) (He.mkr_ok (c.t.d.fact 46 (f := .mkr "Follow") rfl)) (He.glo_ok X G (c.t.d.fact 44 (f := .glo "Follow") rfl))
theorem f_kt_meet (c : Says w K) : KTxt K .meet := ⟨He.cls_ok (c.t.d.fact 51 (f := .cls "Meet") rfl), He.noat_ok (c.t.d.fact 53 (f := .noat "Meet" "first") rfl), He.noat_ok (c.t.d.fact 54 (f := .noat "Meet" "second") rfl)⟩
theorem f_mk_meet {base : Heap} (X : K.In h) (G : h.Ns mainGlobals mg) (c : Says w K) : HasC P w K mg base 1 "Meet" (Kd.meet.C K) ["self", "first", "second"] (spGInit (Kd.meet.C K)) := by
  obtain ⟨fd, F⟩ := c.t.d.def_ 34 (d := d_Meet_init) rfl
  exact ok_gmake (k := .meet) F (f_kt_meet c) (He.mkr_ok (c.t.d.fact 52 (f := .mkr "Meet") rfl)) (He.glo_ok X G (c.t.d.fact 50 (f := .glo "Meet") rfl))
theorem f_kt_swap (c : Says w K) : KTxt K .swap := ⟨He.cls_ok (c.t.d.fact 57 (f := .cls "Swap") rfl), He.noat_ok (c.t.d.fact 59 (f := .noat "Swap" "first") rfl), He.noat_ok (c.t.d.fact 60 (f := .noat "Swap" "second") rfl)⟩
theorem f_mk_swap {base : Heap} (X : K.In h) (G : h.Ns mainGlobals mg) (c : Says w K) : HasC P w K mg base 1 "Swap" (Kd.swap.C K) ["self", "first", "second"] (spGInit (Kd.swap.C K)) := by
  obtain ⟨fd, F⟩ := c.t.d.def_ 36 (d := d_Swap_init) rfl
  exact ok_gmake (k := .swap) F (f_kt_swap c) (He.mkr_ok (c.t.d.fact 58 (f := .mkr "Swap") rfl)) (He.glo_ok X G (c.t.d.fact 56 (f := .glo "Swap") rfl))
theorem f_mk_desk {base : Heap} (X : K.In h) (G : h.Ns mainGlobals mg) (c : Says w K) : HasC P w K mg base 1 "Desk" (deskC K) ["self"] (spDInit (deskC K)) := by
  obtain ⟨fd, F⟩ := c.t.d.def_ 39 (d := d_Desk_init) rfl
  exact ok_dmake F (He.cls_ok (c.t.d.fact 64 (f := .cls "Desk") rfl)) (He.noat_ok (c.t.d.fact 66 (f := .noat "Desk" "kept") rfl)) (He.mkr_ok (c.t.d.fact 65 (f := .mkr "Desk") rfl)) (He.glo_ok X G (c.t.d.fact 63 (f := .glo "Desk") rfl))
theorem facts (X : K.In h) (G : h.Ns mainGlobals mg) (hfa : mg ("law" : Str) = some (.ref f)) (c : Says w K) :
    ∃ fd : FuncData, (∀ (s : Shared) (v : Value), BindsTo s fd ⟨[v], []⟩ [("_law_script", v)]) ∧ ∀ base : Heap, K.In base → base.Ns mainGlobals mg → FnOk P w K mg base CX0 9 f fd ["_law_script"] (spLaw K) := by
  obtain ⟨fd, F⟩ := c.t.d.def_ 25 (d := d_law) rfl
  have e := hfa.symm.trans (He.glo_ok X G (c.t.d.fact 25 (f := .glo "law") rfl))
  cases e
  have b := FunD.bindsA (ps := ["_law_script"]) F fun _ _ _ _ _ _ us hl => match us, hl with | [_], _ => rfl
  refine ⟨fd, fun s v => b s [v] rfl, fun base _ _ => ?_⟩
  have T := f_free X G c
  have B : Has P w K mg base 1 "bit_of" ["number", "coin"] spBit := ok_bit (f_bit_of X G c)
  have DI : Disp P w K mg base 3 := fun kd => by
    cases kd
    · exact HasM.le (ok_mix (f_Mix_on_row c) (f_kt_mix c) B) (by decide)
    · exact HasM.le (ok_flip (f_Flip_on_row c) (f_kt_flip c) B) (by decide)
    · exact HasM.le (ok_sign (f_Sign_on_row c) (f_kt_sign c) B) (by decide)
    · exact HasM.le (ok_follow (f_Follow_on_row c) (f_kt_follow c) B) (by decide)
    · exact HasM.le (ok_meet (f_Meet_on_row c) (f_kt_meet c) B) (by decide)
    · exact ok_swap (f_Swap_on_row c) (f_kt_swap c) B (ok_chg (f_Swap_changed c) (f_kt_swap c) B)
  have IG := ok_isgate (P := P) (w := w) (base := base) (f_is_gate X G c) T (f_PARTS_gates X G c)
  have GO := ok_gateof (P := P) (w := w) (base := base) (f_gate_of X G c) IG (f_mk_mix X G c) (f_mk_flip X G c) (f_mk_sign X G c) (f_mk_follow X G c) (f_mk_meet X G c) (f_mk_swap X G c)
  have GF := ok_gatesfrom (P := P) (w := w) (base := base) (f_gates_from X G c) T GO
  have FI := ok_firsts (P := P) (w := w) (base := base) (f_first_images X G c) T
  have IM := ok_images (P := P) (w := w) (base := base) (f_images X G c) FI GF DI
  have BE := ok_beside (P := P) (w := w) (base := base) (f_start_beside X G c) T B
  have PA := ok_parting (P := P) (w := w) (base := base) (f_parting X G c) T FI GF DI IM BE
  have RF := ok_figure (P := P) (w := w) (base := base) (K := K) (f_read_figure X G c) T (He.str_ok X G (c.t.d.fact 80 (f := .str "FIGURES" "0123456789") rfl))
  have R1 := ok_readgate (P := P) (w := w) (base := base) (f_read_gate X G c) T (f_PARTS_texts X G c) RF
  have R2 := ok_readgates (P := P) (w := w) (base := base) (f_read_gates X G c) R1
  have KN := ok_known (P := P) (w := w) (base := base) (f_is_known X G c)
  have RW := ok_within (P := P) (w := w) (base := base) (f_read_within X G c) RF
  have TO := ok_told (P := P) (w := w) (base := base) (f_told_parting X G c) RW R2 PA
  have SY := ok_say (P := P) (w := w) (base := base) (f_Desk_say c) KN TO
  have LB := ok_lbit (P := P) (w := w) (base := base) (f__law_bit X G c)
  have LG := ok_lgate (P := P) (w := w) (base := base) (f__law_gate X G c)
  have MD := ok_made (P := P) (w := w) (base := base) (f__law_made X G c) T LB
  have GC := ok_gcd (P := P) (w := w) (base := base) (f__law_gcd X G c) T
  have LE := ok_least (P := P) (w := w) (base := base) (f__law_least X G c) GC
  have LO := ok_other (P := P) (w := w) (base := base) (f__law_otherwise X G c) LG
  have LR := ok_rewr (P := P) (w := w) (base := base) (f__law_rewritten X G c) T LG LO
  have GX := ok_gtext (P := P) (w := w) (base := base) (f__law_gates_text X G c) T
  have CE := ok_cell (P := P) (w := w) (base := base) (f__law_cell X G c) T
  have EN := ok_end (P := P) (w := w) (base := base) (f__law_end X G c) T MD LE
  have AL := ok_alike (P := P) (w := w) (base := base) (f__law_alike X G c) T EN
  exact ok_law F T CE LG LR EN AL GX (f_mk_desk X G c) SY
end
end TC
open PySem PySem.W PySem.Calls PyProof.Rows
theorem PySem.Challenge.cw_turncoins_k82_whole_starts_that_part_holds : PySem.Challenge.rw_turncoins_k82_whole_starts_that_part.Holds := by
  w_on; o_law
  refine HandSHeadRun.head_any (r := OpenLaw.row PySem.Challenge.rw_turncoins_k82_whole_starts_that_part) (q := view (OpenLaw.row PySem.Challenge.rw_turncoins_k82_whole_starts_that_part).prog [121]) (H := TC.hk) (ob := TC.ob) (M := 20000) (loose := TC.loose) (d := HandSHeadRun.topDef (OpenLaw.row PySem.Challenge.rw_turncoins_k82_whole_starts_that_part).prog 121) (kwd := []) TC.ob_eq
    (by kernel_rfl) (fun s => by kernel_rfl) TC.run (by kernel_rfl) (by kernel_rfl) (by kernel_rfl) (by rfl) (by first | assumption | decide +kernel) (by decide +kernel) ⟨rfl, rfl, rfl, rfl, rfl, by decide +kernel⟩ ?hw ?hc
  case hw => w_witness2
  case hc =>
    refine L2.walk_ofE (l := PySem.Challenge.rw_turncoins_k82_whole_starts_that_part) (n := 63) (k := 9) (x := "_law_script") (CX := L2.CX0) rfl (by decide) (by kernel_rfl) ⟨rfl, by decide, by decide⟩ ?F (fun _ _ _ _ z => z)
    intro w mg fa h Y G hmg0
    obtain ⟨K, KX, c⟩ := Y
    have hmg : mg ("law" : PySem.Str) = some (.ref fa) := by
      have e : (HandSHeadRun.topDef (OpenLaw.row PySem.Challenge.rw_turncoins_k82_whole_starts_that_part).prog 121).name = ("law" : PySem.Str) := by kernel_rfl
      rw [← e]
      exact hmg0
    obtain ⟨fd, hb, hF⟩ := TC.facts (P := (PySem.Challenge.rw_turncoins_k82_whole_starts_that_part).prog) (w := w) KX G hmg c
    exact ⟨K, fd, TC.spLaw K, KX, hb, fun H a ns hl _ hS => ⟨a, ns, rfl, hS, fun _ => rfl⟩, hF⟩
