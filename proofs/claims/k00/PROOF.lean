import PyProof.Rows.All
import Wide.All
import OpenK.AllK
import Wide.FinOn
import HandS.ForMost
import HandS.Flow
import HandS.Wide
import HandS.IsInst
import HandS.StrMore
import HandS.RevRange
import PySem.Challenge.RW_whittle_k00_plain_of_every_dress
import HandS.Codes
import HandS.Rev
import HandS.Walk
set_option Elab.async false
set_option linter.all false
set_option maxRecDepth 100000
set_option maxHeartbeats 4000000
/-! Whittle, the base: further rules over the hand layer, the frame, what a def is in the text. -/
namespace Wh
open PySem L2 PySem.Spec PyProof.Rows

section
variable {X : Cx}
/-- a text times a number -/
theorem op_mul_str : OpR X (binaryOp .Mult) (fun x y H Q => ∃ i n, x = .str i ∧ y = .int n ∧ n < 2 ^ 24 ∧ -(2 ^ 24) < n ∧ (0 ≤ n → (i.length : Int) * n ≤ 2 ^ 24) ∧ Q (.str (Txt.mul i n)) H) := by
  intro pins s σ H x y v u Q I rx ry h
  obtain ⟨i, n, rfl, rfl, hz, hz2, hl, q⟩ := h
  obtain ⟨t, rfl⟩ := rx
  obtain ⟨t', rfl⟩ := ry
  refine SB.mul ⟨?_, ?_, ?_⟩ fun t' k => ⟨.str (Txt.mul i n), H, I.tok _, ⟨_, rfl⟩, q⟩
  · rw [decide_eq_false (by omega), decide_eq_false (by omega)]; rfl
  · intro h1 h2 h3
    have hn : 0 < n := by omega
    have := hl (by omega)
    have e : (i.length : Int) ≤ (2 ^ 63 - 1) / n := by
      rw [Int.le_ediv_iff_mul_le hn]
      omega
    omega
  · intro h1 h2
    have h3 := hl (by omega)
    unfold Builtin.Str.tooLong
    have e : ((i.length * n.toNat : Nat) : Int) = (i.length : Int) * n := by
      rw [Int.natCast_mul, Int.toNat_of_nonneg (by omega)]
    have e2 : i.length * n.toNat ≤ 2 ^ 24 := by omega
    simp [sizeLine]
    omega
/-- a power of a wide base -/
theorem op_powW : OpR X (binaryOp .Pow) (rI (fun i j => 0 ≤ j ∧ (Builtin.Int.intBits i : Int) * j ≤ 2 ^ 27) fun i j => .int (i ^ j.toNat)) :=
  opI fun _ _ _ _ _ _ _ hc q => pow_int hc.1 hc.2 q
end

/-- all that was tracked, but at F, is as it was -/
def Kp (F : List Addr) (H H' : Hp) : Prop := ∀ b o, b ∉ F → H b = some o → H' b = some o
theorem Kp.refl {F : List Addr} (H : Hp) : Kp F H H := fun _ _ _ h => h
theorem Kp.trans {F : List Addr} {H H1 H2 : Hp} (a : Kp F H H1) (b : Kp F H1 H2) : Kp F H H2 := fun c o h e => b c o h (a c o h e)
theorem Kp.of_same {F : List Addr} {H H' : Hp} (s : Same H H') : Kp F H H' := fun b o _ h => s b o h
theorem Kp.mono {F G : List Addr} {H H' : Hp} (a : Kp F H H') (h : ∀ b ∈ F, b ∈ G) : Kp G H H' := fun b o n e => a b o (fun z => n (h b z)) e
theorem Kp.new {F : List Addr} {H H' : Hp} {p : Addr} {o : HO} (a : Kp F H H') (h : H p = none) : Kp F H (upd H' p o) := fun b u n e => by
  rw [upd_ne (ne_of_none e h)]
  exact a b u n e
theorem Kp.new' {F : List Addr} {H H' : Hp} {p : Addr} {o : HO} (a : Kp F H H') (h : H' p = none) : Kp F H (upd H' p o) := fun b u n e => by
  rw [upd_ne (ne_of_none (a b u n e) h)]
  exact a b u n e
theorem Kp.at {F : List Addr} {H H' : Hp} {p : Addr} {o : HO} (a : Kp F H H') (h : p ∈ F) : Kp F H (upd H' p o) := fun b u n e => by
  rw [upd_ne (fun z => n (by rw [z]; exact h))]
  exact a b u n e
theorem Kp.same {H H' : Hp} (a : Kp [] H H') : Same H H' := fun b o e => a b o (by simp) e
theorem Kp.none {F : List Addr} {H H' : Hp} (a : Kp F H H') {p : Addr} (h : p ∉ F) (e : H' p = Option.none) : H p = Option.none := by
  cases q : H p with
  | none => rfl
  | some o => rw [a p o h q] at e; cases e

/-- a def of the text as the top has left it -/
structure DefAt (K : PySem.W.Frag) (mg : Str → Option Value) (name : Str) (st : Stmt) (ps : List Str) (f : Addr) (fd : FuncData) : Prop where
  mg : mg name = some (.ref f)
  fn : Fun K name name st f fd
  b : Binds K fd ps []
structure MethAt (K : PySem.W.Frag) (C : Addr) (name qual : Str) (st : Stmt) (ps : List Str) (f : Addr) (fd : FuncData) : Prop where
  me : Meth K C name f
  fn : Fun K name qual st f fd
  b : Binds K fd ps []
end Wh
set_option Elab.async false
set_option linter.all false
set_option maxRecDepth 100000
set_option maxHeartbeats 4000000
/-! The text by places. -/
namespace Wh
open PySem L2 PySem.Spec PyProof.Rows
def top (i : Nat) : Stmt := PySem.Challenge.pw_whittle_k00_plain_of_every_dress.main.body.getD i (.Pass ⟨0, 0, 0, 0⟩)
abbrev s_wall : Stmt := top 0
abbrev s_Heap__init : Stmt := inClass (top 8) 0
abbrev s_Heap_copy : Stmt := inClass (top 8) 1
abbrev s_Heap_new : Stmt := inClass (top 8) 2
abbrev s_Heap_number : Stmt := inClass (top 8) 3
abbrev s_Heap_name : Stmt := inClass (top 8) 4
abbrev s_Heap_pair : Stmt := inClass (top 8) 5
abbrev s_Heap_shape : Stmt := inClass (top 8) 6
abbrev s_Heap_face : Stmt := inClass (top 8) 7
abbrev s_Heap_first : Stmt := inClass (top 8) 8
abbrev s_Heap_second : Stmt := inClass (top 8) 9
abbrev s_Heap_heft : Stmt := inClass (top 8) 10
abbrev s_Heap_listed : Stmt := inClass (top 8) 11
abbrev s_Heap_spread : Stmt := inClass (top 8) 12
abbrev s_BadText__init : Stmt := inClass (top 11) 0
abbrev s_consists_of : Stmt := top 20
abbrev s_atom : Stmt := top 21
abbrev s_settle : Stmt := top 22
abbrev s_take : Stmt := top 23
abbrev s_end_of_part : Stmt := top 24
abbrev s_read : Stmt := top 25
abbrev s_quoted : Stmt := top 26
abbrev s_write : Stmt := top 27
abbrev s_put_members : Stmt := top 28
abbrev s_plain : Stmt := top 30
abbrev s_law_box : Stmt := top 32
abbrev s_law_take : Stmt := top 33
abbrev s_law_word : Stmt := top 34
abbrev s_law_gap : Stmt := top 35
abbrev s_law_listed : Stmt := top 36
abbrev s_law_dressed : Stmt := top 37
abbrev s_law_group : Stmt := top 38
abbrev s_law_value : Stmt := top 39
abbrev s_law_deep : Stmt := top 40
abbrev s_law : Stmt := top 41
/-- what the top has left: where each def, class and constant stands -/
structure Txt (K : PySem.W.Frag) (mg : Str → Option Value) where
  C_Heap : Addr
  a_wall : Addr
  d_wall : FuncData
  wall : DefAt K mg "_wall" s_wall ["k"] a_wall d_wall
  a_Heap__init : Addr
  d_Heap__init : FuncData
  Heap__init : MethAt K C_Heap "__init__" "Heap.__init__" s_Heap__init ["self"] a_Heap__init d_Heap__init
  a_Heap_copy : Addr
  d_Heap_copy : FuncData
  Heap_copy : MethAt K C_Heap "copy" "Heap.copy" s_Heap_copy ["self"] a_Heap_copy d_Heap_copy
  a_Heap_new : Addr
  d_Heap_new : FuncData
  Heap_new : MethAt K C_Heap "_new" "Heap._new" s_Heap_new ["self", "shape", "face", "first", "second", "heft"] a_Heap_new d_Heap_new
  a_Heap_number : Addr
  d_Heap_number : FuncData
  Heap_number : MethAt K C_Heap "number" "Heap.number" s_Heap_number ["self", "n"] a_Heap_number d_Heap_number
  a_Heap_name : Addr
  d_Heap_name : FuncData
  Heap_name : MethAt K C_Heap "name" "Heap.name" s_Heap_name ["self", "text"] a_Heap_name d_Heap_name
  a_Heap_pair : Addr
  d_Heap_pair : FuncData
  Heap_pair : MethAt K C_Heap "pair" "Heap.pair" s_Heap_pair ["self", "first", "second"] a_Heap_pair d_Heap_pair
  a_Heap_shape : Addr
  d_Heap_shape : FuncData
  Heap_shape : MethAt K C_Heap "shape" "Heap.shape" s_Heap_shape ["self", "value"] a_Heap_shape d_Heap_shape
  a_Heap_face : Addr
  d_Heap_face : FuncData
  Heap_face : MethAt K C_Heap "face" "Heap.face" s_Heap_face ["self", "value"] a_Heap_face d_Heap_face
  a_Heap_first : Addr
  d_Heap_first : FuncData
  Heap_first : MethAt K C_Heap "first" "Heap.first" s_Heap_first ["self", "value"] a_Heap_first d_Heap_first
  a_Heap_second : Addr
  d_Heap_second : FuncData
  Heap_second : MethAt K C_Heap "second" "Heap.second" s_Heap_second ["self", "value"] a_Heap_second d_Heap_second
  a_Heap_heft : Addr
  d_Heap_heft : FuncData
  Heap_heft : MethAt K C_Heap "heft" "Heap.heft" s_Heap_heft ["self", "value"] a_Heap_heft d_Heap_heft
  a_Heap_listed : Addr
  d_Heap_listed : FuncData
  Heap_listed : MethAt K C_Heap "listed" "Heap.listed" s_Heap_listed ["self", "ids"] a_Heap_listed d_Heap_listed
  a_Heap_spread : Addr
  d_Heap_spread : FuncData
  Heap_spread : MethAt K C_Heap "spread" "Heap.spread" s_Heap_spread ["self", "value"] a_Heap_spread d_Heap_spread
  a_consists_of : Addr
  d_consists_of : FuncData
  consists_of : DefAt K mg "_consists_of" s_consists_of ["word", "signs"] a_consists_of d_consists_of
  a_atom : Addr
  d_atom : FuncData
  atom : DefAt K mg "_atom" s_atom ["heap", "word"] a_atom d_atom
  a_settle : Addr
  d_settle : FuncData
  settle : DefAt K mg "_settle" s_settle ["heap", "waiting", "value"] a_settle d_settle
  a_take : Addr
  d_take : FuncData
  take : DefAt K mg "_take" s_take ["heap", "waiting", "part", "at"] a_take d_take
  a_end_of_part : Addr
  d_end_of_part : FuncData
  end_of_part : DefAt K mg "_end_of_part" s_end_of_part ["text", "at"] a_end_of_part d_end_of_part
  a_read : Addr
  d_read : FuncData
  read : DefAt K mg "read" s_read ["heap", "text"] a_read d_read
  a_quoted : Addr
  d_quoted : FuncData
  quoted : DefAt K mg "_quoted" s_quoted ["heap", "value"] a_quoted d_quoted
  a_write : Addr
  d_write : FuncData
  write : DefAt K mg "write" s_write ["heap", "value"] a_write d_write
  a_put_members : Addr
  d_put_members : FuncData
  put_members : DefAt K mg "_put_members" s_put_members ["ids", "todo"] a_put_members d_put_members
  a_plain : Addr
  d_plain : FuncData
  plain : DefAt K mg "plain" s_plain ["text"] a_plain d_plain
  a_law_box : Addr
  d_law_box : FuncData
  law_box : DefAt K mg "_law_box" s_law_box ["script", "place"] a_law_box d_law_box
  a_law_take : Addr
  d_law_take : FuncData
  law_take : DefAt K mg "_law_take" s_law_take ["box", "size"] a_law_take d_law_take
  a_law_word : Addr
  d_law_word : FuncData
  law_word : DefAt K mg "_law_word" s_law_word ["box"] a_law_word d_law_word
  a_law_gap : Addr
  d_law_gap : FuncData
  law_gap : DefAt K mg "_law_gap" s_law_gap ["dress", "before", "after"] a_law_gap d_law_gap
  a_law_listed : Addr
  d_law_listed : FuncData
  law_listed : DefAt K mg "_law_listed" s_law_listed ["told"] a_law_listed d_law_listed
  a_law_dressed : Addr
  d_law_dressed : FuncData
  law_dressed : DefAt K mg "_law_dressed" s_law_dressed ["dress", "told", "dressed"] a_law_dressed d_law_dressed
  a_law_group : Addr
  d_law_group : FuncData
  law_group : DefAt K mg "_law_group" s_law_group ["box", "dress", "told", "dressed"] a_law_group d_law_group
  a_law_value : Addr
  d_law_value : FuncData
  law_value : DefAt K mg "_law_value" s_law_value ["box", "dress"] a_law_value d_law_value
  a_law_deep : Addr
  d_law_deep : FuncData
  law_deep : DefAt K mg "_law_deep" s_law_deep ["box", "told", "dressed"] a_law_deep d_law_deep
  a_law : Addr
  d_law : FuncData
  law : DefAt K mg "law" s_law ["script"] a_law d_law
  cl_Heap : Cls K C_Heap
  mk_Heap : Mk K C_Heap a_Heap__init
  m_Heap : mg "Heap" = some (.ref C_Heap)
  nf__shapes : NoAttr K C_Heap "_shapes"
  nf__faces : NoAttr K C_Heap "_faces"
  nf__firsts : NoAttr K C_Heap "_firsts"
  nf__seconds : NoAttr K C_Heap "_seconds"
  nf__hefts : NoAttr K C_Heap "_hefts"
  nf__numbers : NoAttr K C_Heap "_numbers"
  nf__names : NoAttr K C_Heap "_names"
  nf__pairs : NoAttr K C_Heap "_pairs"
  t_NIL : Tok
  c_NIL : mg "NIL" = some (.int 0 t_NIL)
  t_EMPTY : Tok
  c_EMPTY : mg "EMPTY" = some (.int 0 t_EMPTY)
  t_NUMBER : Tok
  c_NUMBER : mg "NUMBER" = some (.int 1 t_NUMBER)
  t_NAME : Tok
  c_NAME : mg "NAME" = some (.int 2 t_NAME)
  t_PAIR : Tok
  c_PAIR : mg "PAIR" = some (.int 3 t_PAIR)
  t_HEAVY : Tok
  c_HEAVY : mg "HEAVY" = some (.int 100001 t_HEAVY)
  t_BLANKS : Tok
  c_BLANKS : mg "BLANKS" = some (.str " \n" t_BLANKS)
  t_DIGITS : Tok
  c_DIGITS : mg "DIGITS" = some (.str "0123456789" t_DIGITS)
  t_LOWER : Tok
  c_LOWER : mg "LOWER" = some (.str "abcdefghijklmnopqrstuvwxyz" t_LOWER)
  t_NAME_SIGNS : Tok
  c_NAME_SIGNS : mg "NAME_SIGNS" = some (.str "abcdefghijklmnopqrstuvwxyz0123456789" t_NAME_SIGNS)
  t_WORD_SIGNS : Tok
  c_WORD_SIGNS : mg "WORD_SIGNS" = some (.str "abcdefghijklmnopqrstuvwxyzABCDEFGHIJKLMNOPQRSTUVWXYZ0123456789" t_WORD_SIGNS)
  t_LONGEST_NUMBER : Tok
  c_LONGEST_NUMBER : mg "LONGEST_NUMBER" = some (.int 4 t_LONGEST_NUMBER)
  t_LONGEST_NAME : Tok
  c_LONGEST_NAME : mg "LONGEST_NAME" = some (.int 12 t_LONGEST_NAME)
  b_int : mg "int" = none
  b_isinstance : mg "isinstance" = none
  b_len : mg "len" = none
  b_list : mg "list" = none
  b_max : mg "max" = none
  b_min : mg "min" = none
  b_range : mg "range" = none
  b_reversed : mg "reversed" = none
  b_str : mg "str" = none
  b_sum : mg "sum" = none
theorem sc_wall : FnScope ["k"] ["k"] (defScope s_wall) := ⟨rfl, rfl, rfl, by decide +kernel, rfl, by decide +kernel, by decide +kernel⟩
theorem sc_Heap__init : FnScope ["self"] ["self"] (defScope s_Heap__init) := ⟨rfl, rfl, rfl, by decide +kernel, rfl, by decide +kernel, by decide +kernel⟩
theorem sc_Heap_copy : FnScope ["self"] ["self"] (defScope s_Heap_copy) := ⟨rfl, rfl, rfl, by decide +kernel, rfl, by decide +kernel, by decide +kernel⟩
theorem sc_Heap_new : FnScope ["self", "shape", "face", "first", "second", "heft", "value"] ["self", "shape", "face", "first", "second", "heft"] (defScope s_Heap_new) := ⟨rfl, rfl, rfl, by decide +kernel, rfl, by decide +kernel, by decide +kernel⟩
theorem sc_Heap_number : FnScope ["self", "n", "value"] ["self", "n"] (defScope s_Heap_number) := ⟨rfl, rfl, rfl, by decide +kernel, rfl, by decide +kernel, by decide +kernel⟩
theorem sc_Heap_name : FnScope ["self", "text", "value"] ["self", "text"] (defScope s_Heap_name) := ⟨rfl, rfl, rfl, by decide +kernel, rfl, by decide +kernel, by decide +kernel⟩
theorem sc_Heap_pair : FnScope ["self", "first", "second", "key", "value", "heft"] ["self", "first", "second"] (defScope s_Heap_pair) := ⟨rfl, rfl, rfl, by decide +kernel, rfl, by decide +kernel, by decide +kernel⟩
theorem sc_Heap_shape : FnScope ["self", "value"] ["self", "value"] (defScope s_Heap_shape) := ⟨rfl, rfl, rfl, by decide +kernel, rfl, by decide +kernel, by decide +kernel⟩
theorem sc_Heap_face : FnScope ["self", "value"] ["self", "value"] (defScope s_Heap_face) := ⟨rfl, rfl, rfl, by decide +kernel, rfl, by decide +kernel, by decide +kernel⟩
theorem sc_Heap_first : FnScope ["self", "value"] ["self", "value"] (defScope s_Heap_first) := ⟨rfl, rfl, rfl, by decide +kernel, rfl, by decide +kernel, by decide +kernel⟩
theorem sc_Heap_second : FnScope ["self", "value"] ["self", "value"] (defScope s_Heap_second) := ⟨rfl, rfl, rfl, by decide +kernel, rfl, by decide +kernel, by decide +kernel⟩
theorem sc_Heap_heft : FnScope ["self", "value"] ["self", "value"] (defScope s_Heap_heft) := ⟨rfl, rfl, rfl, by decide +kernel, rfl, by decide +kernel, by decide +kernel⟩
theorem sc_Heap_listed : FnScope ["self", "ids", "value", "member"] ["self", "ids"] (defScope s_Heap_listed) := ⟨rfl, rfl, rfl, by decide +kernel, rfl, by decide +kernel, by decide +kernel⟩
theorem sc_Heap_spread : FnScope ["self", "value", "ids"] ["self", "value"] (defScope s_Heap_spread) := ⟨rfl, rfl, rfl, by decide +kernel, rfl, by decide +kernel, by decide +kernel⟩
theorem sc_consists_of : FnScope ["word", "signs", "sign"] ["word", "signs"] (defScope s_consists_of) := ⟨rfl, rfl, rfl, by decide +kernel, rfl, by decide +kernel, by decide +kernel⟩
theorem sc_atom : FnScope ["heap", "word"] ["heap", "word"] (defScope s_atom) := ⟨rfl, rfl, rfl, by decide +kernel, rfl, by decide +kernel, by decide +kernel⟩
theorem sc_settle : FnScope ["heap", "waiting", "value"] ["heap", "waiting", "value"] (defScope s_settle) := ⟨rfl, rfl, rfl, by decide +kernel, rfl, by decide +kernel, by decide +kernel⟩
theorem sc_take : FnScope ["heap", "waiting", "part", "at", "members", "value"] ["heap", "waiting", "part", "at"] (defScope s_take) := ⟨rfl, rfl, rfl, by decide +kernel, rfl, by decide +kernel, by decide +kernel⟩
theorem sc_end_of_part : FnScope ["text", "at", "end"] ["text", "at"] (defScope s_end_of_part) := ⟨rfl, rfl, rfl, by decide +kernel, rfl, by decide +kernel, by decide +kernel⟩
theorem sc_read : FnScope ["heap", "text", "waiting", "value", "at", "end"] ["heap", "text"] (defScope s_read) := ⟨rfl, rfl, rfl, by decide +kernel, rfl, by decide +kernel, by decide +kernel⟩
theorem sc_quoted : FnScope ["heap", "value", "others"] ["heap", "value"] (defScope s_quoted) := ⟨rfl, rfl, rfl, by decide +kernel, rfl, by decide +kernel, by decide +kernel⟩
theorem sc_write : FnScope ["heap", "value", "written", "todo", "part", "inner"] ["heap", "value"] (defScope s_write) := ⟨rfl, rfl, rfl, by decide +kernel, rfl, by decide +kernel, by decide +kernel⟩
theorem sc_put_members : FnScope ["ids", "todo", "k"] ["ids", "todo"] (defScope s_put_members) := ⟨rfl, rfl, rfl, by decide +kernel, rfl, by decide +kernel, by decide +kernel⟩
theorem sc_plain : FnScope ["text", "heap"] ["text"] (defScope s_plain) := ⟨rfl, rfl, rfl, by decide +kernel, rfl, by decide +kernel, by decide +kernel⟩
theorem sc_law_box : FnScope ["script", "place", "cell", "great", "seed"] ["script", "place"] (defScope s_law_box) := ⟨rfl, rfl, rfl, by decide +kernel, rfl, by decide +kernel, by decide +kernel⟩
theorem sc_law_take : FnScope ["box", "size", "drawn", "mixed"] ["box", "size"] (defScope s_law_take) := ⟨rfl, rfl, rfl, by decide +kernel, rfl, by decide +kernel, by decide +kernel⟩
theorem sc_law_word : FnScope ["box", "way", "name", "k"] ["box"] (defScope s_law_word) := ⟨rfl, rfl, rfl, by decide +kernel, rfl, by decide +kernel, by decide +kernel⟩
theorem sc_law_gap : FnScope ["dress", "before", "after", "gap"] ["dress", "before", "after"] (defScope s_law_gap) := ⟨rfl, rfl, rfl, by decide +kernel, rfl, by decide +kernel, by decide +kernel⟩
theorem sc_law_listed : FnScope ["told"] ["told"] (defScope s_law_listed) := ⟨rfl, rfl, rfl, by decide +kernel, rfl, by decide +kernel, by decide +kernel⟩
theorem sc_law_dressed : FnScope ["dress", "told", "dressed", "text", "one"] ["dress", "told", "dressed"] (defScope s_law_dressed) := ⟨rfl, rfl, rfl, by decide +kernel, rfl, by decide +kernel, by decide +kernel⟩
theorem sc_law_group : FnScope ["box", "dress", "told", "dressed", "start", "way", "many", "inner", "outer", "one", "other", "left"] ["box", "dress", "told", "dressed"] (defScope s_law_group) := ⟨rfl, rfl, rfl, by decide +kernel, rfl, by decide +kernel, by decide +kernel⟩
theorem sc_law_value : FnScope ["box", "dress", "words", "turns", "k", "told", "dressed", "pair"] ["box", "dress"] (defScope s_law_value) := ⟨rfl, rfl, rfl, by decide +kernel, rfl, by decide +kernel, by decide +kernel⟩
theorem sc_law_deep : FnScope ["box", "told", "dressed", "size", "way", "many", "room", "first", "last", "before", "after"] ["box", "told", "dressed"] (defScope s_law_deep) := ⟨rfl, rfl, rfl, by decide +kernel, rfl, by decide +kernel, by decide +kernel⟩
theorem sc_law : FnScope ["script", "dress", "pair", "told", "dressed", "first"] ["script"] (defScope s_law) := ⟨rfl, rfl, rfl, by decide +kernel, rfl, by decide +kernel, by decide +kernel⟩
end Wh
set_option Elab.async false
set_option linter.all false
set_option maxRecDepth 100000
set_option maxHeartbeats 4000000
/-! The mathematics of values and their texts: trees, the one form, parts of a text, the reading machine. -/
namespace Wh
open PySem L2
def isDig (c : Nat) : Bool := decide (48 ≤ c) && decide (c ≤ 57)
def isLow (c : Nat) : Bool := decide (97 ≤ c) && decide (c ≤ 122)
def isUp (c : Nat) : Bool := decide (65 ≤ c) && decide (c ≤ 90)
def isNs (c : Nat) : Bool := isLow c || isDig c
def isW (c : Nat) : Bool := isLow c || isUp c || isDig c
def isB (c : Nat) : Bool := c == 32 || c == 10
inductive Tr where
  | nil | num (n : Nat) | nam (l : List Nat) | cons (a b : Tr)
def quoL : List Nat := [113, 117, 111, 116, 101]
def mkl : List Tr → Tr
  | [] => .nil
  | t :: l => .cons t (mkl l)
def quo (t : Tr) : Tr := mkl [.nam quoL, t]
def nmOk (l : List Nat) : Bool := match l with
  | [] => false
  | c :: _ => isLow c && decide (l.length ≤ 12) && l.all isNs
def isQ : Tr → Bool
  | .nam l => l == quoL
  | _ => false
def isNil : Tr → Bool
  | .nil => true
  | _ => false
def isL : Tr → Bool
  | .nil => true
  | .cons _ _ => true
  | _ => false
/-- a value: numbers to 9999, names, lists -/
def Pr : Tr → Prop
  | .nil => True
  | .num n => n ≤ 9999
  | .nam l => nmOk l = true
  | .cons a b => Pr a ∧ Pr b ∧ isL b = true
/-- the text, the text as the rest of a list, the text of the only member -/
def tx : Tr → List Nat × List Nat × Option (List Nat)
  | .nil => ([40, 41], [41], none)
  | .num n => (TL.numL n, [], none)
  | .nam l => (l, [], none)
  | .cons a b =>
    let A := tx a
    let B := tx b
    ((match isQ a, B.2.2 with
      | true, some c => 39 :: c
      | _, _ => 40 :: (A.1 ++ B.2.1)), 32 :: (A.1 ++ B.2.1), if isNil b then some A.1 else none)
def can (t : Tr) : List Nat := (tx t).1
def tail (t : Tr) : List Nat := (tx t).2.1
theorem can_nil : can .nil = [40, 41] := rfl
theorem can_num (n : Nat) : can (.num n) = TL.numL n := rfl
theorem can_nam (l : List Nat) : can (.nam l) = l := rfl
theorem tail_nil : tail .nil = [41] := rfl
theorem tail_cons (a b : Tr) : tail (.cons a b) = 32 :: (can a ++ tail b) := rfl
theorem can_quo (t : Tr) : can (quo t) = 39 :: can t := rfl
/-- the quoted value of a list that is written with the sign -/
def quoted : Tr → Option Tr
  | .cons a (.cons c .nil) => if isQ a then some c else none
  | _ => none
theorem can_quoted {t c : Tr} (h : quoted t = some c) : can t = 39 :: can c := by
  cases t with
  | cons a b =>
    cases b with
    | cons c' d =>
      cases d with
      | nil =>
        change (if isQ a = true then some c' else none) = some c at h
        by_cases q : isQ a = true
        · rw [if_pos q] at h
          cases h
          show (tx (.cons a (.cons c .nil))).1 = _
          simp only [tx, q, isNil]
          rfl
        · rw [if_neg q] at h; cases h
      | _ => simp [quoted] at h
    | _ => simp [quoted] at h
  | _ => simp [quoted] at h
theorem can_plain {a b : Tr} (h : quoted (.cons a b) = none) : can (.cons a b) = 40 :: (can a ++ tail b) := by
  show (tx (.cons a b)).1 = _
  cases q : isQ a with
  | false => simp only [tx, q]; rfl
  | true =>
    cases b with
    | cons c d =>
      cases d with
      | nil => simp [quoted, q] at h
      | _ => simp only [tx, q, isNil]; rfl
    | _ => simp only [tx, q]; rfl
def spread : Tr → List Tr
  | .cons a b => a :: spread b
  | _ => []
theorem mkl_spread : ∀ {t : Tr}, isL t = true → Pr t → mkl (spread t) = t
  | .nil, _, _ => rfl
  | .num _, h, _ => by cases h
  | .nam _, h, _ => by cases h
  | .cons a b, _, p => by
    show Tr.cons a (mkl (spread b)) = _
    rw [mkl_spread p.2.2 p.2.1]
theorem spread_mkl : ∀ l : List Tr, spread (mkl l) = l
  | [] => rfl
  | t :: l => by show t :: spread (mkl l) = _; rw [spread_mkl l]
theorem mkl_L : ∀ l : List Tr, isL (mkl l) = true
  | [] => rfl
  | _ :: _ => rfl
theorem mkl_Pr : ∀ {l : List Tr}, (∀ t ∈ l, Pr t) → Pr (mkl l)
  | [], _ => trivial
  | t :: l, h => ⟨h t (by simp), mkl_Pr fun u hu => h u (by simp [hu]), mkl_L l⟩
theorem tail_mkl : ∀ l : List Tr, tail (mkl l) = l.flatMap (fun t => 32 :: can t) ++ [41]
  | [] => rfl
  | t :: l => by
    show 32 :: (can t ++ tail (mkl l)) = _
    rw [tail_mkl l]
    simp [List.flatMap_cons]
theorem joinL_cons (S p : List Nat) : ∀ l : List (List Nat), TL.joinL S (p :: l) = p ++ l.flatMap (fun q => S ++ q)
  | [] => by simp [TL.joinL]
  | q :: l => by
    show p ++ (S ++ TL.joinL S (q :: l)) = _
    rw [joinL_cons S q l]
    simp [List.flatMap_cons]
/-- the law's own text of a list -/
def listedL (l : List (List Nat)) : List Nat :=
  if l.length = 2 ∧ l[0]? = some quoL then 39 :: (l[1]?.getD []) else 40 :: (TL.joinL [32] l ++ [41])
theorem numL_head (n : Nat) : ∃ c r, TL.numL n = c :: r ∧ isDig c = true := by
  have h := TL.numL_ne n
  cases e : TL.numL n with
  | nil => exact absurd e h
  | cons c r =>
    refine ⟨c, r, rfl, ?_⟩
    have := TL.numL_digits n c (by rw [e]; simp)
    simp [isDig, this]
theorem can_isQ {t : Tr} (h : can t = quoL) : isQ t = true := by
  cases t with
  | nil => cases h
  | num n =>
    obtain ⟨c, r, e, d⟩ := numL_head n
    rw [can_num, e] at h
    cases h
    exact absurd d (by decide)
  | nam l => rw [can_nam] at h; rw [h]; rfl
  | cons a b =>
    cases q : quoted (.cons a b) with
    | none => rw [can_plain q] at h; cases h
    | some c => rw [can_quoted q] at h; cases h
theorem isQ_can {t : Tr} (h : isQ t = true) : t = .nam quoL := by
  cases t with
  | nam l => rw [show l = quoL from by simpa [isQ] using h]
  | _ => cases h
theorem listed_can (ts : List Tr) : listedL (ts.map can) = can (mkl ts) := by
  unfold listedL
  by_cases h : (ts.map can).length = 2 ∧ (ts.map can)[0]? = some quoL
  · rw [if_pos h]
    obtain ⟨h1, h2⟩ := h
    match ts, h1 with
    | [a, b], _ =>
      have e : can a = quoL := by simpa using h2
      rw [isQ_can (can_isQ e)]
      rfl
  · rw [if_neg h]
    cases ts with
    | nil => rfl
    | cons a l =>
      have q : quoted (mkl (a :: l)) = none := by
        cases l with
        | nil => rfl
        | cons b m =>
          cases m with
          | nil =>
            show (if isQ a then some b else none) = none
            rw [if_neg]
            intro z
            apply h
            rw [isQ_can z]
            exact ⟨rfl, rfl⟩
          | cons c m => rfl
      rw [show mkl (a :: l) = Tr.cons a (mkl l) from rfl, can_plain q, tail_mkl, List.map_cons, joinL_cons]
      simp [List.flatMap_map]
/-! ### the parts of a text -/
def flush (cur : List Nat) : List (List Nat) := match cur with
  | [] => []
  | c :: r => [c :: r]
def tkA : List Nat → List Nat → List (List Nat)
  | cur, [] => flush cur
  | cur, c :: r => if isW c then tkA (cur ++ [c]) r else flush cur ++ ((if isB c then [] else [[c]]) ++ tkA [] r)
def tk (l : List Nat) : List (List Nat) := tkA [] l
theorem tkA_head : ∀ (b cur : List Nat), (∀ c, b.head? = some c → isW c = false) → tkA cur b = flush cur ++ tkA [] b
  | [], cur, _ => by simp [tkA, flush]
  | c :: r, cur, h => by
    have hc : isW c = false := h c rfl
    simp [tkA, hc, flush]
theorem tkA_app1 : ∀ (a cur b : List Nat), (∀ c, b.head? = some c → isW c = false) → tkA cur (a ++ b) = tkA cur a ++ tkA [] b
  | [], cur, b, h => by rw [List.nil_append, tkA_head b cur h]; rfl
  | c :: r, cur, b, h => by
    by_cases hc : isW c = true
    · simp only [List.cons_append, tkA, hc, if_true]
      exact tkA_app1 r _ b h
    · simp only [List.cons_append, tkA, hc, if_false, List.append_assoc]
      rw [tkA_app1 r [] b h]
      simp
theorem tkA_N {c : Nat} (cur l : List Nat) (h : ¬ isW c = true) : tkA cur (c :: l) = flush cur ++ ((if isB c then [] else [[c]]) ++ tkA [] l) := by
  simp only [tkA, h, if_false]
  simp
theorem tkA_app2 : ∀ (a cur b : List Nat), a ≠ [] → (∀ c, a.getLast? = some c → isW c = false) → tkA cur (a ++ b) = tkA cur a ++ tkA [] b
  | [], _, _, h, _ => absurd rfl h
  | [c], cur, b, _, h => by
    have hc : isW c = false := h c rfl
    simp [tkA, hc, flush]
  | c :: d :: r, cur, b, _, h => by
    have h' : ∀ x, (d :: r).getLast? = some x → isW x = false := fun x hx => h x (by rw [List.getLast?_cons_cons]; exact hx)
    by_cases hc : isW c = true
    · simp only [List.cons_append, tkA, hc, if_true]
      exact tkA_app2 (d :: r) (cur ++ [c]) b (by simp) h'
    · rw [List.cons_append, tkA_N _ _ hc, tkA_N _ _ hc, tkA_app2 (d :: r) [] b (by simp) h']
      simp [List.append_assoc]
/-- two texts that may stand side by side -/
def sepOk (a b : List Nat) : Prop := (∀ c, b.head? = some c → isW c = false) ∨ (∀ c, a.getLast? = some c → isW c = false)
theorem tk_app {a b : List Nat} (h : sepOk a b) : tk (a ++ b) = tk a ++ tk b := by
  rcases h with h | h
  · exact tkA_app1 a [] b h
  · by_cases e : a = []
    · subst e; rfl
    · exact tkA_app2 a [] b e h
theorem tk_blanks : ∀ {g : List Nat}, g.all isB = true → tk g = []
  | [], _ => rfl
  | c :: r, h => by
    have h1 : isB c = true := by simp at h; exact h.1
    have h2 : r.all isB = true := by simp at h; simpa using h.2
    have w : isW c = false := by
      simp [isB] at h1
      rcases h1 with rfl | rfl <;> rfl
    have := tk_blanks h2
    unfold tk at this ⊢
    simp [tkA, w, h1, flush, this]
theorem blank_notW {c : Nat} (h : isB c = true) : isW c = false := by
  simp [isB] at h
  rcases h with rfl | rfl <;> rfl
/-- with a gap between them -/
theorem tk_gap {a g b : List Nat} (hg : g.all isB = true) (h : g = [] → sepOk a b) : tk (a ++ g ++ b) = tk a ++ tk b := by
  by_cases e : g = []
  · subst e
    rw [List.append_nil]
    exact tk_app (h rfl)
  · have hd : ∀ c, g.head? = some c → isW c = false := fun c hc => by
      cases g with
      | nil => cases hc
      | cons x r => cases hc; simp at hg; exact blank_notW hg.1
    have hl : ∀ c, (a ++ g).getLast? = some c → isW c = false := fun c hc => by
      have hc : g.getLast? = some c := by
        cases q : g.getLast? with
        | none => exact absurd (List.getLast?_eq_none_iff.mp q) e
        | some x => rw [List.getLast?_append, q] at hc; exact hc
      have := List.mem_of_getLast? hc
      rw [List.all_eq_true] at hg
      exact blank_notW (hg c this)
    rw [tk_app (.inr hl), tk_app (.inl hd), tk_blanks hg, List.append_nil]
theorem tkA_W : ∀ (p cur : List Nat), p.all isW = true → tkA cur p = flush (cur ++ p)
  | [], cur, _ => by simp [tkA]
  | c :: r, cur, h => by
    simp at h
    simp only [tkA, h.1, if_true]
    rw [tkA_W r _ (by simpa using h.2)]
    simp
theorem tk_word {p : List Nat} (h : p.all isW = true) (n : p ≠ []) : tk p = [p] := by
  unfold tk
  rw [tkA_W p [] h]
  cases p with
  | nil => exact absurd rfl n
  | cons c r => rfl
/-- one step of the reader: a word -/
theorem tk_step_W {c : Nat} {r : List Nat} (h : isW c = true) : tk (c :: r) = (c :: r.takeWhile isW) :: tk (r.dropWhile isW) := by
  have e : c :: r = (c :: r.takeWhile isW) ++ r.dropWhile isW := by simp [List.takeWhile_append_dropWhile]
  have hh : ∀ x, (r.dropWhile isW).head? = some x → isW x = false := fun x hx => by
    have := List.head?_dropWhile_not isW r
    rw [hx] at this
    simpa using this
  have w : (c :: r.takeWhile isW).all isW = true := by
    simp [h, List.all_eq_true]
  calc tk (c :: r) = tk ((c :: r.takeWhile isW) ++ r.dropWhile isW) := by rw [← e]
    _ = tk (c :: r.takeWhile isW) ++ tk (r.dropWhile isW) := tk_app (.inl hh)
    _ = _ := by rw [tk_word w (by simp)]; rfl
theorem tk_step_S {c : Nat} {r : List Nat} (h : isW c = false) (hb : isB c = false) : tk (c :: r) = [c] :: tk r := by
  simp [tk, tkA, h, hb, flush]
theorem tk_step_B {c : Nat} {r : List Nat} (hb : isB c = true) : tk (c :: r) = tk r := by
  simp [tk, tkA, blank_notW hb, hb, flush]
end Wh
set_option Elab.async false
set_option linter.all false
set_option maxRecDepth 100000
set_option maxHeartbeats 4000000
/-! The reading machine, and what a dressed text is. -/
namespace Wh
open PySem L2
abbrev Wt := List (Option (List Tr))
def settle : Wt → Tr → Wt × Option Tr
  | [], t => ([], some t)
  | none :: w, t => settle w (quo t)
  | some l :: w, t => (some (l ++ [t]) :: w, none)
def atom (p : List Nat) : Option Tr := match p with
  | [] => none
  | c :: r =>
    if isDig c then (if 4 < (c :: r).length ∨ ¬ (c :: r).all isDig = true then none else if c = 48 ∧ c :: r ≠ [48] then none else some (.num (NumText.digitsVal (c :: r))))
    else if nmOk (c :: r) then some (.nam (c :: r)) else none
def take (w : Wt) (p : List Nat) : Option (Wt × Option Tr) :=
  if p = [40] then some (some [] :: w, none)
  else if p = [39] then some (none :: w, none)
  else if p = [41] then (match w with
    | some l :: w' => some (settle w' (mkl l))
    | _ => none)
  else (atom p).map (settle w)
def run : Wt → Option Tr → List (List Nat) → Option (Wt × Option Tr)
  | w, v, [] => some (w, v)
  | _, some _, _ :: _ => none
  | w, none, p :: ps => match take w p with
    | none => none
    | some q => run q.1 q.2 ps
theorem run_cons {w : Wt} {p : List Nat} {ps : List (List Nat)} {q : Wt × Option Tr} (h : take w p = some q) : run w none (p :: ps) = run q.1 q.2 ps := by
  simp [run, h]
/-- these parts are read as this value, wherever they stand -/
def Rd (t : Tr) (ts : List (List Nat)) : Prop := ∀ (w : Wt) (rest : List (List Nat)), run w none (ts ++ rest) = run (settle w t).1 (settle w t).2 rest
theorem Rd.atom {t : Tr} {p : List Nat} (h : atom p = some t) (n : p ≠ [40] ∧ p ≠ [39] ∧ p ≠ [41]) : Rd t [p] := fun w rest => by
  refine run_cons ?_
  unfold take
  rw [if_neg n.1, if_neg n.2.1, if_neg n.2.2, h]
  rfl
theorem Rd.quo {t : Tr} {ts : List (List Nat)} (h : Rd t ts) : Rd (quo t) ([39] :: ts) := fun w rest => by
  rw [List.cons_append, run_cons (q := (none :: w, none)) (by unfold take; rw [if_neg (by decide), if_pos rfl])]
  exact h (none :: w) rest
theorem run_members : ∀ (l : List Tr) (tss : List (List (List Nat))) (acc : List Tr) (w : Wt) (rest : List (List Nat)), Paired Rd l tss →
    run (some acc :: w) none (tss.flatten ++ rest) = run (some (acc ++ l) :: w) none rest
  | _, _, acc, w, rest, .nil => by simp
  | t :: l, ts :: tss, acc, w, rest, .cons h r => by
    rw [List.flatten_cons, List.append_assoc, h (some acc :: w)]
    show run (some (acc ++ [t]) :: w) none (tss.flatten ++ rest) = _
    rw [run_members l tss (acc ++ [t]) w rest r]
    simp
theorem Rd.lst {l : List Tr} {tss : List (List (List Nat))} (h : Paired Rd l tss) : Rd (mkl l) ([40] :: (tss.flatten ++ [[41]])) := fun w rest => by
  rw [List.cons_append, run_cons (q := (some [] :: w, none)) (by unfold take; rw [if_pos rfl]), List.append_assoc, run_members l tss [] w _ h]
  exact run_cons (by unfold take; rw [if_neg (by decide), if_neg (by decide), if_pos rfl]; rfl)
theorem Rd.run {t : Tr} {ts : List (List Nat)} (h : Rd t ts) : run [] none ts = some ([], some t) := by
  have := h [] []
  rw [List.append_nil] at this
  rw [this]
  rfl
/-! ### atoms -/
theorem digits_W {l : List Nat} (h : NumText.AllDigits l) : l.all isW = true := by
  rw [List.all_eq_true]
  intro c hc
  have := h c hc
  simp [isW, isDig, this]
theorem digits_dig {l : List Nat} (h : NumText.AllDigits l) : l.all isDig = true := by
  rw [List.all_eq_true]
  intro c hc
  have := h c hc
  simp [isDig, this]
theorem nm_W {l : List Nat} (h : nmOk l = true) : l.all isW = true ∧ l ≠ [] := by
  cases l with
  | nil => cases h
  | cons c r =>
    simp only [nmOk, Bool.and_eq_true] at h
    refine ⟨?_, by simp⟩
    rw [List.all_eq_true]
    intro x hx
    have := (List.all_eq_true.mp h.2) x hx
    simp only [isNs, Bool.or_eq_true] at this
    simp only [isW, Bool.or_eq_true]
    rcases this with h | h
    · exact .inl (.inl h)
    · exact .inr h
theorem W_plain {p : List Nat} (h : p.all isW = true) : p ≠ [40] ∧ p ≠ [39] ∧ p ≠ [41] := by
  refine ⟨?_, ?_, ?_⟩ <;> (intro e; subst e; exact absurd h (by decide))
theorem numL_zero {n : Nat} {r : List Nat} (h : TL.numL n = 48 :: r) : r = [] := by
  induction n using Nat.strongRecOn generalizing r with
  | _ n ih =>
    by_cases h10 : n < 10
    · rw [TL.numL_lt h10] at h
      exact (List.cons.inj h).2.symm
    · rw [TL.numL_step (by omega)] at h
      cases e : TL.numL (n / 10) with
      | nil => exact absurd e (TL.numL_ne _)
      | cons c q =>
        rw [e] at h
        cases h
        have hq := ih (n / 10) (by omega) e
        subst hq
        have e1 : n / 10 = 0 := by
          have := congrArg NumText.digitsVal e
          rw [TL.numL_val] at this
          exact this
        omega
theorem atom_num {n : Nat} (h : n ≤ 9999) : atom (TL.numL n) = some (Tr.num n) := by
  obtain ⟨c, r, e, d⟩ := numL_head n
  have l4 : (TL.numL n).length ≤ 4 := TL.numL_len (by decide) (by omega)
  have dg := digits_dig (TL.numL_digits n)
  have v := TL.numL_val n
  rw [e] at l4 dg v ⊢
  show (if isDig c then (if 4 < (c :: r).length ∨ ¬ (c :: r).all isDig = true then none else if c = 48 ∧ c :: r ≠ [48] then none else some (Tr.num (NumText.digitsVal (c :: r))))
    else if nmOk (c :: r) then some (Tr.nam (c :: r)) else none) = _
  rw [if_pos d, if_neg (fun z => z.elim (fun z => by omega) (fun z => z dg)), if_neg (by rintro ⟨rfl, z⟩; rw [numL_zero e] at z; exact z rfl), v]
theorem atom_nam {l : List Nat} (h : nmOk l = true) : atom l = some (Tr.nam l) := by
  cases l with
  | nil => cases h
  | cons c r =>
    have lo : isLow c = true := by simp only [nmOk, Bool.and_eq_true] at h; exact h.1.1
    have nd : isDig c = false := by
      simp [isLow] at lo
      simp [isDig]; omega
    show (if isDig c then (_ : Option Tr) else if nmOk (c :: r) then some (Tr.nam (c :: r)) else none) = _
    rw [if_neg (by rw [nd]; simp), if_pos h]
/-! ### a dressed text -/
/-- the text d is read as t; plain signs alone -/
structure Dr (t : Tr) (d : List Nat) : Prop where
  rd : Rd t (tk d)
  asc : ∀ c ∈ d, c < 128
theorem W_lt {l : List Nat} (h : l.all isW = true) : ∀ c ∈ l, c < 128 := fun c hc => by
  have := List.all_eq_true.mp h c hc
  simp [isW, isDig, isLow, isUp] at this
  omega
theorem Dr.word {t : Tr} {p : List Nat} (h : atom p = some t) (w : p.all isW = true) (n : p ≠ []) : Dr t p :=
  ⟨by rw [tk_word w n]; exact .atom h (W_plain w), W_lt w⟩
theorem Dr.num' {n : Nat} (h : n ≤ 9999) : Dr (Tr.num n) (TL.numL n) := .word (atom_num h) (digits_W (TL.numL_digits n)) (TL.numL_ne n)
theorem Dr.nam' {l : List Nat} (h : nmOk l = true) : Dr (Tr.nam l) l := .word (atom_nam h) (nm_W h).1 (nm_W h).2
theorem blank_lt {g : List Nat} (h : g.all isB = true) : ∀ c ∈ g, c < 128 := fun c hc => by
  have := List.all_eq_true.mp h c hc
  simp [isB] at this
  omega
theorem tk39 : tk [39] = [[39]] := by decide
theorem tk40 : tk [40] = [[40]] := by decide
theorem tk41 : tk [41] = [[41]] := by decide
theorem sep_left {a b : List Nat} {x : Nat} (h : a.getLast? = some x) (hx : isW x = false) : sepOk a b := .inr fun c hc => by rw [h] at hc; cases hc; exact hx
theorem sep_right {a b : List Nat} {x : Nat} {r : List Nat} (h : b = x :: r) (hx : isW x = false) : sepOk a b := .inl fun c hc => by subst h; cases hc; exact hx
theorem Dr.quote {t : Tr} {g d : List Nat} (h : Dr t d) (hg : g.all isB = true) : Dr (quo t) (39 :: (g ++ d)) := by
  refine ⟨?_, ?_⟩
  · have e : tk (39 :: (g ++ d)) = [39] :: tk d := by
      have := tk_gap (a := [39]) (b := d) hg (fun _ => sep_left (x := 39) rfl rfl)
      rw [tk39] at this
      simpa using this
    rw [e]
    exact .quo h.rd
  · intro c hc
    rcases List.mem_cons.mp hc with rfl | hc
    · decide
    · rcases List.mem_append.mp hc with hc | hc
      · exact blank_lt hg c hc
      · exact h.asc c hc
/-- a list half written: the parenthesis and these members -/
structure DrP (l : List Tr) (d : List Nat) : Prop where
  tks : ∃ tss, Paired Rd l tss ∧ tk d = [40] :: tss.flatten
  asc : ∀ c ∈ d, c < 128
theorem DrP.nil : DrP [] [40] := ⟨⟨[], .nil, by rw [tk40]; rfl⟩, by decide⟩
theorem forall2_snoc {α β : Type} {R : α → β → Prop} : ∀ {l : List α} {m : List β} {a : α} {b : β}, Paired R l m → R a b → Paired R (l ++ [a]) (m ++ [b])
  | _, _, _, _, .nil, h => .cons h .nil
  | _, _, _, _, .cons h r, k => .cons h (forall2_snoc r k)
theorem DrP.snoc {l : List Tr} {t : Tr} {a g d : List Nat} (h : DrP l a) (ht : Dr t d) (hg : g.all isB = true) (hs : g = [] → sepOk a d) : DrP (l ++ [t]) (a ++ g ++ d) := by
  obtain ⟨tss, f, e⟩ := h.tks
  refine ⟨⟨tss ++ [tk d], forall2_snoc f ht.rd, ?_⟩, ?_⟩
  · rw [tk_gap hg hs, e]; simp
  · intro c hc
    rcases List.mem_append.mp hc with hc | hc
    · rcases List.mem_append.mp hc with hc | hc
      · exact h.asc c hc
      · exact blank_lt hg c hc
    · exact ht.asc c hc
theorem DrP.close {l : List Tr} {a g : List Nat} (h : DrP l a) (hg : g.all isB = true) : Dr (mkl l) (a ++ g ++ [41]) := by
  obtain ⟨tss, f, e⟩ := h.tks
  refine ⟨?_, ?_⟩
  · rw [tk_gap hg (fun _ => sep_right (x := 41) (r := []) rfl rfl), e, tk41]
    exact .lst f
  · intro c hc
    rcases List.mem_append.mp hc with hc | hc
    · rcases List.mem_append.mp hc with hc | hc
      · exact h.asc c hc
      · exact blank_lt hg c hc
    · simp at hc; omega
theorem Dr.around {t : Tr} {g k d : List Nat} (h : Dr t d) (hg : g.all isB = true) (hk : k.all isB = true) : Dr t (g ++ d ++ k) := by
  have e1 : tk (g ++ d) = tk d := by
    have := tk_gap (a := []) (b := d) hg (fun _ => .inr (by simp))
    simpa [tk, tkA, flush] using this
  have e2 : tk (g ++ d ++ k) = tk (g ++ d) := by
    have := tk_gap (a := g ++ d) (b := []) hk (fun _ => .inl (by simp))
    simpa [tk, tkA, flush] using this
  refine ⟨by rw [e2, e1]; exact h.rd, ?_⟩
  intro c hc
  rcases List.mem_append.mp hc with hc | hc
  · rcases List.mem_append.mp hc with hc | hc
    · exact blank_lt hg c hc
    · exact h.asc c hc
  · exact blank_lt hk c hc
/-- the one form is a dress, too -/
theorem can_Dr : ∀ (t : Tr), Pr t → Dr t (can t) ∧ (∀ (l : List Tr) (a : List Nat), DrP l a → sepOk a [32] → isL t = true → Dr (mkl (l ++ spread t)) (a ++ tail t))
  | .nil, _ => ⟨(by
      have := DrP.nil.close (g := []) rfl
      exact this), fun l a h _ _ => by
      have := h.close (g := []) rfl
      simpa [spread, tail_nil] using this⟩
  | .num n, h => ⟨.num' h, fun _ _ _ _ z => by cases z⟩
  | .nam l, h => ⟨.nam' h, fun _ _ _ _ z => by cases z⟩
  | .cons a b, h => by
    obtain ⟨ha, hb, hl⟩ := h
    obtain ⟨da, _⟩ := can_Dr a ha
    obtain ⟨db, kb⟩ := can_Dr b hb
    have sp : ∀ x : List Nat, sepOk x [32] := fun x => sep_right (x := 32) (r := []) rfl rfl
    have second : ∀ (l : List Tr) (x : List Nat), DrP l x → sepOk x [32] → isL (Tr.cons a b) = true → Dr (mkl (l ++ spread (Tr.cons a b))) (x ++ tail (Tr.cons a b)) := by
      intro l x hx _ _
      have h1 : DrP (l ++ [a]) (x ++ [32] ++ can a) := hx.snoc da (by decide) (by simp)
      have h2 := kb (l ++ [a]) _ h1 (sp _) hl
      rw [tail_cons]
      simpa [spread, List.append_assoc] using h2
    refine ⟨?_, second⟩
    cases q : quoted (.cons a b) with
    | some c =>
      rw [can_quoted q]
      -- a is the name quote, b holds c alone
      cases b with
      | cons c' d =>
        cases d with
        | nil =>
          have qa : isQ a = true := by
            change (if isQ a = true then some c' else none) = some c at q
            by_cases z : isQ a = true
            · exact z
            · rw [if_neg z] at q; cases q
          have ec : c' = c := by
            change (if isQ a = true then some c' else none) = some c at q
            rw [if_pos qa] at q
            exact Option.some.inj q
          subst ec
          have dc : Dr c' (can c') := (can_Dr c' hb.1).1
          rw [isQ_can qa]
          exact dc.quote (g := []) rfl
        | _ => simp [quoted] at q
      | _ => simp [quoted] at q
    | none =>
      rw [can_plain q]
      have h1 : DrP ([] ++ [a]) ([40] ++ [] ++ can a) := DrP.nil.snoc da rfl (fun _ => sep_left (x := 40) rfl rfl)
      have h2 := kb _ _ h1 (sp _) hl
      have e : mkl ([] ++ [a] ++ spread b) = Tr.cons a b := by
        show Tr.cons a (mkl (spread b)) = _
        rw [mkl_spread hl hb]
      rw [e] at h2
      simpa using h2
termination_by t => sizeOf t
end Wh
set_option Elab.async false
set_option linter.all false
set_option maxRecDepth 100000
set_option maxHeartbeats 4000000
/-! The store of values: its nodes, what an id stands for. -/
namespace Wh
open PySem L2
inductive Nd where
  | nil | num (n : Nat) | nam (l : List Nat) | pr (i j : Nat)
  deriving DecidableEq
def shapeV : Nd → V
  | .nil => .int 0 | .num _ => .int 1 | .nam _ => .int 2 | .pr _ _ => .int 3
def faceV : Nd → V
  | .num n => .int (n : Int) | .nam l => .str (SX.S l) | _ => .non
def firstV : Nd → V
  | .pr i _ => .int (i : Int) | _ => .int 0
def secondV : Nd → V
  | .pr _ j => .int (j : Int) | _ => .int 0
/-- the weight, bounded -/
def wtOf (ws : List Int) : Nd → Int
  | .pr i j => let x := ws.getD i 0 + ws.getD j 0
    if x < 100001 then x else 100001
  | _ => 1
def wts (G : List Nd) : List Int := G.foldl (fun ws d => ws ++ [wtOf ws d]) []
theorem wts_app (G : List Nd) (d : Nd) : wts (G ++ [d]) = wts G ++ [wtOf (wts G) d] := by simp [wts, List.foldl_append]
theorem wts_go : ∀ (G : List Nd) (ws : List Int), (G.foldl (fun ws d => ws ++ [wtOf ws d]) ws).length = ws.length + G.length
  | [], _ => by simp
  | d :: r, ws => by rw [List.foldl_cons, wts_go r]; simp; omega
theorem wts_len (G : List Nd) : (wts G).length = G.length := by unfold wts; rw [wts_go]; simp
/-! ### the dicts -/
section
variable {κ : Type} [DecidableEq κ]
def keyed (f : Nd → Option κ) : Nat → List Nd → List (κ × V)
  | _, [] => []
  | k, d :: r => match f d with
    | some x => (x, .int (k : Int)) :: keyed f (k + 1) r
    | none => keyed f (k + 1) r
theorem keyed_app (f : Nd → Option κ) : ∀ (G : List Nd) (k : Nat) (d : Nd), keyed f k (G ++ [d]) = keyed f k G ++ (match f d with
    | some x => [(x, V.int ((k + G.length : Nat) : Int))]
    | none => [])
  | [], k, d => by simp [keyed]
  | e :: r, k, d => by
    have h := keyed_app f r (k + 1) d
    have e1 : k + 1 + r.length = k + (e :: r).length := by simp; omega
    rw [e1] at h
    cases q : f e with
    | none => simp only [List.cons_append, keyed, q, h]
    | some x => simp only [List.cons_append, keyed, q, h]
theorem keyed_len (f : Nd → Option κ) : ∀ (G : List Nd) (k : Nat), (keyed f k G).length ≤ G.length
  | [], _ => Nat.zero_le _
  | e :: r, k => by
    have h := keyed_len f r (k + 1)
    cases q : f e with
    | none => simp only [keyed, q, List.length_cons]; omega
    | some x => simp only [keyed, q, List.length_cons]; omega
theorem keyed_some {f : Nd → Option κ} {x : κ} {v : V} : ∀ {G : List Nd} {k : Nat}, valV (keyed f k G) x = some v → ∃ i d, G[i]? = some d ∧ f d = some x ∧ v = .int ((k + i : Nat) : Int)
  | [], _, h => by cases h
  | e :: r, k, h => by
    have rest : ∀ {h : valV (keyed f (k + 1) r) x = some v}, ∃ i d, (e :: r)[i]? = some d ∧ f d = some x ∧ v = .int ((k + i : Nat) : Int) := fun {h} => by
      obtain ⟨i, d, h1, h2, h3⟩ := keyed_some h
      exact ⟨i + 1, d, by simpa using h1, h2, by rw [h3]; congr 2; omega⟩
    cases q : f e with
    | none => simp only [keyed, q] at h; exact rest (h := h)
    | some y =>
      simp only [keyed, q] at h
      by_cases c : y = x
      · rw [valV_pos (by exact c)] at h
        exact ⟨0, e, rfl, by rw [q, c], (Option.some.inj h).symm⟩
      · rw [show valV ((y, V.int (k : Int)) :: keyed f (k + 1) r) x = valV (keyed f (k + 1) r) x from by simp [valV, List.find?_cons, c]] at h
        exact rest (h := h)
theorem keyed_none {f : Nd → Option κ} {x : κ} : ∀ {G : List Nd} {k : Nat}, valV (keyed f k G) x = none → ∀ d ∈ G, f d ≠ some x
  | [], _, _, d, hd => by cases hd
  | e :: r, k, h, d, hd => by
    cases q : f e with
    | none =>
      simp only [keyed, q] at h
      rcases List.mem_cons.mp hd with rfl | hd
      · rw [q]; simp
      · exact keyed_none h d hd
    | some y =>
      simp only [keyed, q] at h
      by_cases c : y = x
      · rw [valV_pos (by exact c)] at h; cases h
      · rw [show valV ((y, V.int (k : Int)) :: keyed f (k + 1) r) x = valV (keyed f (k + 1) r) x from by simp [valV, List.find?_cons, c]] at h
        rcases List.mem_cons.mp hd with rfl | hd
        · rw [q]; simpa using c
        · exact keyed_none h d hd
end
def fnum : Nd → Option Key
  | .num n => some (Sum.inl (n : Int)) | _ => none
def fnam : Nd → Option Key
  | .nam l => some (Sum.inr (SX.S l)) | _ => none
def fpr : Nd → Option (List Key)
  | .pr i j => some [Sum.inl (i : Int), Sum.inl (j : Int)] | _ => none
theorem fnum_eq {d : Nd} {n : Nat} (h : fnum d = some (Sum.inl (n : Int))) : d = .num n := by
  cases d <;> simp [fnum] at h
  rename_i m
  have e : m = n := by omega
  rw [e]
theorem fnam_eq {d : Nd} {l : List Nat} (h : fnam d = some (Sum.inr (SX.S l))) : d = .nam l := by
  cases d <;> simp [fnam] at h
  rw [h]
theorem fpr_eq {d : Nd} {i j : Nat} (h : fpr d = some [Sum.inl (i : Int), Sum.inl (j : Int)]) : d = .pr i j := by
  cases d <;> simp [fpr] at h
  obtain ⟨h1, h2⟩ := h
  rename_i a b
  have e : a = i := by omega
  have e2 : b = j := by omega
  rw [e, e2]
/-! ### a sound store -/
structure WF (G : List Nd) : Prop where
  z : G[0]? = some Nd.nil
  nd : G.Nodup
  lt : ∀ (k i j : Nat), G[k]? = some (Nd.pr i j) → i < k ∧ j < k
  ok : ∀ (k n : Nat), G[k]? = some (Nd.num n) → n ≤ 9999
  nm : ∀ (k : Nat) (l : List Nat), G[k]? = some (Nd.nam l) → nmOk l = true
theorem WF.one : WF [Nd.nil] where
  z := rfl
  nd := by simp
  lt := fun k i j h => by cases k <;> simp at h
  ok := fun k i h => by cases k <;> simp at h
  nm := fun k i h => by cases k <;> simp at h
theorem get_snoc {α : Type} {G : List α} {d e : α} {k : Nat} (h : (G ++ [d])[k]? = some e) : G[k]? = some e ∨ (k = G.length ∧ e = d) := by
  by_cases c : k < G.length
  · rw [List.getElem?_append_left c] at h
    exact .inl h
  · rw [List.getElem?_append_right (by omega)] at h
    cases q : k - G.length with
    | zero => rw [q] at h; exact .inr ⟨by omega, (Option.some.inj h).symm⟩
    | succ n => rw [q] at h; simp at h
theorem get_old {α : Type} {G : List α} {d e : α} {k : Nat} (h : G[k]? = some e) : (G ++ [d])[k]? = some e := by
  rw [List.getElem?_append_left (List.getElem?_eq_some_iff.mp h).1]
  exact h
theorem get_new {α : Type} (G : List α) (d : α) : (G ++ [d])[G.length]? = some d := by simp
/-- a node that may be added -/
def NdOk (G : List Nd) : Nd → Prop
  | .nil => False
  | .num n => n ≤ 9999
  | .nam l => nmOk l = true
  | .pr i j => i < G.length ∧ j < G.length
theorem WF.snoc {G : List Nd} {d : Nd} (w : WF G) (hd : d ∉ G) (ok : NdOk G d) : WF (G ++ [d]) where
  z := get_old w.z
  nd := by
    rw [List.nodup_append]
    refine ⟨w.nd, by simp, ?_⟩
    intro a ha b hb e
    simp at hb
    rw [← hb, ← e] at hd
    exact hd ha
  lt := fun k i j h => by
    rcases get_snoc h with h | ⟨rfl, rfl⟩
    · exact w.lt k i j h
    · exact ok
  ok := fun k n h => by
    rcases get_snoc h with h | ⟨rfl, rfl⟩
    · exact w.ok k n h
    · exact ok
  nm := fun k n h => by
    rcases get_snoc h with h | ⟨rfl, rfl⟩
    · exact w.nm k n h
    · exact ok
theorem WF.nil_at {G : List Nd} (w : WF G) {k : Nat} (h : G[k]? = some Nd.nil) : k = 0 := by
  have h0 := w.z
  exact (List.getElem?_inj (List.getElem?_eq_some_iff.mp h).1 w.nd).mp (by rw [h, h0])
/-! ### what an id stands for -/
def Den (G : List Nd) : Tr → Nat → Prop
  | .nil, i => G[i]? = some Nd.nil
  | .num n, i => G[i]? = some (Nd.num n)
  | .nam l, i => G[i]? = some (Nd.nam l)
  | .cons a b, i => ∃ x y, G[i]? = some (Nd.pr x y) ∧ Den G a x ∧ Den G b y
/-- a greater store -/
def Ext (G G' : List Nd) : Prop := ∀ (k : Nat) (d : Nd), G[k]? = some d → G'[k]? = some d
theorem Ext.refl (G : List Nd) : Ext G G := fun _ _ h => h
theorem Ext.trans {G1 G2 G3 : List Nd} (a : Ext G1 G2) (b : Ext G2 G3) : Ext G1 G3 := fun k d h => b k d (a k d h)
theorem Ext.snoc (G : List Nd) (d : Nd) : Ext G (G ++ [d]) := fun _ _ h => get_old h
theorem Den.mono {G G' : List Nd} (e : Ext G G') : ∀ {t : Tr} {i : Nat}, Den G t i → Den G' t i
  | .nil, _, h => e _ _ h
  | .num _, _, h => e _ _ h
  | .nam _, _, h => e _ _ h
  | .cons _ _, _, ⟨x, y, h, a, b⟩ => ⟨x, y, e _ _ h, Den.mono e a, Den.mono e b⟩
theorem Den.lt {G : List Nd} : ∀ {t : Tr} {i : Nat}, Den G t i → i < G.length
  | .nil, _, h => (List.getElem?_eq_some_iff.mp h).1
  | .num _, _, h => (List.getElem?_eq_some_iff.mp h).1
  | .nam _, _, h => (List.getElem?_eq_some_iff.mp h).1
  | .cons _ _, _, ⟨_, _, h, _, _⟩ => (List.getElem?_eq_some_iff.mp h).1
/-- the node of a tree -/
def NodeIs (G : List Nd) : Tr → Nd → Prop
  | .nil, d => d = .nil
  | .num n, d => d = .num n
  | .nam l, d => d = .nam l
  | .cons a b, d => ∃ x y, d = .pr x y ∧ Den G a x ∧ Den G b y
theorem Den.node {G : List Nd} {t : Tr} {i : Nat} (h : Den G t i) : ∃ d, G[i]? = some d ∧ NodeIs G t d := by
  cases t with
  | nil => exact ⟨_, h, rfl⟩
  | num n => exact ⟨_, h, rfl⟩
  | nam l => exact ⟨_, h, rfl⟩
  | cons a b => obtain ⟨x, y, h, ha, hb⟩ := h; exact ⟨_, h, x, y, rfl, ha, hb⟩
def ivs (ids : List Nat) : List V := ids.map fun i => V.int ((i : Nat) : Int)
end Wh
set_option Elab.async false
set_option linter.all false
set_option maxRecDepth 100000
set_option maxHeartbeats 4000000
/-! The class Heap. -/
namespace Wh
open PySem L2 PySem.Spec PyProof.Rows
local macro_rules | `(tactic| walk_at "ne") => `(tactic| first | with_reducible assumption | (apply Ne.symm; with_reducible assumption))
local macro_rules | `(tactic| walk_at "hp") => `(tactic| first | with_reducible assumption | with_reducible exact upd_same | ((with_reducible refine (upd_ne ?n).trans ?h); (case n => walk_at "ne"); (case h => walk_at "hp")) | ((with_reducible show upd _ _ _ _ = _); exact upd_same))
local macro_rules | `(tactic| walk_at "cond") => `(tactic| first | with_reducible assumption | exact (rfl : (_ : Bool) = true) | ((try dsimp only) <;> first | with_reducible assumption | decide | omega) | exact ⟨by first | decide | omega, by first | decide | omega⟩ | exact .inr ⟨by decide, by decide⟩)
local macro_rules | `(tactic| walk_at "sz") => `(tactic| first | with_reducible assumption | (show _ ≤ 16777216; omega))
local macro_rules | `(tactic| walk_at "at") => `(tactic| first | with_reducible assumption | exact atI_nat (by with_reducible assumption) | exact atI_nat (j := 0) (rfl : (_ : Option Nat) = some _) | exact atI_nat (by assumption))
local macro_rules | `(tactic| walk_at "w1") => `(tactic| (fail_if_success with_reducible show @ite _ _ _ _ _); first
  | refine ⟨_, rfl, ?_⟩
  | refine ⟨_, _, (rfl : _ = V.int _), (rfl : _ = V.int _), And.intro (by walk_at "cond") ?_⟩
  | refine ⟨_, _, (rfl : _ = V.int _), (rfl : _ = V.int _), ?_⟩
  | refine ⟨_, _, (rfl : _ = V.str _), (rfl : _ = V.str _), And.intro (by walk_at "sz") ?_⟩
  | refine ⟨_, _, (rfl : _ = V.str _), (rfl : _ = V.str _), ?_⟩
  | refine ⟨_, _, _, _, (rfl : _ = V.ref _), (rfl : _ = V.int _), SqL.of (by walk_at "hp"), rfl, ?_⟩
  | refine ⟨_, _, _, _, (rfl : _ = V.ref _), (rfl : _ = V.int _), (by walk_at "hp"), rfl, ?_⟩
  | refine ⟨Or.inl ⟨rfl, _, SqL.of (by walk_at "hp")⟩, ?_⟩
  | refine ⟨_, _, _, (rfl : _ = V.ref _), (rfl : (_ : List V) = _), (by walk_at "hp"), (by with_reducible assumption), ?_⟩
  | refine ⟨_, _, (rfl : (_ : List V) = _), Or.inl (SqL.of (by walk_at "hp")), ?_⟩
  | refine ⟨_, _, _, _, (rfl : _ = V.ref _), (rfl : _ = V.int _), SqL.of (by walk_at "hp"), atI_nat (by with_reducible assumption), ?_⟩
  | refine ⟨_, _, _, (rfl : _ = V.str _), (rfl : _ = V.int _), (by walk_at "sz"), (by walk_at "at"), ?_⟩
  | refine ⟨_, _, (rfl : (_ : List V) = [V.str _]), SX.int_S (by assumption) (by simp) (by assumption), (by assumption), ?_⟩
  | refine ⟨_, _, (rfl : (_ : List V) = [_, _]), ?_⟩
  | refine ⟨(rfl : (_ : Bool) = true), ?_⟩
  | refine ⟨(rfl : (_ : V) = V.non), ?_⟩
  | refine And.intro (by walk_at "sz") ?_
  | refine .inl ⟨_, rfl, ?_⟩)
local macro_rules | `(tactic| walk_at "w") => `(tactic| repeat walk_at "w1")
structure Hz where
  p : Addr
  dx : Addr
  a1 : Addr
  a2 : Addr
  a3 : Addr
  a4 : Addr
  a5 : Addr
  a6 : Addr
  a7 : Addr
  a8 : Addr
def hzF (z : Hz) : List (Str × V) := [("_shapes", .ref z.a1), ("_faces", .ref z.a2), ("_firsts", .ref z.a3), ("_seconds", .ref z.a4), ("_hefts", .ref z.a5), ("_numbers", .ref z.a6), ("_names", .ref z.a7), ("_pairs", .ref z.a8)]
theorem hz_shapes (z : Hz) : (hzF z).lookup ("_shapes" : Str) = some (.ref z.a1) := by kernel_rfl
theorem hz_faces (z : Hz) : (hzF z).lookup ("_faces" : Str) = some (.ref z.a2) := by kernel_rfl
theorem hz_firsts (z : Hz) : (hzF z).lookup ("_firsts" : Str) = some (.ref z.a3) := by kernel_rfl
theorem hz_seconds (z : Hz) : (hzF z).lookup ("_seconds" : Str) = some (.ref z.a4) := by kernel_rfl
theorem hz_hefts (z : Hz) : (hzF z).lookup ("_hefts" : Str) = some (.ref z.a5) := by kernel_rfl
theorem hz_numbers (z : Hz) : (hzF z).lookup ("_numbers" : Str) = some (.ref z.a6) := by kernel_rfl
theorem hz_names (z : Hz) : (hzF z).lookup ("_names" : Str) = some (.ref z.a7) := by kernel_rfl
theorem hz_pairs (z : Hz) : (hzF z).lookup ("_pairs" : Str) = some (.ref z.a8) := by kernel_rfl
theorem hz_no_new (z : Hz) : (hzF z).lookup ("_new" : Str) = none := by kernel_rfl
theorem hz_no_number (z : Hz) : (hzF z).lookup ("number" : Str) = none := by kernel_rfl
theorem hz_no_name (z : Hz) : (hzF z).lookup ("name" : Str) = none := by kernel_rfl
theorem hz_no_pair (z : Hz) : (hzF z).lookup ("pair" : Str) = none := by kernel_rfl
theorem hz_no_shape (z : Hz) : (hzF z).lookup ("shape" : Str) = none := by kernel_rfl
theorem hz_no_face (z : Hz) : (hzF z).lookup ("face" : Str) = none := by kernel_rfl
theorem hz_no_first (z : Hz) : (hzF z).lookup ("first" : Str) = none := by kernel_rfl
theorem hz_no_second (z : Hz) : (hzF z).lookup ("second" : Str) = none := by kernel_rfl
theorem hz_no_listed (z : Hz) : (hzF z).lookup ("listed" : Str) = none := by kernel_rfl
theorem hz_no_spread (z : Hz) : (hzF z).lookup ("spread" : Str) = none := by kernel_rfl
/-- a Heap at z: its lists hold the store G, its dicts the store D -/
structure HA (C : Addr) (H : Hp) (z : Hz) (G D : List Nd) : Prop where
  ob : H z.p = some (.ins C z.dx (hzF z))
  l1 : H z.a1 = some (.lst (G.map shapeV))
  l2 : H z.a2 = some (.lst (G.map faceV))
  l3 : H z.a3 = some (.lst (G.map firstV))
  l4 : H z.a4 = some (.lst (G.map secondV))
  l5 : H z.a5 = some (.lst ((wts G).map V.int))
  d6 : H z.a6 = some (.dK (keyed fnum 0 D))
  d7 : H z.a7 = some (.dK (keyed fnam 0 D))
  d8 : H z.a8 = some (.dT (keyed fpr 0 D))
  n12 : z.a1 ≠ z.a2
  n13 : z.a1 ≠ z.a3
  n14 : z.a1 ≠ z.a4
  n15 : z.a1 ≠ z.a5
  n23 : z.a2 ≠ z.a3
  n24 : z.a2 ≠ z.a4
  n25 : z.a2 ≠ z.a5
  n34 : z.a3 ≠ z.a4
  n35 : z.a3 ≠ z.a5
  n45 : z.a4 ≠ z.a5
  n67 : z.a6 ≠ z.a7
def foot (z : Hz) : List Addr := [z.a1, z.a2, z.a3, z.a4, z.a5, z.a6, z.a7, z.a8]
theorem ne_lk {H : Hp} {a b : Addr} {o : HO} {u : HO} (h : H a = some o) (h' : H b = some u) (d : o ≠ u) : a ≠ b := ne_of h h' d
theorem HA.ne_p {C : Addr} {H : Hp} {z : Hz} {G D : List Nd} (h : HA C H z G D) : z.p ≠ z.a1 ∧ z.p ≠ z.a2 ∧ z.p ≠ z.a3 ∧ z.p ≠ z.a4 ∧ z.p ≠ z.a5 ∧ z.p ≠ z.a6 ∧ z.p ≠ z.a7 ∧ z.p ≠ z.a8 :=
  ⟨ne_of h.ob h.l1 (fun e => by cases e), ne_of h.ob h.l2 (fun e => by cases e), ne_of h.ob h.l3 (fun e => by cases e), ne_of h.ob h.l4 (fun e => by cases e), ne_of h.ob h.l5 (fun e => by cases e), ne_of h.ob h.d6 (fun e => by cases e), ne_of h.ob h.d7 (fun e => by cases e), ne_of h.ob h.d8 (fun e => by cases e)⟩
theorem HA.ne_l {C : Addr} {H : Hp} {z : Hz} {G D : List Nd} (h : HA C H z G D) {a : Addr} {l : List V} (e : H a = some (.lst l)) : z.a6 ≠ a ∧ z.a7 ≠ a ∧ z.a8 ≠ a :=
  ⟨ne_of h.d6 e (fun e => by cases e), ne_of h.d7 e (fun e => by cases e), ne_of h.d8 e (fun e => by cases e)⟩
theorem HA.ne_8 {C : Addr} {H : Hp} {z : Hz} {G D : List Nd} (h : HA C H z G D) : z.a6 ≠ z.a8 ∧ z.a7 ≠ z.a8 :=
  ⟨ne_of h.d6 h.d8 (fun e => by cases e), ne_of h.d7 h.d8 (fun e => by cases e)⟩
/-- what leaves the eight as they are -/
theorem HA.keep {C : Addr} {H H' : Hp} {z : Hz} {G D : List Nd} (h : HA C H z G D) (k : ∀ b o, b = z.p ∨ b ∈ foot z → H b = some o → H' b = some o) : HA C H' z G D :=
  ⟨k _ _ (.inl rfl) h.ob, k _ _ (.inr (by simp [foot])) h.l1, k _ _ (.inr (by simp [foot])) h.l2, k _ _ (.inr (by simp [foot])) h.l3, k _ _ (.inr (by simp [foot])) h.l4, k _ _ (.inr (by simp [foot])) h.l5,
    k _ _ (.inr (by simp [foot])) h.d6, k _ _ (.inr (by simp [foot])) h.d7, k _ _ (.inr (by simp [foot])) h.d8, h.n12, h.n13, h.n14, h.n15, h.n23, h.n24, h.n25, h.n34, h.n35, h.n45, h.n67⟩
theorem HA.same {C : Addr} {H H' : Hp} {z : Hz} {G D : List Nd} (h : HA C H z G D) (s : Same H H') : HA C H' z G D := h.keep fun b o _ e => s b o e
theorem HA.new {C : Addr} {H : Hp} {z : Hz} {G D : List Nd} {p : Addr} {o : HO} (h : HA C H z G D) (n : H p = none) : HA C (upd H p o) z G D := h.same fun b u e => (upd_ne (ne_of_none e n)).trans e
/-- an object apart is changed -/
theorem HA.apart {C : Addr} {H : Hp} {z : Hz} {G D : List Nd} {p : Addr} {o : HO} (h : HA C H z G D) (n : p ≠ z.p ∧ p ∉ foot z) : HA C (upd H p o) z G D := h.keep fun b u hb e =>
  (upd_ne (fun q => by rw [q] at hb; exact hb.elim n.1 n.2)).trans e
theorem wts_get {G : List Nd} {i : Nat} (h : i < G.length) : ((wts G).map V.int)[i]? = some (.int ((wts G).getD i 0)) := by
  have h' : i < (wts G).length := by rw [wts_len]; exact h
  rw [List.getElem?_map, List.getElem?_eq_getElem h', List.getD_eq_getElem?_getD, List.getElem?_eq_getElem h']
  rfl
theorem HA.put6 {C : Addr} {H : Hp} {z : Hz} {G D : List Nd} {n : Nat} (h : HA C H z G D) (e : valV (keyed fnum 0 D) (Sum.inl (n : Int)) = none) :
    HA C (upd H z.a6 (.dK (putK (keyed fnum 0 D) (Sum.inl (n : Int)) (.int (D.length : Int))))) z G (D ++ [.num n]) := by
  have m := h.ne_p
  have e6 : keyed fnum 0 (D ++ [.num n]) = putK (keyed fnum 0 D) (Sum.inl (n : Int)) (.int (D.length : Int)) := by
    rw [putK_new _ e, keyed_app]
    simp [fnum]
  exact ⟨(upd_ne m.2.2.2.2.2.1).trans h.ob, (upd_ne (h.ne_l h.l1).1.symm).trans h.l1, (upd_ne (h.ne_l h.l2).1.symm).trans h.l2, (upd_ne (h.ne_l h.l3).1.symm).trans h.l3, (upd_ne (h.ne_l h.l4).1.symm).trans h.l4, (upd_ne (h.ne_l h.l5).1.symm).trans h.l5,
    by rw [e6]; exact upd_same, by rw [keyed_app]; simpa [fnam] using (upd_ne h.n67.symm).trans h.d7, by rw [keyed_app]; simpa [fpr] using (upd_ne h.ne_8.1.symm).trans h.d8,
    h.n12, h.n13, h.n14, h.n15, h.n23, h.n24, h.n25, h.n34, h.n35, h.n45, h.n67⟩
theorem HA.put7 {C : Addr} {H : Hp} {z : Hz} {G D : List Nd} {n : List Nat} (h : HA C H z G D) (e : valV (keyed fnam 0 D) (Sum.inr (SX.S n)) = none) :
    HA C (upd H z.a7 (.dK (putK (keyed fnam 0 D) (Sum.inr (SX.S n)) (.int (D.length : Int))))) z G (D ++ [.nam n]) := by
  have m := h.ne_p
  have e6 : keyed fnam 0 (D ++ [.nam n]) = putK (keyed fnam 0 D) (Sum.inr (SX.S n)) (.int (D.length : Int)) := by
    rw [putK_new _ e, keyed_app]
    simp [fnam]
  exact ⟨(upd_ne m.2.2.2.2.2.2.1).trans h.ob, (upd_ne (h.ne_l h.l1).2.1.symm).trans h.l1, (upd_ne (h.ne_l h.l2).2.1.symm).trans h.l2, (upd_ne (h.ne_l h.l3).2.1.symm).trans h.l3, (upd_ne (h.ne_l h.l4).2.1.symm).trans h.l4, (upd_ne (h.ne_l h.l5).2.1.symm).trans h.l5,
    by rw [keyed_app]; simpa [fnum] using (upd_ne h.n67).trans h.d6, by rw [e6]; exact upd_same, by rw [keyed_app]; simpa [fpr] using (upd_ne h.ne_8.2.symm).trans h.d8,
    h.n12, h.n13, h.n14, h.n15, h.n23, h.n24, h.n25, h.n34, h.n35, h.n45, h.n67⟩
theorem HA.put8 {C : Addr} {H : Hp} {z : Hz} {G D : List Nd} {i j : Nat} (h : HA C H z G D) (e : valV (keyed fpr 0 D) [Sum.inl (i : Int), Sum.inl (j : Int)] = none) :
    HA C (upd H z.a8 (.dT (putK (keyed fpr 0 D) [Sum.inl (i : Int), Sum.inl (j : Int)] (.int (D.length : Int))))) z G (D ++ [.pr i j]) := by
  have m := h.ne_p
  have e6 : keyed fpr 0 (D ++ [.pr i j]) = putK (keyed fpr 0 D) [Sum.inl (i : Int), Sum.inl (j : Int)] (.int (D.length : Int)) := by
    rw [putK_new _ e, keyed_app]
    simp [fpr]
  exact ⟨(upd_ne m.2.2.2.2.2.2.2).trans h.ob, (upd_ne (h.ne_l h.l1).2.2.symm).trans h.l1, (upd_ne (h.ne_l h.l2).2.2.symm).trans h.l2, (upd_ne (h.ne_l h.l3).2.2.symm).trans h.l3, (upd_ne (h.ne_l h.l4).2.2.symm).trans h.l4, (upd_ne (h.ne_l h.l5).2.2.symm).trans h.l5,
    by rw [keyed_app]; simpa [fnum] using (upd_ne h.ne_8.1).trans h.d6, by rw [keyed_app]; simpa [fnam] using (upd_ne h.ne_8.2).trans h.d7, by rw [e6]; exact upd_same,
    h.n12, h.n13, h.n14, h.n15, h.n23, h.n24, h.n25, h.n34, h.n35, h.n45, h.n67⟩
local macro_rules | `(tactic| walk_at "fld") => `(tactic| (fail_if_success with_reducible show @ite _ _ _ _ _); first
  | refine ⟨_, _, _, _, _, (rfl : _ = V.ref _), (by walk_at "hp"), Txt.cl_Heap _, Txt.nf__shapes _, hz_shapes _, ?_⟩
  | refine ⟨_, _, _, _, _, (rfl : _ = V.ref _), (by walk_at "hp"), Txt.cl_Heap _, Txt.nf__faces _, hz_faces _, ?_⟩
  | refine ⟨_, _, _, _, _, (rfl : _ = V.ref _), (by walk_at "hp"), Txt.cl_Heap _, Txt.nf__firsts _, hz_firsts _, ?_⟩
  | refine ⟨_, _, _, _, _, (rfl : _ = V.ref _), (by walk_at "hp"), Txt.cl_Heap _, Txt.nf__seconds _, hz_seconds _, ?_⟩
  | refine ⟨_, _, _, _, _, (rfl : _ = V.ref _), (by walk_at "hp"), Txt.cl_Heap _, Txt.nf__hefts _, hz_hefts _, ?_⟩
  | refine ⟨_, _, _, _, _, (rfl : _ = V.ref _), (by walk_at "hp"), Txt.cl_Heap _, Txt.nf__numbers _, hz_numbers _, ?_⟩
  | refine ⟨_, _, _, _, _, (rfl : _ = V.ref _), (by walk_at "hp"), Txt.cl_Heap _, Txt.nf__names _, hz_names _, ?_⟩
  | refine ⟨_, _, _, _, _, (rfl : _ = V.ref _), (by walk_at "hp"), Txt.cl_Heap _, Txt.nf__pairs _, hz_pairs _, ?_⟩)
local macro_rules | `(tactic| walk_at "wf") => `(tactic| repeat first | walk_at "w1" | walk_at "fld")
theorem putF_len (f : Str) (v : V) (fs : List (Str × V)) : (putF f v fs).length ≤ fs.length + 1 := by
  induction fs with
  | nil => exact Nat.le_refl _
  | cons a r ih =>
    obtain ⟨g, u⟩ := a
    show (if g = f then (g, v) :: r else (g, u) :: putF f v r).length ≤ _
    by_cases c : g = f
    · rw [if_pos c]; simp
    · rw [if_neg c]; simp; omega
theorem putF_lt {f : Str} {v : V} {fs : List (Str × V)} {n : Nat} (h : fs.length < n) : (putF f v fs).length < n + 1 := by
  have := putF_len f v fs
  omega
theorem fld_new {K : PySem.W.Frag} {C p dx : Addr} {fs : List (Str × V)} {H : Hp} {f : Str} {o : HO} {D : Ends} {σ : L2.St} (hp : H p = some (.ins C dx fs)) (hl : fs.length < 1000) (cl : Cls K C) (na : NoAttr K C f) (e0 : σ[0]? = some (some (.ref p)))
    (k : ∀ (a : Addr) (H' : Hp), H a = none → a ≠ p → H' p = some (.ins C dx (putF f (.ref a) fs)) → H' a = some o → (∀ b u, b ≠ p → H b = some u → H' b = some u) → D.nx σ H') :
    ∀ a, H a = none → ∃ v, σ[0]? = some (some v) ∧ (∃ a' C dx fs, v = .ref a' ∧ (upd H a o) a' = some (.ins C dx fs) ∧ Cls K C ∧ NoAttr K C f ∧ fs.length < 1000 ∧ D.nx σ (upd (upd H a o) a' (.ins C dx (putF f (.ref a) fs)))) := by
  intro a n
  have ap : p ≠ a := ne_of_none hp n
  refine ⟨_, e0, p, C, dx, fs, rfl, (upd_ne ap).trans hp, cl, na, hl, ?_⟩
  refine k a _ n ap.symm upd_same ((upd_ne ap.symm).trans upd_same) fun b u hb hu => ?_
  rw [upd_ne hb, upd_ne (ne_of_none hu n)]
  exact hu
theorem fld_newL {K : PySem.W.Frag} {C p dx : Addr} {fs : List (Str × V)} {H : Hp} {f : Str} {x : V} {D : Ends} {σ : L2.St} (hp : H p = some (.ins C dx fs)) (hl : fs.length < 1000) (cl : Cls K C) (na : NoAttr K C f) (e0 : σ[0]? = some (some (.ref p)))
    (k : ∀ (a : Addr) (H' : Hp), H a = none → a ≠ p → H' p = some (.ins C dx (putF f (.ref a) fs)) → H' a = some (.lst [x]) → (∀ b u, b ≠ p → H b = some u → H' b = some u) → D.nx σ H') :
    sFld K (tVar 0) (tLst (tCons (tC x) tNil)) f D σ H := ⟨(show 1 ≤ sizeLine by decide), fld_new hp hl cl na e0 k⟩
theorem fld_newK {K : PySem.W.Frag} {C p dx : Addr} {fs : List (Str × V)} {H : Hp} {f : Str} {D : Ends} {σ : L2.St} (hp : H p = some (.ins C dx fs)) (hl : fs.length < 1000) (cl : Cls K C) (na : NoAttr K C f) (e0 : σ[0]? = some (some (.ref p)))
    (k : ∀ (a : Addr) (H' : Hp), H a = none → a ≠ p → H' p = some (.ins C dx (putF f (.ref a) fs)) → H' a = some (.dK []) → (∀ b u, b ≠ p → H b = some u → H' b = some u) → D.nx σ H') :
    sFld K (tVar 0) tDNewK f D σ H := fld_new hp hl cl na e0 k
theorem fld_newT {K : PySem.W.Frag} {C p dx : Addr} {fs : List (Str × V)} {H : Hp} {f : Str} {D : Ends} {σ : L2.St} (hp : H p = some (.ins C dx fs)) (hl : fs.length < 1000) (cl : Cls K C) (na : NoAttr K C f) (e0 : σ[0]? = some (some (.ref p)))
    (k : ∀ (a : Addr) (H' : Hp), H a = none → a ≠ p → H' p = some (.ins C dx (putF f (.ref a) fs)) → H' a = some (.dT []) → (∀ b u, b ≠ p → H b = some u → H' b = some u) → D.nx σ H') :
    sFld K (tVar 0) tDNewT f D σ H := fld_new hp hl cl na e0 k
section
variable {P : Program} {w : World} {K : PySem.W.Frag} {mg : Str → Option Value} {base : Heap}
def spInit (C : Addr) : Sp := fun vs H Q _ => ∃ (p dx : Addr), vs = [.ref p] ∧ H p = some (.ins C dx []) ∧
  ∀ (z : Hz) (H' : Hp), z.p = p → (∀ a ∈ foot z, H a = none) → HA C H' z [Nd.nil] [Nd.nil] → (∀ b o, b ≠ p → H b = some o → H' b = some o) → Q .non H'
theorem ok_Heap__init (T : Txt K mg) : FnOk P w K mg base CX0 1 T.a_Heap__init T.d_Heap__init ["self"] (spInit T.C_Heap) := by
  refine T.Heap__init.fn.ok sc_Heap__init (fun vs H Q E h => ?_) (fun cdv A outer s H vs Q E hr h => ?_)
  · obtain ⟨p, dx, rfl, _⟩ := h
    rfl
  · obtain ⟨p, dx, rfl, hp, k⟩ := h
    refine ⟨_, (pss_cons (ps_fld (pv 0) (pe_lst (pa_cons (pe_glob (v := .int 0) rfl T.c_EMPTY ⟨_, rfl⟩) pa_nil)) rfl)
      (pss_cons (ps_fld (pv 0) (pe_lst (pa_cons pe_non pa_nil)) rfl)
      (pss_cons (ps_fld (pv 0) (pe_lst (pa_cons (pe_glob (v := .int 0) rfl T.c_NIL ⟨_, rfl⟩) pa_nil)) rfl)
      (pss_cons (ps_fld (pv 0) (pe_lst (pa_cons (pe_glob (v := .int 0) rfl T.c_NIL ⟨_, rfl⟩) pa_nil)) rfl)
      (pss_cons (ps_fld (pv 0) (pe_lst (pa_cons pe_int pa_nil)) rfl)
      (pss_cons (ps_fld (pv 0) pe_dnewK rfl)
      (pss_cons (ps_fld (pv 0) pe_dnewK rfl)
      (pss_one (ps_fld (pv 0) pe_dnewT rfl))))))))), ?_⟩
    refine fld_newL (f := "_shapes") hp (by decide) T.cl_Heap T.nf__shapes rfl (fun a1 H1 n1 e1 p1 o1 k1 => ?_)
    have z1 : H a1 = none := n1
    have kk1 : ∀ b o, b ≠ p → H b = some o → H1 b = some o := k1
    refine fld_newL (f := "_faces") p1 (putF_lt (n := 999) (by decide)) T.cl_Heap T.nf__faces rfl (fun a2 H2 n2 e2 p2 o2 k2 => ?_)
    have m12 : a1 ≠ a2 := ne_of_none o1 n2
    replace o1 := k2 _ _ e1 o1
    have z2 : H a2 = none := by
      cases q : H a2 with
      | none => rfl
      | some u => have := kk1 _ _ e2 q; rw [n2] at this; cases this
    have kk2 : ∀ b o, b ≠ p → H b = some o → H2 b = some o := fun b o h q => k2 b o h (kk1 b o h q)
    refine fld_newL (f := "_firsts") p2 (putF_lt (n := 999) (putF_lt (n := 998) (by decide))) T.cl_Heap T.nf__firsts rfl (fun a3 H3 n3 e3 p3 o3 k3 => ?_)
    have m13 : a1 ≠ a3 := ne_of_none o1 n3
    have m23 : a2 ≠ a3 := ne_of_none o2 n3
    replace o1 := k3 _ _ e1 o1
    replace o2 := k3 _ _ e2 o2
    have z3 : H a3 = none := by
      cases q : H a3 with
      | none => rfl
      | some u => have := kk2 _ _ e3 q; rw [n3] at this; cases this
    have kk3 : ∀ b o, b ≠ p → H b = some o → H3 b = some o := fun b o h q => k3 b o h (kk2 b o h q)
    refine fld_newL (f := "_seconds") p3 (putF_lt (n := 999) (putF_lt (n := 998) (putF_lt (n := 997) (by decide)))) T.cl_Heap T.nf__seconds rfl (fun a4 H4 n4 e4 p4 o4 k4 => ?_)
    have m14 : a1 ≠ a4 := ne_of_none o1 n4
    have m24 : a2 ≠ a4 := ne_of_none o2 n4
    have m34 : a3 ≠ a4 := ne_of_none o3 n4
    replace o1 := k4 _ _ e1 o1
    replace o2 := k4 _ _ e2 o2
    replace o3 := k4 _ _ e3 o3
    have z4 : H a4 = none := by
      cases q : H a4 with
      | none => rfl
      | some u => have := kk3 _ _ e4 q; rw [n4] at this; cases this
    have kk4 : ∀ b o, b ≠ p → H b = some o → H4 b = some o := fun b o h q => k4 b o h (kk3 b o h q)
    refine fld_newL (f := "_hefts") p4 (putF_lt (n := 999) (putF_lt (n := 998) (putF_lt (n := 997) (putF_lt (n := 996) (by decide))))) T.cl_Heap T.nf__hefts rfl (fun a5 H5 n5 e5 p5 o5 k5 => ?_)
    have m15 : a1 ≠ a5 := ne_of_none o1 n5
    have m25 : a2 ≠ a5 := ne_of_none o2 n5
    have m35 : a3 ≠ a5 := ne_of_none o3 n5
    have m45 : a4 ≠ a5 := ne_of_none o4 n5
    replace o1 := k5 _ _ e1 o1
    replace o2 := k5 _ _ e2 o2
    replace o3 := k5 _ _ e3 o3
    replace o4 := k5 _ _ e4 o4
    have z5 : H a5 = none := by
      cases q : H a5 with
      | none => rfl
      | some u => have := kk4 _ _ e5 q; rw [n5] at this; cases this
    have kk5 : ∀ b o, b ≠ p → H b = some o → H5 b = some o := fun b o h q => k5 b o h (kk4 b o h q)
    refine fld_newK (f := "_numbers") p5 (putF_lt (n := 999) (putF_lt (n := 998) (putF_lt (n := 997) (putF_lt (n := 996) (putF_lt (n := 995) (by decide)))))) T.cl_Heap T.nf__numbers rfl (fun a6 H6 n6 e6 p6 o6 k6 => ?_)
    have m16 : a1 ≠ a6 := ne_of_none o1 n6
    have m26 : a2 ≠ a6 := ne_of_none o2 n6
    have m36 : a3 ≠ a6 := ne_of_none o3 n6
    have m46 : a4 ≠ a6 := ne_of_none o4 n6
    have m56 : a5 ≠ a6 := ne_of_none o5 n6
    replace o1 := k6 _ _ e1 o1
    replace o2 := k6 _ _ e2 o2
    replace o3 := k6 _ _ e3 o3
    replace o4 := k6 _ _ e4 o4
    replace o5 := k6 _ _ e5 o5
    have z6 : H a6 = none := by
      cases q : H a6 with
      | none => rfl
      | some u => have := kk5 _ _ e6 q; rw [n6] at this; cases this
    have kk6 : ∀ b o, b ≠ p → H b = some o → H6 b = some o := fun b o h q => k6 b o h (kk5 b o h q)
    refine fld_newK (f := "_names") p6 (putF_lt (n := 999) (putF_lt (n := 998) (putF_lt (n := 997) (putF_lt (n := 996) (putF_lt (n := 995) (putF_lt (n := 994) (by decide))))))) T.cl_Heap T.nf__names rfl (fun a7 H7 n7 e7 p7 o7 k7 => ?_)
    have m17 : a1 ≠ a7 := ne_of_none o1 n7
    have m27 : a2 ≠ a7 := ne_of_none o2 n7
    have m37 : a3 ≠ a7 := ne_of_none o3 n7
    have m47 : a4 ≠ a7 := ne_of_none o4 n7
    have m57 : a5 ≠ a7 := ne_of_none o5 n7
    have m67 : a6 ≠ a7 := ne_of_none o6 n7
    replace o1 := k7 _ _ e1 o1
    replace o2 := k7 _ _ e2 o2
    replace o3 := k7 _ _ e3 o3
    replace o4 := k7 _ _ e4 o4
    replace o5 := k7 _ _ e5 o5
    replace o6 := k7 _ _ e6 o6
    have z7 : H a7 = none := by
      cases q : H a7 with
      | none => rfl
      | some u => have := kk6 _ _ e7 q; rw [n7] at this; cases this
    have kk7 : ∀ b o, b ≠ p → H b = some o → H7 b = some o := fun b o h q => k7 b o h (kk6 b o h q)
    refine fld_newT (f := "_pairs") p7 (putF_lt (n := 999) (putF_lt (n := 998) (putF_lt (n := 997) (putF_lt (n := 996) (putF_lt (n := 995) (putF_lt (n := 994) (putF_lt (n := 993) (by decide)))))))) T.cl_Heap T.nf__pairs rfl (fun a8 H8 n8 e8 p8 o8 k8 => ?_)
    have m18 : a1 ≠ a8 := ne_of_none o1 n8
    have m28 : a2 ≠ a8 := ne_of_none o2 n8
    have m38 : a3 ≠ a8 := ne_of_none o3 n8
    have m48 : a4 ≠ a8 := ne_of_none o4 n8
    have m58 : a5 ≠ a8 := ne_of_none o5 n8
    have m68 : a6 ≠ a8 := ne_of_none o6 n8
    have m78 : a7 ≠ a8 := ne_of_none o7 n8
    replace o1 := k8 _ _ e1 o1
    replace o2 := k8 _ _ e2 o2
    replace o3 := k8 _ _ e3 o3
    replace o4 := k8 _ _ e4 o4
    replace o5 := k8 _ _ e5 o5
    replace o6 := k8 _ _ e6 o6
    replace o7 := k8 _ _ e7 o7
    have z8 : H a8 = none := by
      cases q : H a8 with
      | none => rfl
      | some u => have := kk7 _ _ e8 q; rw [n8] at this; cases this
    have kk8 : ∀ b o, b ≠ p → H b = some o → H8 b = some o := fun b o h q => k8 b o h (kk7 b o h q)
    refine k ⟨p, dx, a1, a2, a3, a4, a5, a6, a7, a8⟩ H8 rfl ?_ ?_ kk8
    · intro a ha
      simp only [foot, List.mem_cons, List.mem_nil_iff, or_false, List.not_mem_nil] at ha
      rcases ha with rfl | rfl | rfl | rfl | rfl | rfl | rfl | rfl <;> assumption
    · refine ⟨?_, o1, o2, o3, o4, o5, o6, o7, o8, m12, m13, m14, m15, m23, m24, m25, m34, m35, m45, m67⟩
      rw [p8]
      exact congrArg (fun l => some (HO.ins T.C_Heap dx l)) (by kernel_rfl)
def spNew (C : Addr) : Sp := fun vs H Q _ => ∃ (z : Hz) (G D : List Nd) (d : Nd), vs = [.ref z.p, shapeV d, faceV d, firstV d, secondV d, .int (wtOf (wts G) d)] ∧ HA C H z G D ∧ G.length < 16000000 ∧
  ∀ H', HA C H' z (G ++ [d]) D → Kp (foot z) H H' → Q (.int (G.length : Int)) H'
theorem ok_Heap_new (T : Txt K mg) : FnOk P w K mg base CX0 1 T.a_Heap_new T.d_Heap_new ["self", "shape", "face", "first", "second", "heft"] (spNew T.C_Heap) := by
  refine T.Heap_new.fn.ok sc_Heap_new (fun vs H Q E h => ?_) (fun cdv A outer s H vs Q E hr h => ?_)
  · obtain ⟨z, G, D, d, rfl, _⟩ := h
    rfl
  · obtain ⟨z, G, D, d, rfl, hA, hl, k⟩ := h
    obtain ⟨ob, l1, l2, l3, l4, l5, d6, d7, d8, n12, n13, n14, n15, n23, n24, n25, n34, n35, n45, n67⟩ := id hA
    obtain ⟨m1, m2, m3, m4, m5, m6, m7, m8⟩ := hA.ne_p
    obtain ⟨r16, r17, r18⟩ := hA.ne_l l1
    obtain ⟨r26, r27, r28⟩ := hA.ne_l l2
    obtain ⟨r36, r37, r38⟩ := hA.ne_l l3
    obtain ⟨r46, r47, r48⟩ := hA.ne_l l4
    obtain ⟨r56, r57, r58⟩ := hA.ne_l l5
    have s1 : (G.map shapeV).length < sizeLine := by rw [List.length_map]; show _ < 16777216; omega
    have s2 : (G.map faceV).length < sizeLine := by rw [List.length_map]; show _ < 16777216; omega
    have s3 : (G.map firstV).length < sizeLine := by rw [List.length_map]; show _ < 16777216; omega
    have s4 : (G.map secondV).length < sizeLine := by rw [List.length_map]; show _ < 16777216; omega
    have s5 : ((wts G).map V.int).length < sizeLine := by rw [List.length_map, wts_len]; show _ < 16777216; omega
    refine ⟨_, (pss_cons (ps_set (i := 6) sc_Heap_new.nd rfl (Or.inl rfl) (pe_callB call_len_seq (by rfl) T.b_len (by decide +kernel) (pa_cons (pe_fld (pv 0) rfl) pa_nil)))
      (pss_cons (ps_expr (pe_bm PySem.F.plainAttrs_list PySem.F.slot_list_append PySem.F.type_list_append mt_append (pe_fld (pv 0) rfl) (pa_cons (pv 1) pa_nil)))
      (pss_cons (ps_expr (pe_bm PySem.F.plainAttrs_list PySem.F.slot_list_append PySem.F.type_list_append mt_append (pe_fld (pv 0) rfl) (pa_cons (pv 2) pa_nil)))
      (pss_cons (ps_expr (pe_bm PySem.F.plainAttrs_list PySem.F.slot_list_append PySem.F.type_list_append mt_append (pe_fld (pv 0) rfl) (pa_cons (pv 3) pa_nil)))
      (pss_cons (ps_expr (pe_bm PySem.F.plainAttrs_list PySem.F.slot_list_append PySem.F.type_list_append mt_append (pe_fld (pv 0) rfl) (pa_cons (pv 4) pa_nil)))
      (pss_cons (ps_expr (pe_bm PySem.F.plainAttrs_list PySem.F.slot_list_append PySem.F.type_list_append mt_append (pe_fld (pv 0) rfl) (pa_cons (pv 5) pa_nil)))
      (pss_one (ps_ret (pv 6))))))))), ?_⟩
    dsimp only [cxOf, Cx.nox]
    walk_at "wf"
    show Q (.int ((G.map shapeV).length : Nat)) _
    rw [List.length_map]
    refine k _ ⟨by walk_at "hp", by rw [List.map_append]; walk_at "hp", by rw [List.map_append]; walk_at "hp", by rw [List.map_append]; walk_at "hp", by rw [List.map_append]; walk_at "hp", by rw [wts_app, List.map_append]; walk_at "hp",
      by walk_at "hp", by walk_at "hp", by walk_at "hp", n12, n13, n14, n15, n23, n24, n25, n34, n35, n45, n67⟩ ?_
    exact ((((((Kp.refl H).at (by simp [foot])).at (by simp [foot])).at (by simp [foot])).at (by simp [foot])).at (by simp [foot]))
/-- behind an interning: the id holds the node -/
def spIn (C : Addr) (d : Nd) (z : Hz) (G : List Nd) (H : Hp) (Q : VK) : Prop := ∀ (i : Nat) (G' : List Nd) (H' : Hp), HA C H' z G' G' → WF G' → Ext G G' → G'.length ≤ G.length + 1 → G'[i]? = some d → Kp (foot z) H H' → Q (.int (i : Int)) H'
def spNumber (C : Addr) : Sp := fun vs H Q _ => ∃ (z : Hz) (G : List Nd) (n : Nat), vs = [.ref z.p, .int (n : Int)] ∧ HA C H z G G ∧ WF G ∧ G.length < 16000000 ∧ n ≤ 9999 ∧ spIn C (.num n) z G H Q
theorem ok_Heap_number (T : Txt K mg) : FnOk P w K mg base CX0 2 T.a_Heap_number T.d_Heap_number ["self", "n"] (spNumber T.C_Heap) := by
  refine T.Heap_number.fn.ok sc_Heap_number (fun vs H Q E h => ?_) (fun cdv A outer s H vs Q E hr h => ?_)
  · obtain ⟨z, G, n, rfl, _⟩ := h
    rfl
  · obtain ⟨z, G, n, rfl, hA, wf, hl, hn, k⟩ := h
    obtain ⟨ob, l1, l2, l3, l4, l5, d6, d7, d8, n12, n13, n14, n15, n23, n24, n25, n34, n35, n45, n67⟩ := id hA
    have hu := hu_of hr
    refine ⟨_, (pss_cons (ps_set (i := 2) sc_Heap_number.nd rfl (Or.inl rfl) (pe_dget1 hu (pe_fld (pv 0) rfl) (pv 1) ⟨rfl, rfl, rfl, rfl⟩))
      (pss_cons (ps_if (pt_cmpR op_isN (pv 2) pe_non (nomark _)) (pss_cons (ps_set (i := 2) sc_Heap_number.nd rfl (Or.inl rfl) (pe_meth (pv 0) T.cl_Heap T.Heap_new.me (ok_Heap_new (P := P) (w := w) (base := base) T) (hr.mono (by decide)) T.Heap_new.b .nil pass0 (pa_cons (pe_glob (v := .int 1) rfl T.c_NUMBER ⟨_, rfl⟩) (pa_cons (pv 1) (pa_cons (pe_glob (v := .int 0) rfl T.c_NIL ⟨_, rfl⟩) (pa_cons (pe_glob (v := .int 0) rfl T.c_NIL ⟨_, rfl⟩) (pa_cons pe_int pa_nil)))))))
      (pss_one (ps_dput hu (pe_fld (pv 0) rfl) (pv 1) (pv 2) rfl))) pss_nil)
      (pss_one (ps_ret (pv 2))))), ?_⟩
    dsimp only [cxOf, Cx.nox]
    walk_at "wf"
    refine ⟨.inl ⟨_, .inl d6⟩, ?_⟩
    walk_at "wf"
    refine ⟨_, DGet.k (k := Sum.inl (n : Int)) d6, ?_⟩
    walk_at "wf"
    cases e : valV (keyed fnum 0 G) (Sum.inl (n : Int) : Key) with
    | some v =>
      obtain ⟨i, d, h1, h2, rfl⟩ := keyed_some e
      refine iteF ?_
      walk_at "wf"
      rw [fnum_eq h2] at h1
      have := k i G H hA wf (.refl G) (by omega) h1 (.refl H)
      simpa using this
    | none =>
      refine iteT ?_
      walk_at "wf"
      refine ⟨_, _, _, rfl, ob, hz_no_new _, ?_⟩
      walk_at "wf"
      refine ⟨z, G, G, .num n, rfl, hA, hl, fun H1 hA1 k1 => ?_⟩
      have ob1 := hA1.ob
      walk_at "wf"
      refine ⟨_, _, rfl, DPut.k (k := Sum.inl (n : Int)) hA1.d6 (Nat.lt_of_le_of_lt (keyed_len _ _ _) (by show G.length < 16777216; omega)), ?_⟩
      walk_at "wf"
      exact k _ _ _ (hA1.put6 e) (wf.snoc (fun hd => keyed_none e _ hd rfl) hn) (.snoc G _) (by simp) (get_new G _) (k1.at (by simp [foot]))
def spName (C : Addr) : Sp := fun vs H Q _ => ∃ (z : Hz) (G : List Nd) (n : List Nat), vs = [.ref z.p, .str (SX.S n)] ∧ HA C H z G G ∧ WF G ∧ G.length < 16000000 ∧ nmOk n = true ∧ spIn C (.nam n) z G H Q
theorem ok_Heap_name (T : Txt K mg) : FnOk P w K mg base CX0 2 T.a_Heap_name T.d_Heap_name ["self", "text"] (spName T.C_Heap) := by
  refine T.Heap_name.fn.ok sc_Heap_name (fun vs H Q E h => ?_) (fun cdv A outer s H vs Q E hr h => ?_)
  · obtain ⟨z, G, n, rfl, _⟩ := h
    rfl
  · obtain ⟨z, G, n, rfl, hA, wf, hl, hn, k⟩ := h
    obtain ⟨ob, l1, l2, l3, l4, l5, d6, d7, d8, n12, n13, n14, n15, n23, n24, n25, n34, n35, n45, n67⟩ := id hA
    have hu := hu_of hr
    refine ⟨_, (pss_cons (ps_set (i := 2) sc_Heap_name.nd rfl (Or.inl rfl) (pe_dget1 hu (pe_fld (pv 0) rfl) (pv 1) ⟨rfl, rfl, rfl, rfl⟩))
      (pss_cons (ps_if (pt_cmpR op_isN (pv 2) pe_non (nomark _)) (pss_cons (ps_set (i := 2) sc_Heap_name.nd rfl (Or.inl rfl) (pe_meth (pv 0) T.cl_Heap T.Heap_new.me (ok_Heap_new (P := P) (w := w) (base := base) T) (hr.mono (by decide)) T.Heap_new.b .nil pass0 (pa_cons (pe_glob (v := .int 2) rfl T.c_NAME ⟨_, rfl⟩) (pa_cons (pv 1) (pa_cons (pe_glob (v := .int 0) rfl T.c_NIL ⟨_, rfl⟩) (pa_cons (pe_glob (v := .int 0) rfl T.c_NIL ⟨_, rfl⟩) (pa_cons pe_int pa_nil)))))))
      (pss_one (ps_dput hu (pe_fld (pv 0) rfl) (pv 1) (pv 2) rfl))) pss_nil)
      (pss_one (ps_ret (pv 2))))), ?_⟩
    dsimp only [cxOf, Cx.nox]
    walk_at "wf"
    refine ⟨.inl ⟨_, .inl d7⟩, ?_⟩
    walk_at "wf"
    refine ⟨_, DGet.k (k := Sum.inr (SX.S n)) d7, ?_⟩
    walk_at "wf"
    cases e : valV (keyed fnam 0 G) (Sum.inr (SX.S n) : Key) with
    | some v =>
      obtain ⟨i, d, h1, h2, rfl⟩ := keyed_some e
      refine iteF ?_
      walk_at "wf"
      rw [fnam_eq h2] at h1
      have := k i G H hA wf (.refl G) (by omega) h1 (.refl H)
      simpa using this
    | none =>
      refine iteT ?_
      walk_at "wf"
      refine ⟨_, _, _, rfl, ob, hz_no_new _, ?_⟩
      walk_at "wf"
      refine ⟨z, G, G, .nam n, rfl, hA, hl, fun H1 hA1 k1 => ?_⟩
      have ob1 := hA1.ob
      walk_at "wf"
      refine ⟨_, _, rfl, DPut.k (k := Sum.inr (SX.S n)) hA1.d7 (Nat.lt_of_le_of_lt (keyed_len _ _ _) (by show G.length < 16777216; omega)), ?_⟩
      walk_at "wf"
      exact k _ _ _ (hA1.put7 e) (wf.snoc (fun hd => keyed_none e _ hd rfl) hn) (.snoc G _) (by simp) (get_new G _) (k1.at (by simp [foot]))
def spPair (C : Addr) : Sp := fun vs H Q _ => ∃ (z : Hz) (G : List Nd) (i j : Nat), vs = [.ref z.p, .int (i : Int), .int (j : Int)] ∧ HA C H z G G ∧ WF G ∧ G.length < 16000000 ∧ i < G.length ∧ j < G.length ∧ spIn C (.pr i j) z G H Q
theorem ok_Heap_pair (T : Txt K mg) : FnOk P w K mg base CX0 2 T.a_Heap_pair T.d_Heap_pair ["self", "first", "second"] (spPair T.C_Heap) := by
  refine T.Heap_pair.fn.ok sc_Heap_pair (fun vs H Q E h => ?_) (fun cdv A outer s H vs Q E hr h => ?_)
  · obtain ⟨z, G, i, j, rfl, _⟩ := h
    rfl
  · obtain ⟨z, G, i, j, rfl, hA0, wf, hl, hi, hj, k⟩ := h
    have hu := hu_of hr
    refine ⟨_, (pss_cons (ps_set (i := 3) sc_Heap_pair.nd rfl (Or.inl rfl) (pe_tup (pa_cons (pv 1) (pa_cons (pv 2) pa_nil))))
      (pss_cons (ps_set (i := 4) sc_Heap_pair.nd rfl (Or.inl rfl) (pe_dget1 hu (pe_fld (pv 0) rfl) (pv 3) ⟨rfl, rfl, rfl, rfl⟩))
      (pss_cons (ps_if (pt_cmpR op_isN (pv 4) pe_non (nomark _)) (pss_cons (ps_set (i := 5) sc_Heap_pair.nd rfl (Or.inl rfl) (pe_callB (call_min2 rfl) (by rfl) T.b_min (by decide +kernel) (pa_cons (pe_glob (v := .int 100001) rfl T.c_HEAVY ⟨_, rfl⟩) (pa_cons (pe_op op_add (pe_ix ix_list (pe_fld (pv 0) rfl) (pv 1) (fun _ _ => rfl)) (pe_ix ix_list (pe_fld (pv 0) rfl) (pv 2) (fun _ _ => rfl))) pa_nil))))
      (pss_cons (ps_set (i := 4) sc_Heap_pair.nd rfl (Or.inl rfl) (pe_meth (pv 0) T.cl_Heap T.Heap_new.me (ok_Heap_new (P := P) (w := w) (base := base) T) (hr.mono (by decide)) T.Heap_new.b .nil pass0 (pa_cons (pe_glob (v := .int 3) rfl T.c_PAIR ⟨_, rfl⟩) (pa_cons pe_non (pa_cons (pv 1) (pa_cons (pv 2) (pa_cons (pv 5) pa_nil)))))))
      (pss_one (ps_dput hu (pe_fld (pv 0) rfl) (pv 3) (pv 4) rfl)))) pss_nil)
      (pss_one (ps_ret (pv 4)))))), ?_⟩
    dsimp only [cxOf, Cx.nox]
    walk_at "wf"
    refine ⟨(show 2 ≤ sizeLine by decide), fun t ht => ?_⟩
    have hA := hA0.new (o := .tup [.int (i : Int), .int (j : Int)]) ht
    have ht1 : upd H t (.tup [.int (i : Int), .int (j : Int)]) t = some (.tup (([Sum.inl (i : Int), Sum.inl (j : Int)] : List Key).map kV)) := upd_same
    obtain ⟨ob, l1, l2, l3, l4, l5, d6, d7, d8, n12, n13, n14, n15, n23, n24, n25, n34, n35, n45, n67⟩ := id hA
    walk_at "wf"
    refine ⟨.inr ⟨_, .inl d8⟩, ?_⟩
    walk_at "wf"
    refine ⟨_, DGet.t d8 ht1, ?_⟩
    walk_at "wf"
    cases e : valV (keyed fpr 0 G) ([Sum.inl (i : Int), Sum.inl (j : Int)] : List Key) with
    | some v =>
      obtain ⟨i, d, h1, h2, rfl⟩ := keyed_some e
      refine iteF ?_
      walk_at "wf"
      rw [fpr_eq h2] at h1
      have := k i G _ hA wf (.refl G) (by omega) h1 ((Kp.refl H).new ht)
      simpa using this
    | none =>
      refine iteT ?_
      have g1 : ((wts G).map V.int)[i]? = some (.int ((wts G).getD i 0)) := wts_get hi
      have g2 : ((wts G).map V.int)[j]? = some (.int ((wts G).getD j 0)) := wts_get hj
      walk_at "wf"
      refine ⟨_, _, _, rfl, ob, hz_no_new _, ?_⟩
      walk_at "wf"
      refine ⟨z, G, G, .pr i j, rfl, hA, hl, fun H1 hA1 k1 => ?_⟩
      have ob1 := hA1.ob
      walk_at "wf"
      have nt : t ∉ foot z := fun q => by
        simp only [foot, List.mem_cons, List.not_mem_nil, or_false] at q
        rcases q with q | q | q | q | q | q | q | q <;> subst q
        · rw [hA0.l1] at ht; cases ht
        · rw [hA0.l2] at ht; cases ht
        · rw [hA0.l3] at ht; cases ht
        · rw [hA0.l4] at ht; cases ht
        · rw [hA0.l5] at ht; cases ht
        · rw [hA0.d6] at ht; cases ht
        · rw [hA0.d7] at ht; cases ht
        · rw [hA0.d8] at ht; cases ht
      refine ⟨_, _, rfl, DPut.t hA1.d8 (k1 _ _ nt ht1) (Nat.lt_of_le_of_lt (keyed_len _ _ _) (by show G.length < 16777216; omega)), ?_⟩
      walk_at "wf"
      exact k _ _ _ (hA1.put8 e) (wf.snoc (fun hd => keyed_none e _ hd rfl) ⟨hi, hj⟩) (.snoc G _) (by simp) (get_new G _) ((((Kp.refl H).new ht).trans k1).at (by simp [foot]))
end
end Wh
set_option Elab.async false
set_option linter.all false
set_option maxRecDepth 100000
set_option maxHeartbeats 4000000
/-! The class Heap: reading a node, lists. -/
namespace Wh
open PySem L2 PySem.Spec PyProof.Rows
local macro_rules | `(tactic| walk_at "ne") => `(tactic| first | with_reducible assumption | (apply Ne.symm; with_reducible assumption))
local macro_rules | `(tactic| walk_at "hp") => `(tactic| first | with_reducible assumption | with_reducible exact upd_same | ((with_reducible refine (upd_ne ?n).trans ?h); (case n => walk_at "ne"); (case h => walk_at "hp")) | ((with_reducible show upd _ _ _ _ = _); exact upd_same))
local macro_rules | `(tactic| walk_at "cond") => `(tactic| first | with_reducible assumption | exact (rfl : (_ : Bool) = true) | ((try dsimp only) <;> first | with_reducible assumption | decide | omega) | exact ⟨by first | decide | omega, by first | decide | omega⟩ | exact .inr ⟨by decide, by decide⟩)
local macro_rules | `(tactic| walk_at "sz") => `(tactic| first | with_reducible assumption | (show _ ≤ 16777216; omega))
local macro_rules | `(tactic| walk_at "at") => `(tactic| first | with_reducible assumption | exact atI_nat (by with_reducible assumption) | exact atI_nat (j := 0) (rfl : (_ : Option Nat) = some _) | exact atI_nat (by assumption))
local macro_rules | `(tactic| walk_at "w1") => `(tactic| (fail_if_success with_reducible show @ite _ _ _ _ _); first
  | refine ⟨_, rfl, ?_⟩
  | refine ⟨_, _, (rfl : _ = V.int _), (rfl : _ = V.int _), And.intro (by walk_at "cond") ?_⟩
  | refine ⟨_, _, (rfl : _ = V.int _), (rfl : _ = V.int _), ?_⟩
  | refine ⟨_, _, (rfl : _ = V.str _), (rfl : _ = V.str _), And.intro (by walk_at "sz") ?_⟩
  | refine ⟨_, _, (rfl : _ = V.str _), (rfl : _ = V.str _), ?_⟩
  | refine ⟨_, _, _, _, (rfl : _ = V.ref _), (rfl : _ = V.int _), SqL.of (by walk_at "hp"), rfl, ?_⟩
  | refine ⟨_, _, _, _, (rfl : _ = V.ref _), (rfl : _ = V.int _), (by walk_at "hp"), rfl, ?_⟩
  | refine ⟨Or.inl ⟨rfl, _, SqL.of (by walk_at "hp")⟩, ?_⟩
  | refine ⟨_, _, _, (rfl : _ = V.ref _), (rfl : (_ : List V) = _), (by walk_at "hp"), (by with_reducible assumption), ?_⟩
  | refine ⟨_, _, (rfl : (_ : List V) = _), Or.inl (SqL.of (by walk_at "hp")), ?_⟩
  | refine ⟨_, _, _, _, (rfl : _ = V.ref _), (rfl : _ = V.int _), SqL.of (by walk_at "hp"), atI_nat (by with_reducible assumption), ?_⟩
  | refine ⟨_, _, _, (rfl : _ = V.str _), (rfl : _ = V.int _), (by walk_at "sz"), (by walk_at "at"), ?_⟩
  | refine ⟨_, _, (rfl : (_ : List V) = [V.str _]), SX.int_S (by assumption) (by simp) (by assumption), (by assumption), ?_⟩
  | refine ⟨_, _, (rfl : (_ : List V) = [_, _]), ?_⟩
  | refine ⟨(rfl : (_ : Bool) = true), ?_⟩
  | refine ⟨(rfl : (_ : V) = V.non), ?_⟩
  | refine And.intro (by walk_at "sz") ?_
  | refine .inl ⟨_, rfl, ?_⟩)
local macro_rules | `(tactic| walk_at "w") => `(tactic| repeat walk_at "w1")
local macro_rules | `(tactic| walk_at "fld") => `(tactic| (fail_if_success with_reducible show @ite _ _ _ _ _); first
  | refine ⟨_, _, _, _, _, (rfl : _ = V.ref _), (by walk_at "hp"), Txt.cl_Heap _, Txt.nf__shapes _, hz_shapes _, ?_⟩
  | refine ⟨_, _, _, _, _, (rfl : _ = V.ref _), (by walk_at "hp"), Txt.cl_Heap _, Txt.nf__faces _, hz_faces _, ?_⟩
  | refine ⟨_, _, _, _, _, (rfl : _ = V.ref _), (by walk_at "hp"), Txt.cl_Heap _, Txt.nf__firsts _, hz_firsts _, ?_⟩
  | refine ⟨_, _, _, _, _, (rfl : _ = V.ref _), (by walk_at "hp"), Txt.cl_Heap _, Txt.nf__seconds _, hz_seconds _, ?_⟩
  | refine ⟨_, _, _, _, _, (rfl : _ = V.ref _), (by walk_at "hp"), Txt.cl_Heap _, Txt.nf__hefts _, hz_hefts _, ?_⟩
  | refine ⟨_, _, _, _, _, (rfl : _ = V.ref _), (by walk_at "hp"), Txt.cl_Heap _, Txt.nf__numbers _, hz_numbers _, ?_⟩
  | refine ⟨_, _, _, _, _, (rfl : _ = V.ref _), (by walk_at "hp"), Txt.cl_Heap _, Txt.nf__names _, hz_names _, ?_⟩
  | refine ⟨_, _, _, _, _, (rfl : _ = V.ref _), (by walk_at "hp"), Txt.cl_Heap _, Txt.nf__pairs _, hz_pairs _, ?_⟩)
local macro_rules | `(tactic| walk_at "wf") => `(tactic| repeat first | walk_at "w1" | walk_at "fld")
section
variable {P : Program} {w : World} {K : PySem.W.Frag} {mg : Str → Option Value} {base : Heap}
theorem map_get {α β : Type} (f : α → β) {G : List α} {i : Nat} {d : α} (h : G[i]? = some d) : (G.map f)[i]? = some (f d) := by rw [List.getElem?_map, h]; rfl
/-- a look at a node -/
def spLook (C : Addr) (f : Nd → V) : Sp := fun vs H Q _ => ∃ (z : Hz) (G D : List Nd) (i : Nat) (d : Nd), vs = [.ref z.p, .int (i : Int)] ∧ HA C H z G D ∧ G[i]? = some d ∧ Q (f d) H
theorem ok_Heap_shape (T : Txt K mg) : FnOk P w K mg base CX0 1 T.a_Heap_shape T.d_Heap_shape ["self", "value"] (spLook T.C_Heap shapeV) := by
  refine T.Heap_shape.fn.ok sc_Heap_shape (fun vs H Q E h => ?_) (fun cdv A outer s H vs Q E hr h => ?_)
  · obtain ⟨z, G, D, i, d, rfl, _⟩ := h
    rfl
  · obtain ⟨z, G, D, i, d, rfl, hA, hd, k⟩ := h
    obtain ⟨ob, l1, l2, l3, l4, l5, d6, d7, d8, n12, n13, n14, n15, n23, n24, n25, n34, n35, n45, n67⟩ := id hA
    have g := map_get shapeV hd
    refine ⟨_, (pss_one (ps_ret (pe_ix ix_list (pe_fld (pv 0) rfl) (pv 1) (fun _ _ => rfl)))), ?_⟩
    dsimp only [cxOf, Cx.nox]
    walk_at "wf"
    exact k
theorem ok_Heap_face (T : Txt K mg) : FnOk P w K mg base CX0 1 T.a_Heap_face T.d_Heap_face ["self", "value"] (spLook T.C_Heap faceV) := by
  refine T.Heap_face.fn.ok sc_Heap_face (fun vs H Q E h => ?_) (fun cdv A outer s H vs Q E hr h => ?_)
  · obtain ⟨z, G, D, i, d, rfl, _⟩ := h
    rfl
  · obtain ⟨z, G, D, i, d, rfl, hA, hd, k⟩ := h
    obtain ⟨ob, l1, l2, l3, l4, l5, d6, d7, d8, n12, n13, n14, n15, n23, n24, n25, n34, n35, n45, n67⟩ := id hA
    have g := map_get faceV hd
    refine ⟨_, (pss_one (ps_ret (pe_ix ix_list (pe_fld (pv 0) rfl) (pv 1) (fun _ _ => rfl)))), ?_⟩
    dsimp only [cxOf, Cx.nox]
    walk_at "wf"
    exact k
theorem ok_Heap_first (T : Txt K mg) : FnOk P w K mg base CX0 1 T.a_Heap_first T.d_Heap_first ["self", "value"] (spLook T.C_Heap firstV) := by
  refine T.Heap_first.fn.ok sc_Heap_first (fun vs H Q E h => ?_) (fun cdv A outer s H vs Q E hr h => ?_)
  · obtain ⟨z, G, D, i, d, rfl, _⟩ := h
    rfl
  · obtain ⟨z, G, D, i, d, rfl, hA, hd, k⟩ := h
    obtain ⟨ob, l1, l2, l3, l4, l5, d6, d7, d8, n12, n13, n14, n15, n23, n24, n25, n34, n35, n45, n67⟩ := id hA
    have g := map_get firstV hd
    refine ⟨_, (pss_one (ps_ret (pe_ix ix_list (pe_fld (pv 0) rfl) (pv 1) (fun _ _ => rfl)))), ?_⟩
    dsimp only [cxOf, Cx.nox]
    walk_at "wf"
    exact k
theorem ok_Heap_second (T : Txt K mg) : FnOk P w K mg base CX0 1 T.a_Heap_second T.d_Heap_second ["self", "value"] (spLook T.C_Heap secondV) := by
  refine T.Heap_second.fn.ok sc_Heap_second (fun vs H Q E h => ?_) (fun cdv A outer s H vs Q E hr h => ?_)
  · obtain ⟨z, G, D, i, d, rfl, _⟩ := h
    rfl
  · obtain ⟨z, G, D, i, d, rfl, hA, hd, k⟩ := h
    obtain ⟨ob, l1, l2, l3, l4, l5, d6, d7, d8, n12, n13, n14, n15, n23, n24, n25, n34, n35, n45, n67⟩ := id hA
    have g := map_get secondV hd
    refine ⟨_, (pss_one (ps_ret (pe_ix ix_list (pe_fld (pv 0) rfl) (pv 1) (fun _ _ => rfl)))), ?_⟩
    dsimp only [cxOf, Cx.nox]
    walk_at "wf"
    exact k
theorem Kp.seq {K : PySem.W.Frag} {F : List Addr} {H H' : Hp} {a : Addr} {xs : List V} (e : Kp F H H') (n : a ∉ F) (h : SqL K H a xs) : SqL K H' a xs := by
  rcases h with (h | ⟨o, h⟩) | h
  · exact .inl (.inl (e _ _ n h))
  · exact .inl (.inr ⟨o, e _ _ n h⟩)
  · exact .inr h
theorem paired_len {α β : Type} {F : α → β → Prop} : ∀ {l : List α} {m : List β}, Paired F l m → l.length = m.length
  | _, _, .nil => rfl
  | _, _, .cons _ r => by simp [paired_len r]
theorem paired_at {α β : Type} {F : α → β → Prop} : ∀ {l : List α} {m : List β} {i : Nat} {b : β}, Paired F l m → m[i]? = some b → ∃ a, l[i]? = some a ∧ F a b
  | _, _, _, _, .nil, h => by simp at h
  | _, _, 0, _, .cons f _, h => by simp at h; subst h; exact ⟨_, rfl, f⟩
  | _, _, i + 1, _, .cons _ r, h => by simp at h; simpa using paired_at r h
theorem paired_imp {α β : Type} {F G : α → β → Prop} (k : ∀ a b, F a b → G a b) : ∀ {l : List α} {m : List β}, Paired F l m → Paired G l m
  | _, _, .nil => .nil
  | _, _, .cons f r => .cons (k _ _ f) (paired_imp k r)
theorem Kp.list {K : PySem.W.Frag} {F : List Addr} {H H' : Hp} {a : Addr} {xs : List V} (k : Kp F H H') (n : a ∉ F) (h : H a = some (.lst xs)) : H' a = some (.lst xs) := k _ _ n h
theorem ivs_len (ids : List Nat) : (ivs ids).length = ids.length := by unfold ivs; rw [List.length_map]
theorem iteNN {c A B : Prop} [Decidable c] (hc : ¬ c) (h : A) : if (!decide c) = true then A else B := by
  rw [decide_eq_false hc]
  exact iteT h
theorem iteND {c A B : Prop} [Decidable c] (h1 : ¬ c → A) (h2 : c → B) : if (!decide c) = true then A else B := by
  by_cases h : c
  · exact iteNS h (h2 h)
  · exact iteNN h (h1 h)
def spListed (K : PySem.W.Frag) (C : Addr) : Sp := fun vs H Q _ => ∃ (z : Hz) (G : List Nd) (a : Addr) (ids : List Nat) (ts : List Tr), vs = [.ref z.p, .ref a] ∧ HA C H z G G ∧ WF G ∧ SqL K H a (ivs ids) ∧ a ∉ foot z ∧
  Paired (Den G) ts ids ∧ G.length + ids.length < 16000000 ∧
  ∀ (i : Nat) (G' : List Nd) (H' : Hp), HA C H' z G' G' → WF G' → Ext G G' → G'.length ≤ G.length + ids.length → Den G' (mkl ts) i → Kp (foot z) H H' → Q (.int (i : Int)) H'
theorem ok_Heap_listed (T : Txt K mg) : FnOk P w K mg base CX0 3 T.a_Heap_listed T.d_Heap_listed ["self", "ids"] (spListed K T.C_Heap) := by
  refine T.Heap_listed.fn.ok sc_Heap_listed (fun vs H Q E h => ?_) (fun cdv A outer s H vs Q E hr h => ?_)
  · obtain ⟨z, G, a, ids, ts, rfl, _⟩ := h
    rfl
  · obtain ⟨z, G, a, ids, ts, rfl, hA, wf, hS, na, hP, hl, k⟩ := h
    refine ⟨_, (pss_cons (ps_set (i := 2) sc_Heap_listed.nd rfl (Or.inl rfl) (pe_glob (v := .int 0) rfl T.c_NIL ⟨_, rfl⟩))
      (pss_cons (ps_for PassesOwn.never rfl (pi_reversed (by rfl) T.b_reversed (pa_cons (pv 1) pa_nil)) (pg_name (i := 3) sc_Heap_listed.nd rfl (Or.inl rfl)) (pss_one (ps_set (i := 2) sc_Heap_listed.nd rfl (Or.inl rfl) (pe_meth (pv 0) T.cl_Heap T.Heap_pair.me (ok_Heap_pair (P := P) (w := w) (base := base) T) (hr.mono (by decide)) T.Heap_pair.b .nil pass0 (pa_cons (pv 3) (pa_cons (pv 2) pa_nil))))))
      (pss_one (ps_ret (pv 2))))), ?_⟩
    dsimp only [cxOf, Cx.nox]
    walk_at "wf"
    refine ⟨_, _, rfl, hS, RT.for_Itv (K := K) (a := a) (xs := ivs ids) (fun i σ H1 => ∃ (v : Nat) (G1 : List Nd) (m : Option V), σ = [some (.ref z.p), some (.ref a), some (.int (v : Int)), m] ∧
      HA T.C_Heap H1 z G1 G1 ∧ WF G1 ∧ Ext G G1 ∧ G1.length ≤ G.length + i ∧ Den G1 (mkl (ts.drop (ts.length - i))) v ∧ Kp (foot z) H H1) ?_ ?_ ?_ ?_⟩
    · exact ⟨0, G, none, rfl, hA, wf, .refl G, Nat.le_refl _, by rw [Nat.sub_zero, List.drop_length]; exact wf.z, .refl H⟩
    · rintro i σ H1 ⟨v, G1, m, rfl, hA1, wf1, ex, le, den, kp⟩
      exact kp.seq na hS
    · rintro i x σ H1 hi hx ⟨v, G1, m, rfl, hA1, wf1, ex, le, den, kp⟩
      rw [ivs_len] at hi hx
      unfold ivs at hx
      rw [List.getElem?_map] at hx
      cases e : ids[ids.length - 1 - i]? with
      | none => rw [e] at hx; cases hx
      | some y =>
        rw [e] at hx
        cases hx
        obtain ⟨t, ht, dt⟩ := paired_at hP e
        have ob1 := hA1.ob
        walk_at "wf"
        refine ⟨_, _, _, rfl, ob1, hz_no_pair _, ?_⟩
        walk_at "wf"
        have dt1 := dt.mono ex
        refine ⟨z, G1, y, v, rfl, hA1, wf1, by omega, dt1.lt, den.lt, fun j G2 H2 hA2 wf2 ex2 le2 nd kp2 => ?_⟩
        walk_at "wf"
        refine ⟨j, G2, _, rfl, hA2, wf2, ex.trans ex2, by omega, ?_, kp.trans kp2⟩
        have hlen := paired_len hP
        have e1 : ts.length - i = (ts.length - (i + 1)) + 1 := by omega
        have e2 : ts.drop (ts.length - (i + 1)) = t :: ts.drop (ts.length - i) := by
          rw [e1]
          have h3 : ts.length - (i + 1) < ts.length := by omega
          rw [List.drop_eq_getElem_cons h3]
          congr 1
          rw [show ids.length - 1 - i = ts.length - (i + 1) from by omega, List.getElem?_eq_getElem h3] at ht
          exact Option.some.inj ht
        rw [e2]
        exact ⟨y, v, nd, dt1.mono ex2, den.mono ex2⟩
    · rintro σ H1 ⟨v, G1, m, rfl, hA1, wf1, ex, le, den, kp⟩
      rw [ivs_len] at le den
      walk_at "wf"
      have hlen := paired_len hP
      rw [show ts.length - ids.length = 0 from by omega, List.drop_zero] at den
      exact k v G1 H1 hA1 wf1 ex le den kp
def natAt (i : Nat) (σ : L2.St) : Nat := match σ[i]? with
  | some (some (.int v)) => v.toNat
  | _ => 0
def spSpread (C : Addr) : Sp := fun vs H Q _ => ∃ (z : Hz) (G : List Nd) (i : Nat) (t : Tr), vs = [.ref z.p, .int (i : Int)] ∧ HA C H z G G ∧ WF G ∧ Den G t i ∧ Pr t ∧ G.length < 16000000 ∧
  (isL t = false → Q .non H) ∧ (isL t = true → ∀ (p : Addr) (ids : List Nat) (H' : Hp), H p = none → Paired (Den G) (spread t) ids → H' p = some (.lst (ivs ids)) → Kp [] H H' → Q (.ref p) H')
theorem ok_Heap_spread (T : Txt K mg) : FnOk P w K mg base CX0 1 T.a_Heap_spread T.d_Heap_spread ["self", "value"] (spSpread T.C_Heap) := by
  refine T.Heap_spread.fn.ok sc_Heap_spread (fun vs H Q E h => ?_) (fun cdv A outer s H vs Q E hr h => ?_)
  · obtain ⟨z, G, i, t, rfl, _⟩ := h
    rfl
  · obtain ⟨z, G, i, t, rfl, hA, wf, den, pr, hl, k0, k1⟩ := h
    obtain ⟨ob, l1, l2, l3, l4, l5, d6, d7, d8, n12, n13, n14, n15, n23, n24, n25, n34, n35, n45, n67⟩ := id hA
    obtain ⟨d, hd, hdt⟩ := den.node
    have g2 := map_get faceV hd
    refine ⟨_, (pss_cons (ps_if (pt_cmpR op_notN (pe_ix ix_list (pe_fld (pv 0) rfl) (pv 1) (fun _ _ => rfl)) pe_non (nomark _)) (pss_one (ps_ret pe_non)) pss_nil)
      (pss_cons (ps_set (i := 2) sc_Heap_spread.nd rfl (Or.inl rfl) (pe_lst pa_nil))
      (pss_cons (ps_while PassesOwn.never (pt_cmpR op_ne (pv 1) (pe_glob (v := .int 0) rfl T.c_NIL ⟨_, rfl⟩) (nomark _)) (pss_cons (ps_expr (pe_bm PySem.F.plainAttrs_list PySem.F.slot_list_append PySem.F.type_list_append mt_append (pv 2) (pa_cons (pe_ix ix_list (pe_fld (pv 0) rfl) (pv 1) (fun _ _ => rfl)) pa_nil)))
      (pss_one (ps_set (i := 1) sc_Heap_spread.nd rfl (Or.inl rfl) (pe_ix ix_list (pe_fld (pv 0) rfl) (pv 1) (fun _ _ => rfl))))))
      (pss_one (ps_ret (pv 2)))))), ?_⟩
    dsimp only [cxOf, Cx.nox]
    walk_at "wf"
    have lists : isL t = true → faceV d = V.non := fun hL => by
      cases t with
      | nil => cases hdt; rfl
      | cons a b => obtain ⟨x, y, rfl, _⟩ := hdt; rfl
      | _ => cases hL
    have others : isL t = false → ¬ faceV d = V.non := fun hL => by
      cases t with
      | nil => cases hL
      | cons a b => cases hL
      | num n => cases hdt; simp [faceV]
      | nam n => cases hdt; simp [faceV]
    cases hL : isL t with
    | false =>
      refine iteNN (others hL) ?_
      walk_at "wf"
      exact k0 hL
    | true =>
      refine iteNS (lists hL) ?_
      walk_at "wf"
      refine ⟨Nat.zero_le _, fun p hp => ?_⟩
      walk_at "wf"
      refine while_by (fun σ H1 => ∃ (v : Nat) (ids : List Nat) (rest : Tr), σ = [some (.ref z.p), some (.int (v : Int)), some (.ref p)] ∧ Den G rest v ∧ isL rest = true ∧ Pr rest ∧
        (∃ done, spread t = done ++ spread rest ∧ Paired (Den G) done ids) ∧ H1 p = some (.lst (ivs ids)) ∧ Kp [] H H1 ∧ ids.length + v ≤ i) (fun σ _ => natAt 1 σ) ?_ ?_ ?_
      · exact ⟨i, [], t, rfl, den, hL, pr, ⟨[], rfl, .nil⟩, upd_same, (Kp.refl H).new hp, by simp⟩
      · rintro σ H1 ⟨v, ids, rest, rfl, dr, lr, prr, ⟨done, ed, pd⟩, hp1, kp, le⟩
        have hA1 := hA.same kp.same
        have ob1 := hA1.ob
        have l3' := hA1.l3
        have l4' := hA1.l4
        walk_at "wf"
        refine iteND (fun c => ?_) (fun c => ?_)
        · have v0 : v ≠ 0 := fun q => c (by rw [q]; rfl)
          cases rest with
          | nil => exact absurd (wf.nil_at dr) v0
          | num n => cases lr
          | nam n => cases lr
          | cons a b =>
            obtain ⟨x, y, hn, da, db⟩ := dr
            have g3 := map_get firstV hn
            have g4 := map_get secondV hn
            have lt := wf.lt v x y hn
            have np1 : z.p ≠ p := fun q => by rw [q, hp1] at ob1; cases ob1
            have np4 : z.a4 ≠ p := fun q => by
              have := hA.l4
              rw [q, hp] at this; cases this
            have sz : (ivs ids).length < sizeLine := by rw [ivs_len]; show _ < 16777216; have := den.lt; omega
            walk_at "wf"
            refine ⟨⟨y, ids ++ [x], b, rfl, db, prr.2.2, prr.2.1, ⟨done ++ [a], ?_, pd.snoc da⟩, ?_, fun c o hc e => ?_, by simp; omega⟩, ?_⟩
            · rw [ed]; simp [spread]
            · unfold ivs; rw [List.map_append]; exact upd_same
            · rw [upd_ne (ne_of_none e hp)]; exact kp c o hc e
            · show Int.toNat (y : Int) < Int.toNat (v : Int); omega
        · have v0 : v = 0 := by simpa using c
          subst v0
          have er : rest = .nil := by
            cases rest with
            | nil => rfl
            | num n => cases lr
            | nam n => cases lr
            | cons a b =>
              obtain ⟨x, y, hn, da, db⟩ := dr
              have := wf.z
              rw [hn] at this; cases this
          subst er
          walk_at "wf"
          refine k1 hL p ids H1 hp ?_ hp1 kp
          rw [ed]; simpa [spread] using pd
      · exact fun _ _ _ _ h ⟨v, e, sc, k, ek, q⟩ => ⟨v, e, sc, k, ek, h _ _ q⟩
end
end Wh
set_option Elab.async false
set_option linter.all false
set_option maxRecDepth 100000
set_option maxHeartbeats 1000000
/-! Reading a text. -/
namespace Wh
open PySem L2 PySem.Spec PyProof.Rows
local macro_rules | `(tactic| walk_at "ne") => `(tactic| first | with_reducible assumption | (apply Ne.symm; with_reducible assumption))
local macro_rules | `(tactic| walk_at "hp") => `(tactic| first | with_reducible assumption | with_reducible exact upd_same | ((with_reducible refine (upd_ne ?n).trans ?h); (case n => walk_at "ne"); (case h => walk_at "hp")) | ((with_reducible show upd _ _ _ _ = _); exact upd_same))
local macro_rules | `(tactic| walk_at "cond") => `(tactic| first | with_reducible assumption | exact (rfl : (_ : Bool) = true) | ((try dsimp only) <;> first | with_reducible assumption | decide | omega) | exact ⟨by first | decide | omega, by first | decide | omega⟩ | exact .inr ⟨by decide, by decide⟩)
local macro_rules | `(tactic| walk_at "sz") => `(tactic| first | with_reducible assumption | (show _ ≤ 16777216; omega))
local macro_rules | `(tactic| walk_at "at") => `(tactic| first | with_reducible assumption | exact atI_nat (by with_reducible assumption) | exact atI_nat (j := 0) (rfl : (_ : Option Nat) = some _) | exact atI_nat (by assumption))
local macro_rules | `(tactic| walk_at "w1") => `(tactic| (fail_if_success with_reducible show @ite _ _ _ _ _); first
  | refine ⟨_, rfl, ?_⟩
  | refine ⟨_, _, (rfl : _ = V.int _), (rfl : _ = V.int _), And.intro (by walk_at "cond") ?_⟩
  | refine ⟨_, _, (rfl : _ = V.int _), (rfl : _ = V.int _), ?_⟩
  | refine ⟨_, _, (rfl : _ = V.str _), (rfl : _ = V.str _), And.intro (by walk_at "sz") ?_⟩
  | refine ⟨_, _, (rfl : _ = V.str _), (rfl : _ = V.str _), ?_⟩
  | refine ⟨_, _, _, _, (rfl : _ = V.ref _), (rfl : _ = V.int _), SqL.of (by walk_at "hp"), rfl, ?_⟩
  | refine ⟨_, _, _, _, (rfl : _ = V.ref _), (rfl : _ = V.int _), (by walk_at "hp"), rfl, ?_⟩
  | refine ⟨Or.inl ⟨rfl, _, SqL.of (by walk_at "hp")⟩, ?_⟩
  | refine ⟨_, _, _, (rfl : _ = V.ref _), (rfl : (_ : List V) = _), (by walk_at "hp"), (by with_reducible assumption), ?_⟩
  | refine ⟨_, _, (rfl : (_ : List V) = _), Or.inl (SqL.of (by walk_at "hp")), ?_⟩
  | refine ⟨_, _, _, _, (rfl : _ = V.ref _), (rfl : _ = V.int _), SqL.of (by walk_at "hp"), atI_nat (by with_reducible assumption), ?_⟩
  | refine ⟨_, _, _, (rfl : _ = V.str _), (rfl : _ = V.int _), (by walk_at "sz"), (by walk_at "at"), ?_⟩
  | refine ⟨_, _, (rfl : (_ : List V) = [V.str _]), SX.int_S (by assumption) (by simp) (by assumption), (by assumption), ?_⟩
  | refine ⟨_, _, (rfl : (_ : List V) = [_, _]), ?_⟩
  | refine ⟨(rfl : (_ : Bool) = true), ?_⟩
  | refine ⟨(rfl : (_ : V) = V.non), ?_⟩
  | refine And.intro (by walk_at "sz") ?_
  | refine .inl ⟨_, rfl, ?_⟩)
local macro_rules | `(tactic| walk_at "w") => `(tactic| repeat walk_at "w1")
local macro_rules | `(tactic| walk_at "fld") => `(tactic| (fail_if_success with_reducible show @ite _ _ _ _ _); first
  | refine ⟨_, _, _, _, _, (rfl : _ = V.ref _), (by walk_at "hp"), Txt.cl_Heap _, Txt.nf__shapes _, hz_shapes _, ?_⟩
  | refine ⟨_, _, _, _, _, (rfl : _ = V.ref _), (by walk_at "hp"), Txt.cl_Heap _, Txt.nf__faces _, hz_faces _, ?_⟩
  | refine ⟨_, _, _, _, _, (rfl : _ = V.ref _), (by walk_at "hp"), Txt.cl_Heap _, Txt.nf__firsts _, hz_firsts _, ?_⟩
  | refine ⟨_, _, _, _, _, (rfl : _ = V.ref _), (by walk_at "hp"), Txt.cl_Heap _, Txt.nf__seconds _, hz_seconds _, ?_⟩
  | refine ⟨_, _, _, _, _, (rfl : _ = V.ref _), (by walk_at "hp"), Txt.cl_Heap _, Txt.nf__hefts _, hz_hefts _, ?_⟩
  | refine ⟨_, _, _, _, _, (rfl : _ = V.ref _), (by walk_at "hp"), Txt.cl_Heap _, Txt.nf__numbers _, hz_numbers _, ?_⟩
  | refine ⟨_, _, _, _, _, (rfl : _ = V.ref _), (by walk_at "hp"), Txt.cl_Heap _, Txt.nf__names _, hz_names _, ?_⟩
  | refine ⟨_, _, _, _, _, (rfl : _ = V.ref _), (by walk_at "hp"), Txt.cl_Heap _, Txt.nf__pairs _, hz_pairs _, ?_⟩)
local macro_rules | `(tactic| walk_at "wf") => `(tactic| repeat first | walk_at "w1" | walk_at "fld")
theorem iteD {c A B : Prop} [Decidable c] (h1 : c → A) (h2 : ¬ c → B) : if decide c = true then A else B := by
  by_cases h : c
  · rw [if_pos (decide_eq_true h)]
    exact h1 h
  · rw [if_neg (by simpa using h)]
    exact h2 h
theorem iteB {c : Bool} {A B : Prop} (h1 : c = true → A) (h2 : c = false → B) : if c = true then A else B := by
  cases c with
  | true => exact iteT (h1 rfl)
  | false => exact iteF (h2 rfl)
theorem S_cps (l : List Nat) : (SX.S l).cps.toList = l := rfl
theorem c_digits : (Str.ofString "0123456789").cps.toList = [48, 49, 50, 51, 52, 53, 54, 55, 56, 57] := by decide +kernel
theorem c_lower : (Str.ofString "abcdefghijklmnopqrstuvwxyz").cps.toList = [97, 98, 99, 100, 101, 102, 103, 104, 105, 106, 107, 108, 109, 110, 111, 112, 113, 114, 115, 116, 117, 118, 119, 120, 121, 122] := by decide +kernel
theorem c_names : (Str.ofString "abcdefghijklmnopqrstuvwxyz0123456789").cps.toList = [97, 98, 99, 100, 101, 102, 103, 104, 105, 106, 107, 108, 109, 110, 111, 112, 113, 114, 115, 116, 117, 118, 119, 120, 121, 122, 48, 49, 50, 51, 52, 53, 54, 55, 56, 57] := by decide +kernel
theorem c_words : (Str.ofString "abcdefghijklmnopqrstuvwxyzABCDEFGHIJKLMNOPQRSTUVWXYZ0123456789").cps.toList = [97, 98, 99, 100, 101, 102, 103, 104, 105, 106, 107, 108, 109, 110, 111, 112, 113, 114, 115, 116, 117, 118, 119, 120, 121, 122, 65, 66, 67, 68, 69, 70, 71, 72, 73, 74, 75, 76, 77, 78, 79, 80, 81, 82, 83, 84, 85, 86, 87, 88, 89, 90, 48, 49, 50, 51, 52, 53, 54, 55, 56, 57] := by decide +kernel
theorem c_blanks : (Str.ofString " \n").cps.toList = [32, 10] := by decide +kernel
theorem mem_digits (c : Nat) : c ∈ (Str.ofString "0123456789").cps.toList ↔ isDig c = true := by
  rw [c_digits]
  simp only [List.mem_cons, List.not_mem_nil, or_false, isDig, Bool.and_eq_true, decide_eq_true_eq]
  omega
theorem mem_lower (c : Nat) : c ∈ (Str.ofString "abcdefghijklmnopqrstuvwxyz").cps.toList ↔ isLow c = true := by
  rw [c_lower]
  simp only [List.mem_cons, List.not_mem_nil, or_false, isLow, Bool.and_eq_true, decide_eq_true_eq]
  omega
theorem mem_names (c : Nat) : c ∈ (Str.ofString "abcdefghijklmnopqrstuvwxyz0123456789").cps.toList ↔ isNs c = true := by
  rw [c_names]
  simp only [List.mem_cons, List.not_mem_nil, or_false, isNs, isLow, isDig, Bool.or_eq_true, Bool.and_eq_true, decide_eq_true_eq]
  omega
theorem mem_words (c : Nat) : c ∈ (Str.ofString "abcdefghijklmnopqrstuvwxyzABCDEFGHIJKLMNOPQRSTUVWXYZ0123456789").cps.toList ↔ isW c = true := by
  rw [c_words]
  simp only [List.mem_cons, List.not_mem_nil, or_false, isW, isUp, isLow, isDig, Bool.or_eq_true, Bool.and_eq_true, decide_eq_true_eq]
  omega
theorem mem_blanks (c : Nat) : c ∈ (Str.ofString " \n").cps.toList ↔ isB c = true := by
  rw [c_blanks]
  simp [isB]
section
variable {P : Program} {w : World} {K : PySem.W.Frag} {mg : Str → Option Value} {base : Heap}
def spConsists : Sp := fun vs H Q _ => ∃ (l : List Nat) (z : Str), vs = [.str (SX.S l), .str z] ∧ Q (.bl (l.all fun c => decide (c ∈ z.cps.toList))) H
theorem ok_consists_of (T : Txt K mg) : FnOk P w K mg base CX0 1 T.a_consists_of T.d_consists_of ["word", "signs"] spConsists := by
  refine T.consists_of.fn.ok sc_consists_of (fun vs H Q E h => ?_) (fun cdv A outer s H vs Q E hr h => ?_)
  · obtain ⟨l, z, rfl, _⟩ := h
    rfl
  · obtain ⟨l, z, rfl, k⟩ := h
    refine ⟨_, (pss_cons (ps_for PassesOwn.never rfl (pi_str (pv 0)) (pg_name (i := 2) sc_consists_of.nd rfl (Or.inl rfl)) (pss_one (ps_if (pt_cmpR op_notIn_sign (pv 2) (pv 1) rfl) (pss_one (ps_ret pe_bl)) pss_nil)))
      (pss_one (ps_ret pe_bl))), ?_⟩
    try dsimp only [cxOf, Cx.nox]
    walk_at "wf"
    refine for_it (walk_str (z := SX.S l)) (fun i σ H1 => H1 = H ∧ (∃ v, σ = [some (.str (SX.S l)), some (.str z), v]) ∧ ∀ c ∈ l.take i, c ∈ z.cps.toList) ⟨rfl, ⟨none, rfl⟩, by simp⟩ (fun _ _ _ _ _ => trivial) ?_ ?_
    · rintro i x σ H1 H2 hi ⟨rfl, ⟨v, rfl⟩, hall⟩ ⟨rfl, c, hc, rfl⟩
      have hc' : l[i]? = some c := by simpa [SX.S] using hc
      walk_at "wf"
      refine iteND (fun n => ?_) (fun y => ?_)
      · walk_at "wf"
        have e : (l.all fun c => decide (c ∈ z.cps.toList)) = false := by
          rw [List.all_eq_false]
          exact ⟨c, List.mem_of_getElem? hc', by simpa using n⟩
        rw [e] at k
        exact k
      · refine ⟨rfl, ⟨_, rfl⟩, fun d hd => ?_⟩
        rw [List.take_add_one, hc'] at hd
        rcases List.mem_append.mp hd with hd | hd
        · exact hall d hd
        · simp at hd; rw [hd]; exact y
    · rintro σ H1 ⟨rfl, ⟨v, rfl⟩, hall⟩
      walk_at "wf"
      have e : (l.all fun c => decide (c ∈ z.cps.toList)) = true := by
        rw [List.all_eq_true]
        intro c hc
        exact decide_eq_true (hall c (by rw [show l.take (SX.S l).cps.size = l from List.take_length]; exact hc))
      rw [e] at k
      exact k
theorem all_mem {l : List Nat} {z : Str} {f : Nat → Bool} (h : ∀ c, c ∈ z.cps.toList ↔ f c = true) : (l.all fun c => decide (c ∈ z.cps.toList)) = l.all f := by
  congr 1
  funext c
  by_cases q : f c = true
  · rw [q]; exact decide_eq_true ((h c).mpr q)
  · rw [Bool.eq_false_iff.mpr q]; exact decide_eq_false fun z => q ((h c).mp z)
/-! ### an atom -/
theorem digitsVal_lt {l : List Nat} (h : NumText.AllDigits l) : NumText.digitsVal l < 10 ^ l.length := by
  have go : ∀ (l : List Nat) (a n : Nat), NumText.AllDigits l → a < 10 ^ n → l.foldl (fun acc c => acc * 10 + (c - 48)) a < 10 ^ (n + l.length) := by
    intro l
    induction l with
    | nil => intro a n _ h; simpa using h
    | cons c r ih =>
      intro a n hd h
      have hc := hd c (by simp)
      have e := ih (a * 10 + (c - 48)) (n + 1) (fun d hd' => hd d (by simp [hd'])) (by rw [Nat.pow_succ]; omega)
      rw [List.foldl_cons]
      rw [show n + (c :: r).length = n + 1 + r.length from by simp; omega]
      exact e
  have := go l 0 0 h (by decide)
  simpa [NumText.digitsVal] using this
theorem atom_dig_none {c : Nat} {r : List Nat} (d : isDig c = true) (h : 4 < (c :: r).length ∨ ¬ (c :: r).all isDig = true) : atom (c :: r) = none := by
  unfold atom; dsimp only; rw [if_pos d, if_pos h]
theorem atom_zero_none {c : Nat} {r : List Nat} (d : isDig c = true) (h : ¬ 4 < (c :: r).length) (ha : (c :: r).all isDig = true) (hz : c = 48 ∧ c :: r ≠ [48]) : atom (c :: r) = none := by
  unfold atom; dsimp only; rw [if_pos d, if_neg (fun q => q.elim h (fun q => q ha)), if_pos hz]
theorem atom_num_some {c : Nat} {r : List Nat} (d : isDig c = true) (h : ¬ 4 < (c :: r).length) (ha : (c :: r).all isDig = true) (hz : ¬ (c = 48 ∧ c :: r ≠ [48])) : atom (c :: r) = some (Tr.num (NumText.digitsVal (c :: r))) := by
  unfold atom; dsimp only; rw [if_pos d, if_neg (fun q => q.elim h (fun q => q ha)), if_neg hz]
theorem atom_nam_none {c : Nat} {r : List Nat} (d : isDig c = false) (h : nmOk (c :: r) = false) : atom (c :: r) = none := by
  unfold atom; dsimp only; rw [if_neg (by rw [d]; decide), if_neg (by rw [h]; decide)]
theorem all_dig {l : List Nat} (h : l.all isDig = true) : NumText.AllDigits l := fun c hc => by
  have := List.all_eq_true.mp h c hc
  simpa [isDig] using this
theorem str_eq {l m : List Nat} {x : Str} (e : x = SX.S m) : V.str (SX.S l) = V.str x ↔ l = m := by
  subst e
  exact ⟨fun h => SX.S_inj (V.str.inj h), fun h => by rw [h]⟩
theorem S_zero : Str.ofString "0" = SX.S [48] := by decide +kernel
def spAtom (C : Addr) : Sp := fun vs H Q _ => ∃ (z : Hz) (G : List Nd) (c : Nat) (r : List Nat), vs = [.ref z.p, .str (SX.S (c :: r))] ∧ HA C H z G G ∧ WF G ∧ G.length < 16000000 ∧ (c :: r).length ≤ 1000000 ∧
  (atom (c :: r) = none → Q .non H) ∧
  ∀ t, atom (c :: r) = some t → ∀ (i : Nat) (G' : List Nd) (H' : Hp), HA C H' z G' G' → WF G' → Ext G G' → G'.length ≤ G.length + 1 → Den G' t i → Kp (foot z) H H' → Q (.int (i : Int)) H'
theorem ok_atom (T : Txt K mg) : FnOk P w K mg base CX0 3 T.a_atom T.d_atom ["heap", "word"] (spAtom T.C_Heap) := by
  refine T.atom.fn.ok sc_atom (fun vs H Q E h => ?_) (fun cdv A outer s H vs Q E hr h => ?_)
  · obtain ⟨z, G, c, r, rfl, _⟩ := h
    rfl
  · obtain ⟨z, G, c, r, rfl, hA, wf, hl, hlen, k0, k1⟩ := h
    have ob := hA.ob
    have sz : (SX.S (c :: r)).length ≤ sizeLine := by rw [SX.S_len]; show _ ≤ 16777216; omega
    refine ⟨_, (pss_cons (ps_if (pt_cmpR op_in_sign (pe_ix ix_str (pv 1) pe_int (fun _ _ => rfl)) (pe_glob (v := .str "0123456789") rfl T.c_DIGITS ⟨_, rfl⟩) rfl) (pss_cons (ps_if (PW.pt (pw_or (pt_cmpR op_gt (pe_callB call_len_str (by rfl) T.b_len (by decide +kernel) (pa_cons (pv 1) pa_nil)) (pe_glob (v := .int 4) rfl T.c_LONGEST_NUMBER ⟨_, rfl⟩) (nomark _)) (pw_or1 (pt_not (pt_val (pe_call (ok_consists_of (P := P) (w := w) (base := base) T) (hr.mono (by decide)) rfl T.consists_of.mg T.consists_of.fn.kp T.consists_of.b .nil pass0 (pa_cons (pv 1) (pa_cons (pe_glob (v := .str "0123456789") rfl T.c_DIGITS ⟨_, rfl⟩) pa_nil)))))))) (pss_one (ps_ret pe_non)) pss_nil)
      (pss_cons (ps_if (PW.pt (pw_and (pt_cmpR op_eq (pe_ix ix_str (pv 1) pe_int (fun _ _ => rfl)) pe_str (nomark _)) (pw_and1 (pt_cmpR op_ne (pv 1) pe_str (nomark _))))) (pss_one (ps_ret pe_non)) pss_nil)
      (pss_one (ps_ret (pe_meth (pv 0) T.cl_Heap T.Heap_number.me (ok_Heap_number (P := P) (w := w) (base := base) T) (hr.mono (by decide)) T.Heap_number.b .nil pass0 (pa_cons (pe_callTy call_int_str (by rfl) T.b_int (by decide +kernel) (pa_cons (pv 1) pa_nil)) pa_nil)))))) pss_nil)
      (pss_cons (ps_if (PW.pt (pw_or (pt_cmpR op_notIn_sign (pe_ix ix_str (pv 1) pe_int (fun _ _ => rfl)) (pe_glob (v := .str "abcdefghijklmnopqrstuvwxyz") rfl T.c_LOWER ⟨_, rfl⟩) rfl) (pw_or1 (pt_cmpR op_gt (pe_callB call_len_str (by rfl) T.b_len (by decide +kernel) (pa_cons (pv 1) pa_nil)) (pe_glob (v := .int 12) rfl T.c_LONGEST_NAME ⟨_, rfl⟩) (nomark _))))) (pss_one (ps_ret pe_non)) pss_nil)
      (pss_cons (ps_if (pt_not (pt_val (pe_call (ok_consists_of (P := P) (w := w) (base := base) T) (hr.mono (by decide)) rfl T.consists_of.mg T.consists_of.fn.kp T.consists_of.b .nil pass0 (pa_cons (pv 1) (pa_cons (pe_glob (v := .str "abcdefghijklmnopqrstuvwxyz0123456789") rfl T.c_NAME_SIGNS ⟨_, rfl⟩) pa_nil))))) (pss_one (ps_ret pe_non)) pss_nil)
      (pss_one (ps_ret (pe_meth (pv 0) T.cl_Heap T.Heap_name.me (ok_Heap_name (P := P) (w := w) (base := base) T) (hr.mono (by decide)) T.Heap_name.b .nil pass0 (pa_cons (pv 1) pa_nil))))))), ?_⟩
    try dsimp only [cxOf, Cx.nox]
    walk_at "wf"
    refine iteD (fun hd => ?_) (fun hd => ?_)
    · have dg := (mem_digits c).mp hd
      walk_at "wf"
      refine iteD (fun h4 => ?_) (fun h4 => ?_)
      · refine iteT ?_
        walk_at "wf"
        refine k0 (atom_dig_none dg (.inl ?_))
        rw [SX.S_len] at h4; omega
      · have h4' : ¬ 4 < (c :: r).length := by rw [SX.S_len] at h4; omega
        walk_at "wf"
        rw [all_mem mem_digits]
        cases ha : (c :: r).all isDig with
        | false =>
          refine iteT ?_
          walk_at "wf"
          exact k0 (atom_dig_none dg (.inr (by rw [ha]; decide)))
        | true =>
          refine iteF ?_
          walk_at "wf"
          refine iteD (fun hz => ?_) (fun hz => ?_)
          · walk_at "wf"
            have hz' : c = 48 := by
              have := (str_eq (l := [c]) S_zero).mp hz
              exact (List.cons.inj this).1
            refine iteND (fun hne => ?_) (fun he => ?_)
            · refine k0 (atom_zero_none dg h4' ha ⟨hz', fun q => hne ((str_eq S_zero).mpr q)⟩)
            · have e0 := (str_eq S_zero).mp he
              walk_at "wf"
              refine ⟨_, _, _, rfl, ob, hz_no_number _, ?_⟩
              have h43 : (c :: r).length ≤ 4300 := by omega
              have h64 : (SX.S (c :: r)).length ≤ 640 := by rw [SX.S_len]; omega
              walk_at "wf"
              refine ⟨z, G, NumText.digitsVal (c :: r), rfl, hA, wf, hl, ?_, fun i G' H' hA' wf' ex le nd kp => ?_⟩
              · rw [e0]; decide
              · exact k1 _ (atom_num_some dg h4' ha (fun q => q.2 e0)) i G' H' hA' wf' ex le nd kp
          · refine iteF ?_
            have hz' : ¬ c = 48 := fun q => hz ((str_eq (l := [c]) S_zero).mpr (by rw [q]))
            walk_at "wf"
            refine ⟨_, _, _, rfl, ob, hz_no_number _, ?_⟩
            have h43 : (c :: r).length ≤ 4300 := by omega
            have h64 : (SX.S (c :: r)).length ≤ 640 := by rw [SX.S_len]; omega
            walk_at "wf"
            refine ⟨z, G, NumText.digitsVal (c :: r), rfl, hA, wf, hl, ?_, fun i G' H' hA' wf' ex le nd kp => ?_⟩
            · have lt := digitsVal_lt (all_dig ha)
              have : 10 ^ (c :: r).length ≤ 10 ^ 4 := Nat.pow_le_pow_right (by decide) (by omega)
              omega
            · exact k1 _ (atom_num_some dg h4' ha (fun q => hz' q.1)) i G' H' hA' wf' ex le nd kp
    · have dg : isDig c = false := by
        cases q : isDig c with
        | false => rfl
        | true => exact absurd ((mem_digits c).mpr q) hd
      walk_at "wf"
      refine iteND (fun hlo => ?_) (fun hlo => ?_)
      · refine iteT ?_
        walk_at "wf"
        refine k0 (atom_nam_none dg ?_)
        have : isLow c = false := by
          cases q : isLow c with
          | false => rfl
          | true => exact absurd ((mem_lower c).mpr q) hlo
        simp [nmOk, this]
      · have lo := (mem_lower c).mp hlo
        walk_at "wf"
        refine iteD (fun h12 => ?_) (fun h12 => ?_)
        · walk_at "wf"
          refine k0 (atom_nam_none dg ?_)
          rw [SX.S_len] at h12
          have : ¬ (c :: r).length ≤ 12 := by omega
          simp only [nmOk, decide_eq_false this, Bool.and_false, Bool.false_and]
        · walk_at "wf"
          rw [all_mem mem_names]
          rw [SX.S_len] at h12
          have h12' : (c :: r).length ≤ 12 := by omega
          cases ha : (c :: r).all isNs with
          | false =>
            refine iteT ?_
            walk_at "wf"
            refine k0 (atom_nam_none dg ?_)
            simp only [nmOk, ha, Bool.and_false]
          | true =>
            refine iteF ?_
            have ok : nmOk (c :: r) = true := by simp only [nmOk, ha, lo, decide_eq_true h12', Bool.and_self]
            walk_at "wf"
            refine ⟨_, _, _, rfl, ob, hz_no_name _, ?_⟩
            walk_at "wf"
            refine ⟨z, G, c :: r, rfl, hA, wf, hl, ok, fun i G' H' hA' wf' ex le nd kp => ?_⟩
            exact k1 _ (atom_nam ok) i G' H' hA' wf' ex le nd kp
end
end Wh
set_option Elab.async false
set_option linter.all false
set_option maxRecDepth 100000
set_option maxHeartbeats 1000000
/-! Reading a text: what waits. -/
namespace Wh
open PySem L2 PySem.Spec PyProof.Rows
local macro_rules | `(tactic| walk_at "ne") => `(tactic| first | with_reducible assumption | (apply Ne.symm; with_reducible assumption))
local macro_rules | `(tactic| walk_at "hp") => `(tactic| first | with_reducible assumption | with_reducible exact upd_same | ((with_reducible refine (upd_ne ?n).trans ?h); (case n => walk_at "ne"); (case h => walk_at "hp")) | ((with_reducible show upd _ _ _ _ = _); exact upd_same))
local macro_rules | `(tactic| walk_at "cond") => `(tactic| first | with_reducible assumption | exact (rfl : (_ : Bool) = true) | ((try dsimp only) <;> first | with_reducible assumption | decide | omega) | exact ⟨by first | decide | omega, by first | decide | omega⟩ | exact .inr ⟨by decide, by decide⟩)
local macro_rules | `(tactic| walk_at "sz") => `(tactic| first | with_reducible assumption | (show _ ≤ 16777216; omega))
local macro_rules | `(tactic| walk_at "at") => `(tactic| first | with_reducible assumption | exact atI_nat (by with_reducible assumption) | exact atI_nat (j := 0) (rfl : (_ : Option Nat) = some _) | exact atI_nat (by assumption))
local macro_rules | `(tactic| walk_at "w1") => `(tactic| (fail_if_success with_reducible show @ite _ _ _ _ _); first
  | refine ⟨_, rfl, ?_⟩
  | refine ⟨_, _, (rfl : _ = V.int _), (rfl : _ = V.int _), And.intro (by walk_at "cond") ?_⟩
  | refine ⟨_, _, (rfl : _ = V.int _), (rfl : _ = V.int _), ?_⟩
  | refine ⟨_, _, (rfl : _ = V.str _), (rfl : _ = V.str _), And.intro (by walk_at "sz") ?_⟩
  | refine ⟨_, _, (rfl : _ = V.str _), (rfl : _ = V.str _), ?_⟩
  | refine ⟨_, _, _, _, (rfl : _ = V.ref _), (rfl : _ = V.int _), SqL.of (by walk_at "hp"), rfl, ?_⟩
  | refine ⟨_, _, _, _, (rfl : _ = V.ref _), (rfl : _ = V.int _), (by walk_at "hp"), rfl, ?_⟩
  | refine ⟨Or.inl ⟨rfl, _, SqL.of (by walk_at "hp")⟩, ?_⟩
  | refine ⟨_, _, _, (rfl : _ = V.ref _), (rfl : (_ : List V) = _), (by walk_at "hp"), (by with_reducible assumption), ?_⟩
  | refine ⟨_, _, (rfl : (_ : List V) = _), Or.inl (SqL.of (by walk_at "hp")), ?_⟩
  | refine ⟨_, _, _, _, (rfl : _ = V.ref _), (rfl : _ = V.int _), SqL.of (by walk_at "hp"), atI_nat (by with_reducible assumption), ?_⟩
  | refine ⟨_, _, _, (rfl : _ = V.str _), (rfl : _ = V.int _), (by walk_at "sz"), (by walk_at "at"), ?_⟩
  | refine ⟨_, _, (rfl : (_ : List V) = [V.str _]), SX.int_S (by assumption) (by simp) (by assumption), (by assumption), ?_⟩
  | refine ⟨_, _, (rfl : (_ : List V) = [_, _]), ?_⟩
  | refine ⟨(rfl : (_ : Bool) = true), ?_⟩
  | refine ⟨(rfl : (_ : V) = V.non), ?_⟩
  | refine And.intro (by walk_at "sz") ?_
  | refine .inl ⟨_, rfl, ?_⟩)
local macro_rules | `(tactic| walk_at "w") => `(tactic| repeat walk_at "w1")
local macro_rules | `(tactic| walk_at "fld") => `(tactic| (fail_if_success with_reducible show @ite _ _ _ _ _); first
  | refine ⟨_, _, _, _, _, (rfl : _ = V.ref _), (by walk_at "hp"), Txt.cl_Heap _, Txt.nf__shapes _, hz_shapes _, ?_⟩
  | refine ⟨_, _, _, _, _, (rfl : _ = V.ref _), (by walk_at "hp"), Txt.cl_Heap _, Txt.nf__faces _, hz_faces _, ?_⟩
  | refine ⟨_, _, _, _, _, (rfl : _ = V.ref _), (by walk_at "hp"), Txt.cl_Heap _, Txt.nf__firsts _, hz_firsts _, ?_⟩
  | refine ⟨_, _, _, _, _, (rfl : _ = V.ref _), (by walk_at "hp"), Txt.cl_Heap _, Txt.nf__seconds _, hz_seconds _, ?_⟩
  | refine ⟨_, _, _, _, _, (rfl : _ = V.ref _), (by walk_at "hp"), Txt.cl_Heap _, Txt.nf__hefts _, hz_hefts _, ?_⟩
  | refine ⟨_, _, _, _, _, (rfl : _ = V.ref _), (by walk_at "hp"), Txt.cl_Heap _, Txt.nf__numbers _, hz_numbers _, ?_⟩
  | refine ⟨_, _, _, _, _, (rfl : _ = V.ref _), (by walk_at "hp"), Txt.cl_Heap _, Txt.nf__names _, hz_names _, ?_⟩
  | refine ⟨_, _, _, _, _, (rfl : _ = V.ref _), (by walk_at "hp"), Txt.cl_Heap _, Txt.nf__pairs _, hz_pairs _, ?_⟩)
local macro_rules | `(tactic| walk_at "wf") => `(tactic| repeat first | walk_at "w1" | walk_at "fld")
def refs (vs : List V) : List Addr := vs.filterMap fun v => match v with
  | .ref a => some a
  | _ => none
def WE (G : List Nd) (H : Hp) (o : Option (List Tr)) (v : V) : Prop := match o with
  | none => v = .non
  | some l => ∃ a ids, v = .ref a ∧ H a = some (.lst (ivs ids)) ∧ Paired (Den G) l ids
/-- what waits, the innermost first -/
structure WtAt (G : List Nd) (H : Hp) (z : Hz) (wl : Addr) (w : Wt) (vs : List V) : Prop where
  ls : H wl = some (.lst vs.reverse)
  pr : Paired (WE G H) w vs
  nd : (wl :: refs vs).Nodup
  ft : ∀ a ∈ wl :: refs vs, a ∉ foot z
def tot (w : Wt) : Nat := (w.map fun o => match o with
  | none => 4
  | some l => l.length + 1).sum
theorem WtAt.keep {G G' : List Nd} {H H' : Hp} {z : Hz} {wl : Addr} {w : Wt} {vs : List V} (h : WtAt G H z wl w vs) (e : Ext G G') (k : ∀ b o, b ∈ wl :: refs vs → H b = some o → H' b = some o) : WtAt G' H' z wl w vs := by
  refine ⟨k _ _ (by simp) h.ls, ?_, h.nd, h.ft⟩
  have go : ∀ {w : Wt} {vs : List V}, Paired (WE G H) w vs → (∀ b o, b ∈ refs vs → H b = some o → H' b = some o) → Paired (WE G' H') w vs := by
    intro w vs p
    induction p with
    | nil => intro _; exact .nil
    | cons f r ih =>
      rename_i o v w' vs'
      intro kk
      refine .cons ?_ (ih fun b u hb q => kk b u ?_ q)
      · cases o with
        | none => exact f
        | some l =>
          obtain ⟨a, ids, rfl, ha, hp⟩ := f
          exact ⟨a, ids, rfl, kk a _ (by simp [refs]) ha, paired_imp (fun _ _ d => d.mono e) hp⟩
      · simp only [refs, List.mem_filterMap] at hb ⊢
        obtain ⟨x, hx, ex⟩ := hb
        exact ⟨x, by simp [hx], ex⟩
  exact go h.pr fun b o hb q => k b o (by simp [hb]) q
theorem WtAt.kp {G G' : List Nd} {H H' : Hp} {z : Hz} {wl : Addr} {w : Wt} {vs : List V} (h : WtAt G H z wl w vs) (e : Ext G G') (k : Kp (foot z) H H') : WtAt G' H' z wl w vs :=
  h.keep e fun b o hb q => k b o (h.ft b hb) q
theorem WtAt.pop {G : List Nd} {H : Hp} {z : Hz} {wl : Addr} {o : Option (List Tr)} {w : Wt} {v : V} {vs : List V} (h : WtAt G H z wl (o :: w) (v :: vs)) : WtAt G (upd H wl (.lst vs.reverse)) z wl w vs := by
  cases h.pr with
  | cons f r =>
    have nd := h.nd
    have sub : ∀ a ∈ refs vs, a ∈ refs (v :: vs) := fun a ha => by
      simp only [refs, List.mem_filterMap] at ha ⊢
      obtain ⟨x, hx, ex⟩ := ha
      exact ⟨x, by simp [hx], ex⟩
    have nd' : (wl :: refs vs).Nodup := by
      rw [List.nodup_cons] at nd ⊢
      refine ⟨fun q => nd.1 (sub _ q), ?_⟩
      have := nd.2
      unfold refs at this ⊢
      rw [List.filterMap_cons] at this
      split at this
      · exact this
      · exact (List.nodup_cons.mp this).2
    refine ⟨upd_same, ?_, nd', fun a ha => h.ft a ?_⟩
    · have go : ∀ {w : Wt} {us : List V}, Paired (WE G H) w us → wl ∉ refs us → Paired (WE G (upd H wl (.lst vs.reverse))) w us := by
        intro w us p
        induction p with
        | nil => intro _; exact .nil
        | cons f r ih =>
          rename_i o v w' us'
          intro hn
          refine .cons ?_ (ih fun q => hn ?_)
          · cases o with
            | none => exact f
            | some l =>
              obtain ⟨a, ids, rfl, ha, hp⟩ := f
              exact ⟨a, ids, rfl, (upd_ne (fun q => hn (by simp [refs, q]))).trans ha, hp⟩
          · simp only [refs, List.mem_filterMap] at q ⊢
            obtain ⟨x, hx, ex⟩ := q
            exact ⟨x, by simp [hx], ex⟩
      exact go r (List.nodup_cons.mp nd').1
    · rcases List.mem_cons.mp ha with q | q
      · rw [q]; exact List.mem_cons_self
      · exact List.mem_cons_of_mem _ (sub a q)
/-- a member more for the innermost list -/
theorem WtAt.add {G : List Nd} {H : Hp} {z : Hz} {wl a : Addr} {l : List Tr} {w : Wt} {vs : List V} {ids : List Nat} {t : Tr} {i : Nat} (h : WtAt G H z wl (some l :: w) (.ref a :: vs)) (ha : H a = some (.lst (ivs ids))) (dt : Den G t i) :
    WtAt G (upd H a (.lst (ivs ids ++ [.int (i : Int)]))) z wl (some (l ++ [t]) :: w) (.ref a :: vs) := by
  have er : refs (.ref a :: vs) = a :: refs vs := rfl
  have nd := h.nd
  rw [er] at nd
  have n1 : wl ≠ a := fun q => (List.nodup_cons.mp nd).1 (by simp [q])
  have n2 : a ∉ refs vs := (List.nodup_cons.mp (List.nodup_cons.mp nd).2).1
  cases h.pr with
  | cons f r =>
    obtain ⟨a', ids', e, ha', hp⟩ := f
    cases e
    rw [ha] at ha'
    have e2 : ivs ids' = ivs ids := (HO.lst.inj (Option.some.inj ha')).symm
    refine ⟨(upd_ne n1).trans h.ls, .cons ⟨a, ids' ++ [i], rfl, ?_, hp.snoc dt⟩ ?_, h.nd, h.ft⟩
    · rw [show ivs (ids' ++ [i]) = ivs ids ++ [.int (i : Int)] from by rw [← e2]; simp [ivs]]
      exact upd_same
    · have go : ∀ {w : Wt} {us : List V}, Paired (WE G H) w us → a ∉ refs us → Paired (WE G (upd H a (.lst (ivs ids ++ [.int (i : Int)])))) w us := by
        intro w us p
        induction p with
        | nil => intro _; exact .nil
        | cons f r ih =>
          rename_i o v w' us'
          intro hn
          refine .cons ?_ (ih fun q => hn ?_)
          · cases o with
            | none => exact f
            | some l =>
              obtain ⟨a', ids, rfl, ha, hp⟩ := f
              exact ⟨a', ids, rfl, (upd_ne (fun q => hn (by simp [refs, q]))).trans ha, hp⟩
          · simp only [refs, List.mem_filterMap] at q ⊢
            obtain ⟨x, hx, ex⟩ := q
            exact ⟨x, by simp [hx], ex⟩
      exact go r n2
end Wh
set_option Elab.async false
set_option linter.all false
set_option maxRecDepth 100000
set_option maxHeartbeats 1000000
/-! Reading a text: settling a value. -/
namespace Wh
open PySem L2 PySem.Spec PyProof.Rows
local macro_rules | `(tactic| walk_at "ne") => `(tactic| first | with_reducible assumption | (apply Ne.symm; with_reducible assumption))
local macro_rules | `(tactic| walk_at "hp") => `(tactic| first | with_reducible assumption | with_reducible exact upd_same | ((with_reducible refine (upd_ne ?n).trans ?h); (case n => walk_at "ne"); (case h => walk_at "hp")) | ((with_reducible show upd _ _ _ _ = _); exact upd_same))
local macro_rules | `(tactic| walk_at "cond") => `(tactic| first | with_reducible assumption | exact (rfl : (_ : Bool) = true) | ((try dsimp only) <;> first | with_reducible assumption | decide | omega) | exact ⟨by first | decide | omega, by first | decide | omega⟩ | exact .inr ⟨by decide, by decide⟩)
local macro_rules | `(tactic| walk_at "sz") => `(tactic| first | with_reducible assumption | (show _ ≤ 16777216; omega))
local macro_rules | `(tactic| walk_at "at") => `(tactic| first | with_reducible assumption | exact atI_nat (by with_reducible assumption) | exact atI_nat (j := 0) (rfl : (_ : Option Nat) = some _) | exact atI_nat (by assumption))
local macro_rules | `(tactic| walk_at "w1") => `(tactic| (fail_if_success with_reducible show @ite _ _ _ _ _); first
  | refine ⟨_, rfl, ?_⟩
  | refine ⟨_, _, (rfl : _ = V.int _), (rfl : _ = V.int _), And.intro (by walk_at "cond") ?_⟩
  | refine ⟨_, _, (rfl : _ = V.int _), (rfl : _ = V.int _), ?_⟩
  | refine ⟨_, _, (rfl : _ = V.str _), (rfl : _ = V.str _), And.intro (by walk_at "sz") ?_⟩
  | refine ⟨_, _, (rfl : _ = V.str _), (rfl : _ = V.str _), ?_⟩
  | refine ⟨_, _, _, _, (rfl : _ = V.ref _), (rfl : _ = V.int _), SqL.of (by walk_at "hp"), rfl, ?_⟩
  | refine ⟨_, _, _, _, (rfl : _ = V.ref _), (rfl : _ = V.int _), (by walk_at "hp"), rfl, ?_⟩
  | refine ⟨Or.inl ⟨rfl, _, SqL.of (by walk_at "hp")⟩, ?_⟩
  | refine ⟨_, _, _, (rfl : _ = V.ref _), (rfl : (_ : List V) = _), (by walk_at "hp"), (by with_reducible assumption), ?_⟩
  | refine ⟨_, _, (rfl : (_ : List V) = _), Or.inl (SqL.of (by walk_at "hp")), ?_⟩
  | refine ⟨_, _, _, _, (rfl : _ = V.ref _), (rfl : _ = V.int _), SqL.of (by walk_at "hp"), (by walk_at "at"), ?_⟩
  | refine ⟨_, _, _, (rfl : _ = V.str _), (rfl : _ = V.int _), (by walk_at "sz"), (by walk_at "at"), ?_⟩
  | refine ⟨_, _, (rfl : (_ : List V) = [V.str _]), SX.int_S (by assumption) (by simp) (by assumption), (by assumption), ?_⟩
  | refine ⟨_, _, (rfl : (_ : List V) = [_, _]), ?_⟩
  | refine ⟨(rfl : (_ : Bool) = true), ?_⟩
  | refine ⟨(rfl : (_ : V) = V.non), ?_⟩
  | refine And.intro (by walk_at "sz") ?_
  | refine .inl ⟨_, rfl, ?_⟩)
local macro_rules | `(tactic| walk_at "w") => `(tactic| repeat walk_at "w1")
local macro_rules | `(tactic| walk_at "fld") => `(tactic| (fail_if_success with_reducible show @ite _ _ _ _ _); first
  | refine ⟨_, _, _, _, _, (rfl : _ = V.ref _), (by walk_at "hp"), Txt.cl_Heap _, Txt.nf__shapes _, hz_shapes _, ?_⟩
  | refine ⟨_, _, _, _, _, (rfl : _ = V.ref _), (by walk_at "hp"), Txt.cl_Heap _, Txt.nf__faces _, hz_faces _, ?_⟩
  | refine ⟨_, _, _, _, _, (rfl : _ = V.ref _), (by walk_at "hp"), Txt.cl_Heap _, Txt.nf__firsts _, hz_firsts _, ?_⟩
  | refine ⟨_, _, _, _, _, (rfl : _ = V.ref _), (by walk_at "hp"), Txt.cl_Heap _, Txt.nf__seconds _, hz_seconds _, ?_⟩
  | refine ⟨_, _, _, _, _, (rfl : _ = V.ref _), (by walk_at "hp"), Txt.cl_Heap _, Txt.nf__hefts _, hz_hefts _, ?_⟩
  | refine ⟨_, _, _, _, _, (rfl : _ = V.ref _), (by walk_at "hp"), Txt.cl_Heap _, Txt.nf__numbers _, hz_numbers _, ?_⟩
  | refine ⟨_, _, _, _, _, (rfl : _ = V.ref _), (by walk_at "hp"), Txt.cl_Heap _, Txt.nf__names _, hz_names _, ?_⟩
  | refine ⟨_, _, _, _, _, (rfl : _ = V.ref _), (by walk_at "hp"), Txt.cl_Heap _, Txt.nf__pairs _, hz_pairs _, ?_⟩)
local macro_rules | `(tactic| walk_at "wf") => `(tactic| repeat first | walk_at "w1" | walk_at "fld")
theorem iteFe {c : Bool} {A B : Prop} (h : c = false) (b : B) : if c = true then A else B := by rw [h]; exact iteF b
theorem iteTe {c : Bool} {A B : Prop} (h : c = true) (b : A) : if c = true then A else B := by rw [h]; exact iteT b
/-- a result: None, or the id of this value -/
def RV (G : List Nd) (r : Option Tr) (v : V) : Prop := match r with
  | none => v = .non
  | some u => ∃ j : Nat, v = .int (j : Int) ∧ Den G u j
theorem HA.not_foot {C : Addr} {H : Hp} {z : Hz} {G D : List Nd} (h : HA C H z G D) {p : Addr} (n : H p = none) : p ∉ foot z := fun q => by
  simp only [foot, List.mem_cons, List.not_mem_nil, or_false] at q
  rcases q with q | q | q | q | q | q | q | q <;> subst q
  · rw [h.l1] at n; cases n
  · rw [h.l2] at n; cases n
  · rw [h.l3] at n; cases n
  · rw [h.l4] at n; cases n
  · rw [h.l5] at n; cases n
  · rw [h.d6] at n; cases n
  · rw [h.d7] at n; cases n
  · rw [h.d8] at n; cases n
def lenAt (a : Addr) (H : Hp) : Nat := match H a with
  | some (.lst xs) => xs.length
  | _ => 0
theorem lenAt_eq {a : Addr} {H : Hp} {xs : List V} (h : H a = some (.lst xs)) : lenAt a H = xs.length := by unfold lenAt; rw [h]
theorem S_quote : Str.ofString "quote" = SX.S quoL := by decide +kernel
theorem tot_cons (o : Option (List Tr)) (w : Wt) : tot (o :: w) = (match o with | none => 4 | some l => l.length + 1) + tot w := by simp [tot] <;> rfl
section
variable {P : Program} {w : World} {K : PySem.W.Frag} {mg : Str → Option Value} {base : Heap}
def spSettle (C : Addr) : Sp := fun us H Q _ => ∃ (z : Hz) (G : List Nd) (wl : Addr) (ws : Wt) (vs : List V) (t : Tr) (i : Nat), us = [.ref z.p, .ref wl, .int (i : Int)] ∧ HA C H z G G ∧ WF G ∧ WtAt G H z wl ws vs ∧ Den G t i ∧ G.length + tot ws + 9 < 16000000 ∧
  ∀ (v : V) (G' : List Nd) (H' : Hp) (vs' : List V), HA C H' z G' G' → WF G' → Ext G G' → WtAt G' H' z wl (settle ws t).1 vs' → G'.length + tot (settle ws t).1 ≤ G.length + tot ws + 1 → (∀ a ∈ refs vs', a ∈ refs vs) → Kp (foot z ++ (wl :: refs vs)) H H' →
    RV G' (settle ws t).2 v → Q v H'
theorem ok_settle (T : Txt K mg) : FnOk P w K mg base CX0 4 T.a_settle T.d_settle ["heap", "waiting", "value"] (spSettle T.C_Heap) := by
  refine T.settle.fn.ok sc_settle (fun vs H Q E h => ?_) (fun cdv A outer s H vs Q E hr h => ?_)
  · obtain ⟨z, G, wl, ws, vs, t, i, rfl, _⟩ := h
    rfl
  · obtain ⟨z, G, wl, ws, vs, t, i, rfl, hA, wf, hW, den, hl, k⟩ := h
    refine ⟨_, (pss_cons (ps_while PassesOwn.never (PW.pt (pw_and (pt_truth (pv 1) (by intro _; rfl)) (pw_and1 (pt_cmpR op_isN (pe_ix ix_list (pv 1) (pe_un un_neg pe_int) (fun _ _ => rfl)) pe_non (nomark _))))) (pss_cons (ps_expr (pe_bm0 PySem.F.plainAttrs_list PySem.F.slot_list_pop PySem.F.type_list_pop mt_pop (pv 1)))
      (pss_one (ps_set (i := 2) sc_settle.nd rfl (Or.inl rfl) (pe_meth (pv 0) T.cl_Heap T.Heap_listed.me (ok_Heap_listed (P := P) (w := w) (base := base) T) (hr.mono (by decide)) T.Heap_listed.b .nil pass0 (pa_cons (pe_lst (pa_cons (pe_meth (pv 0) T.cl_Heap T.Heap_name.me (ok_Heap_name (P := P) (w := w) (base := base) T) (hr.mono (by decide)) T.Heap_name.b .nil pass0 (pa_cons pe_str pa_nil)) (pa_cons (pv 2) pa_nil))) pa_nil))))))
      (pss_cons (ps_if (pt_not (pt_truth (pv 1) (by intro _; rfl))) (pss_one (ps_ret (pv 2))) pss_nil)
      (pss_cons (ps_expr (pe_bm PySem.F.plainAttrs_list PySem.F.slot_list_append PySem.F.type_list_append mt_append (pe_ix ix_list (pv 1) (pe_un un_neg pe_int) (fun _ _ => rfl)) (pa_cons (pv 2) pa_nil)))
      (pss_one (ps_ret pe_non))))), ?_⟩
    try dsimp only [cxOf, Cx.nox]
    refine while_by (fun σ H1 => ∃ (w1 : Wt) (vs1 : List V) (t1 : Tr) (i1 : Nat) (G1 : List Nd), σ = [some (.ref z.p), some (.ref wl), some (.int (i1 : Int))] ∧ settle w1 t1 = settle ws t ∧ HA T.C_Heap H1 z G1 G1 ∧ WF G1 ∧ Ext G G1 ∧ WtAt G1 H1 z wl w1 vs1 ∧
      Den G1 t1 i1 ∧ G1.length + tot w1 ≤ G.length + tot ws ∧ (∀ a ∈ refs vs1, a ∈ refs vs) ∧ Kp (foot z ++ (wl :: refs vs)) H H1) (fun _ H1 => lenAt wl H1) ?_ ?_ ?_
    · exact ⟨ws, vs, t, i, G, rfl, rfl, hA, wf, .refl G, hW, den, Nat.le_refl _, fun _ h => h, .refl H⟩
    · rintro σ H1 ⟨w1, vs1, t1, i1, G1, rfl, es, hA1, wf1, ex1, hW1, den1, le1, sub1, kp1⟩
      have hls := hW1.ls
      have ob1 := hA1.ob
      refine ⟨_, rfl, _, .inl ⟨_, SqL.of hls, rfl⟩, ?_⟩
      cases hp : hW1.pr with
      | nil =>
        refine iteFe rfl ?_
        refine iteF ?_
        walk_at "wf"
        refine ⟨_, .inl ⟨_, SqL.of hls, rfl⟩, ?_⟩
        refine iteTe rfl ?_
        walk_at "wf"
        rw [← es] at k
        exact k _ G1 H1 [] hA1 wf1 ex1 hW1 (by show G1.length + tot [] ≤ _; omega) sub1 kp1 ⟨i1, rfl, den1⟩
      | cons f r =>
        rename_i o v w2 vs2
        refine iteTe (by simp) ?_
        have hat : atI (v :: vs2).reverse (-1) = some v := by rw [List.reverse_cons]; exact atI_last _ _
        have hpop : (v :: vs2).reverse[(v :: vs2).reverse.length - 1]? = some v := by simp
        walk_at "wf"
        cases o with
        | none =>
          have ev : v = .non := f
          subst ev
          refine iteTe (by simp) ?_
          walk_at "wf"
          have e2 : (V.non :: vs2).reverse.dropLast = vs2.reverse := by simp
          have hW2 := hW1.pop
          have hA2 : HA T.C_Heap (upd H1 wl (.lst vs2.reverse)) z G1 G1 := hA1.apart ⟨ne_of hls ob1 (fun q => by cases q), hW1.ft wl (by simp)⟩
          rw [e2]
          have ob2 := hA2.ob
          rw [tot_cons] at le1
          refine ⟨_, _, _, rfl, ob2, hz_no_listed _, ?_⟩
          walk_at "wf"
          refine ⟨_, _, _, rfl, ob2, hz_no_name _, ?_⟩
          walk_at "wf"
          refine ⟨z, G1, quoL, by rw [S_quote]; rfl, hA2, wf1, by dsimp only at le1; omega, by decide, fun q G3 H3 hA3 wf3 ex3 le3 nd3 kp3 => ?_⟩
          walk_at "wf"
          refine ⟨(show 2 ≤ sizeLine by decide), fun p hpn => ?_⟩
          have hA4 := hA3.new (o := .lst [.int (q : Int), .int (i1 : Int)]) hpn
          have hW3 := hW2.kp ex3 kp3
          have hW4 : WtAt G3 (upd H3 p (.lst [.int (q : Int), .int (i1 : Int)])) z wl w2 vs2 := hW3.keep (.refl G3) fun b o _ e => (upd_ne (ne_of_none e hpn)).trans e
          walk_at "wf"
          refine ⟨z, G3, p, [q, i1], [.nam quoL, t1], rfl, hA4, wf3, SqL.of upd_same, hA3.not_foot hpn, .cons nd3 (.cons (den1.mono ex3) .nil), by dsimp only [List.length] at *; omega, fun j G5 H5 hA5 wf5 ex5 le5 den5 kp5 => ?_⟩
          walk_at "wf"
          have hW5 := hW4.kp ex5 kp5
          refine ⟨⟨w2, vs2, quo t1, j, G5, rfl, es, hA5, wf5, (ex1.trans ex3).trans ex5, hW5, den5, by dsimp only [List.length] at *; omega, sub1, ?_⟩, ?_⟩
          · exact (((kp1.at (by simp)).trans (kp3.mono (by simp +contextual))).new' hpn).trans (kp5.mono (by simp +contextual))
          · rw [lenAt_eq hW5.ls, lenAt_eq hls]; simp
        | some l =>
          obtain ⟨a, ids, rfl, ha, hpl⟩ := f
          refine iteFe (by simp) ?_
          walk_at "wf"
          refine ⟨_, .inl ⟨_, SqL.of hls, rfl⟩, ?_⟩
          refine iteFe (by simp) ?_
          rw [tot_cons] at le1
          have hll := paired_len hpl
          have sz : (ivs ids).length < sizeLine := by rw [ivs_len]; show _ < 16777216; dsimp only at le1; omega
          walk_at "wf"
          rw [← es] at k
          refine k .non G1 _ (.ref a :: vs2) (hA1.apart ⟨ne_of ha ob1 (fun q => by cases q), hW1.ft a (by simp [refs])⟩) wf1 ex1 (hW1.add ha den1) ?_ sub1 (kp1.at ?_) rfl
          · show _ + tot (some (l ++ [t1]) :: w2) ≤ _
            rw [tot_cons]; dsimp only at *; rw [List.length_append]; simp; omega
          · have := sub1 a (by simp [refs])
            simp [this]
    · rintro σ H1 Q1 Q2 hh ⟨v, e, k, tv, q⟩
      refine ⟨v, e, k, tv, ?_⟩
      cases k with
      | false => exact iteF (hh _ _ (by simpa using q))
      | true =>
        have q' := (if_pos rfl : (if true = true then _ else _) = _) ▸ q
        refine iteT ?_
        obtain ⟨v1, e1, i1, e2, p, xs, i2, v2, e3, e4, s1, a1, n1, k1, ek, q1⟩ := q'
        exact ⟨v1, e1, i1, e2, p, xs, i2, v2, e3, e4, s1, a1, n1, k1, ek, hh _ _ q1⟩
end
end Wh
set_option Elab.async false
set_option linter.all false
set_option maxRecDepth 100000
set_option maxHeartbeats 1000000
/-! Reading a text: a part, the end of a part. -/
namespace Wh
open PySem L2 PySem.Spec PyProof.Rows
local macro_rules | `(tactic| walk_at "ne") => `(tactic| first | with_reducible assumption | (apply Ne.symm; with_reducible assumption))
local macro_rules | `(tactic| walk_at "hp") => `(tactic| first | with_reducible assumption | with_reducible exact upd_same | ((with_reducible refine (upd_ne ?n).trans ?h); (case n => walk_at "ne"); (case h => walk_at "hp")) | ((with_reducible show upd _ _ _ _ = _); exact upd_same))
local macro_rules | `(tactic| walk_at "cond") => `(tactic| first | with_reducible assumption | exact (rfl : (_ : Bool) = true) | ((try dsimp only) <;> first | with_reducible assumption | decide | omega) | exact ⟨by first | decide | omega, by first | decide | omega⟩ | exact .inr ⟨by decide, by decide⟩)
local macro_rules | `(tactic| walk_at "sz") => `(tactic| first | with_reducible assumption | (show _ ≤ 16777216; omega))
local macro_rules | `(tactic| walk_at "at") => `(tactic| first | with_reducible assumption | exact atI_nat (by with_reducible assumption) | exact atI_nat (j := 0) (rfl : (_ : Option Nat) = some _) | exact atI_nat (by assumption))
local macro_rules | `(tactic| walk_at "w1") => `(tactic| (fail_if_success with_reducible show @ite _ _ _ _ _); first
  | refine ⟨_, rfl, ?_⟩
  | refine ⟨_, _, (rfl : _ = V.int _), (rfl : _ = V.int _), And.intro (by walk_at "cond") ?_⟩
  | refine ⟨_, _, (rfl : _ = V.int _), (rfl : _ = V.int _), ?_⟩
  | refine ⟨_, _, (rfl : _ = V.str _), (rfl : _ = V.str _), And.intro (by walk_at "sz") ?_⟩
  | refine ⟨_, _, (rfl : _ = V.str _), (rfl : _ = V.str _), ?_⟩
  | refine ⟨_, _, _, _, (rfl : _ = V.ref _), (rfl : _ = V.int _), SqL.of (by walk_at "hp"), rfl, ?_⟩
  | refine ⟨_, _, _, _, (rfl : _ = V.ref _), (rfl : _ = V.int _), (by walk_at "hp"), rfl, ?_⟩
  | refine ⟨Or.inl ⟨rfl, _, SqL.of (by walk_at "hp")⟩, ?_⟩
  | refine ⟨_, _, _, (rfl : _ = V.ref _), (rfl : (_ : List V) = _), (by walk_at "hp"), (by with_reducible assumption), ?_⟩
  | refine ⟨_, _, (rfl : (_ : List V) = _), Or.inl (SqL.of (by walk_at "hp")), ?_⟩
  | refine ⟨_, _, _, _, (rfl : _ = V.ref _), (rfl : _ = V.int _), SqL.of (by walk_at "hp"), (by walk_at "at"), ?_⟩
  | refine ⟨_, _, _, (rfl : _ = V.str _), (rfl : _ = V.int _), (by walk_at "sz"), (by walk_at "at"), ?_⟩
  | refine ⟨_, _, (rfl : (_ : List V) = [V.str _]), SX.int_S (by assumption) (by simp) (by assumption), (by assumption), ?_⟩
  | refine ⟨_, _, (rfl : (_ : List V) = [_, _]), ?_⟩
  | refine ⟨(rfl : (_ : Bool) = true), ?_⟩
  | refine ⟨(rfl : (_ : V) = V.non), ?_⟩
  | refine And.intro (by walk_at "sz") ?_
  | refine .inl ⟨_, rfl, ?_⟩)
local macro_rules | `(tactic| walk_at "w") => `(tactic| repeat walk_at "w1")
local macro_rules | `(tactic| walk_at "fld") => `(tactic| (fail_if_success with_reducible show @ite _ _ _ _ _); first
  | refine ⟨_, _, _, _, _, (rfl : _ = V.ref _), (by walk_at "hp"), Txt.cl_Heap _, Txt.nf__shapes _, hz_shapes _, ?_⟩
  | refine ⟨_, _, _, _, _, (rfl : _ = V.ref _), (by walk_at "hp"), Txt.cl_Heap _, Txt.nf__faces _, hz_faces _, ?_⟩
  | refine ⟨_, _, _, _, _, (rfl : _ = V.ref _), (by walk_at "hp"), Txt.cl_Heap _, Txt.nf__firsts _, hz_firsts _, ?_⟩
  | refine ⟨_, _, _, _, _, (rfl : _ = V.ref _), (by walk_at "hp"), Txt.cl_Heap _, Txt.nf__seconds _, hz_seconds _, ?_⟩
  | refine ⟨_, _, _, _, _, (rfl : _ = V.ref _), (by walk_at "hp"), Txt.cl_Heap _, Txt.nf__hefts _, hz_hefts _, ?_⟩
  | refine ⟨_, _, _, _, _, (rfl : _ = V.ref _), (by walk_at "hp"), Txt.cl_Heap _, Txt.nf__numbers _, hz_numbers _, ?_⟩
  | refine ⟨_, _, _, _, _, (rfl : _ = V.ref _), (by walk_at "hp"), Txt.cl_Heap _, Txt.nf__names _, hz_names _, ?_⟩
  | refine ⟨_, _, _, _, _, (rfl : _ = V.ref _), (by walk_at "hp"), Txt.cl_Heap _, Txt.nf__pairs _, hz_pairs _, ?_⟩)
local macro_rules | `(tactic| walk_at "wf") => `(tactic| repeat first | walk_at "w1" | walk_at "fld")
section
variable {P : Program} {w : World} {K : PySem.W.Frag} {mg : Str → Option Value} {base : Heap}
theorem tot_len : ∀ w : Wt, w.length ≤ tot w
  | [] => Nat.zero_le _
  | o :: w => by
    have := tot_len w
    rw [tot_cons, List.length_cons]
    cases o <;> dsimp only <;> omega
theorem paired_upd {G : List Nd} {H : Hp} {a : Addr} {o : HO} : ∀ {w : Wt} {us : List V}, Paired (WE G H) w us → a ∉ refs us → Paired (WE G (upd H a o)) w us := by
  intro w us p
  induction p with
  | nil => intro _; exact .nil
  | cons f r ih =>
    rename_i e v w' us'
    intro hn
    refine .cons ?_ (ih fun q => hn ?_)
    · cases e with
      | none => exact f
      | some l =>
        obtain ⟨a', ids, rfl, ha, hp⟩ := f
        exact ⟨a', ids, rfl, (upd_ne (fun q => hn (by simp [refs, q]))).trans ha, hp⟩
    · simp only [refs, List.mem_filterMap] at q ⊢
      obtain ⟨x, hx, ex⟩ := q
      exact ⟨x, by simp [hx], ex⟩
theorem refs_some {G : List Nd} {H : Hp} : ∀ {w : Wt} {us : List V}, Paired (WE G H) w us → ∀ a ∈ refs us, ∃ l, H a = some (.lst l) := by
  intro w us p
  induction p with
  | nil => intro a h; cases h
  | cons f r ih =>
    rename_i e v w' us'
    intro a h
    simp only [refs, List.mem_filterMap] at h
    obtain ⟨x, hx, ex⟩ := h
    rcases List.mem_cons.mp hx with q | q
    · subst q
      cases e with
      | none => rw [show x = .non from f] at ex; cases ex
      | some l =>
        obtain ⟨a', ids, rfl, ha, hp⟩ := f
        cases ex
        exact ⟨_, ha⟩
    · exact ih a (by simp only [refs, List.mem_filterMap]; exact ⟨x, q, ex⟩)
theorem WtAt.pushN {G : List Nd} {H : Hp} {z : Hz} {wl : Addr} {w : Wt} {vs : List V} (h : WtAt G H z wl w vs) : WtAt G (upd H wl (.lst (vs.reverse ++ [.non]))) z wl (none :: w) (.non :: vs) :=
  ⟨by rw [List.reverse_cons]; exact upd_same, .cons rfl (paired_upd h.pr (List.nodup_cons.mp h.nd).1), h.nd, h.ft⟩
theorem WtAt.pushL {G : List Nd} {H : Hp} {z : Hz} {wl p : Addr} {w : Wt} {vs : List V} (h : WtAt G H z wl w vs) (n : H p = none) (nf : p ∉ foot z) :
    WtAt G (upd (upd H p (.lst [])) wl (.lst (vs.reverse ++ [.ref p]))) z wl (some [] :: w) (.ref p :: vs) := by
  have nw : wl ≠ p := ne_of_none h.ls n
  have np : p ∉ refs vs := fun q => by
    obtain ⟨l, e⟩ := refs_some h.pr p q
    rw [n] at e; cases e
  have hn := List.nodup_cons.mp h.nd
  refine ⟨by rw [List.reverse_cons]; exact upd_same, .cons ⟨p, [], rfl, (upd_ne nw.symm).trans upd_same, .nil⟩ (paired_upd (paired_upd h.pr np) hn.1), ?_, ?_⟩
  · show (wl :: p :: refs vs).Nodup
    rw [List.nodup_cons, List.nodup_cons]
    refine ⟨fun q => ?_, np, hn.2⟩
    rcases List.mem_cons.mp q with q | q
    · exact nw q
    · exact hn.1 q
  · intro a ha
    rcases List.mem_cons.mp (show a ∈ wl :: p :: refs vs from ha) with q | q
    · exact h.ft a (by simp [q])
    · rcases List.mem_cons.mp q with q | q
      · rw [q]; exact nf
      · exact h.ft a (by simp [q])
theorem S_open : Str.ofString "(" = SX.S [40] := by decide +kernel
theorem S_tick : Str.ofString "'" = SX.S [39] := by decide +kernel
theorem S_close : Str.ofString ")" = SX.S [41] := by decide +kernel
/-- what a part does -/
def spTk (C : Addr) : Sp := fun us H Q _ => ∃ (z : Hz) (G : List Nd) (wl : Addr) (ws : Wt) (vs : List V) (c : Nat) (r : List Nat) (at_ : Int) (q : Wt × Option Tr), us = [.ref z.p, .ref wl, .str (SX.S (c :: r)), .int at_] ∧ HA C H z G G ∧ WF G ∧ WtAt G H z wl ws vs ∧
  Wh.take ws (c :: r) = some q ∧ (c :: r).length ≤ 1000000 ∧ G.length + tot ws + 20 < 16000000 ∧
  ∀ (v : V) (G' : List Nd) (H' : Hp) (vs' : List V), HA C H' z G' G' → WF G' → Ext G G' → WtAt G' H' z wl q.1 vs' → G'.length + tot q.1 ≤ G.length + tot ws + 4 → (∀ a ∈ refs vs', a ∈ refs vs ∨ H a = none) → Kp (foot z ++ (wl :: refs vs)) H H' → RV G' q.2 v → Q v H'
theorem ok_take (T : Txt K mg) : FnOk P w K mg base CX0 5 T.a_take T.d_take ["heap", "waiting", "part", "at"] (spTk T.C_Heap) := by
  refine T.take.fn.ok sc_take (fun vs H Q E h => ?_) (fun cdv A outer s H vs Q E hr h => ?_)
  · obtain ⟨z, G, wl, ws, vs, c, r, at_, q, rfl, _⟩ := h
    rfl
  · obtain ⟨z, G, wl, ws, vs, c, r, at_, q, rfl, hA, wf, hW, ht, hc, hl, k⟩ := h
    have hls := hW.ls
    have ob := hA.ob
    have hlen := paired_len hW.pr
    have htl := tot_len ws
    have sz : vs.reverse.length < sizeLine := by rw [List.length_reverse]; show _ < 16777216; omega
    refine ⟨_, (pss_cons (ps_if (pt_cmpR op_eq (pv 2) pe_str (nomark _)) (pss_cons (ps_expr (pe_bm PySem.F.plainAttrs_list PySem.F.slot_list_append PySem.F.type_list_append mt_append (pv 1) (pa_cons (pe_lst pa_nil) pa_nil)))
      (pss_one (ps_ret pe_non))) pss_nil)
      (pss_cons (ps_if (pt_cmpR op_eq (pv 2) pe_str (nomark _)) (pss_cons (ps_expr (pe_bm PySem.F.plainAttrs_list PySem.F.slot_list_append PySem.F.type_list_append mt_append (pv 1) (pa_cons pe_non pa_nil)))
      (pss_one (ps_ret pe_non))) pss_nil)
      (pss_cons (ps_if (pt_cmpR op_eq (pv 2) pe_str (nomark _)) (pss_cons (ps_if (PW.pt (pw_or (pt_not (pt_truth (pv 1) (by intro _; rfl))) (pw_or1 (pt_cmpR op_isN (pe_ix ix_list (pv 1) (pe_un un_neg pe_int) (fun _ _ => rfl)) pe_non (nomark _))))) (pss_one ps_never) pss_nil)
      (pss_cons (ps_set (i := 4) sc_take.nd rfl (Or.inl rfl) (pe_bm0 PySem.F.plainAttrs_list PySem.F.slot_list_pop PySem.F.type_list_pop mt_pop (pv 1)))
      (pss_one (ps_ret (pe_call (ok_settle (P := P) (w := w) (base := base) T) (hr.mono (by decide)) rfl T.settle.mg T.settle.fn.kp T.settle.b .nil pass0 (pa_cons (pv 0) (pa_cons (pv 1) (pa_cons (pe_meth (pv 0) T.cl_Heap T.Heap_listed.me (ok_Heap_listed (P := P) (w := w) (base := base) T) (hr.mono (by decide)) T.Heap_listed.b .nil pass0 (pa_cons (pv 4) pa_nil)) pa_nil)))))))) pss_nil)
      (pss_cons (ps_set (i := 5) sc_take.nd rfl (Or.inl rfl) (pe_call (ok_atom (P := P) (w := w) (base := base) T) (hr.mono (by decide)) rfl T.atom.mg T.atom.fn.kp T.atom.b .nil pass0 (pa_cons (pv 0) (pa_cons (pv 2) pa_nil))))
      (pss_cons (ps_if (pt_cmpR op_isN (pv 5) pe_non (nomark _)) (pss_one ps_never) pss_nil)
      (pss_one (ps_ret (pe_call (ok_settle (P := P) (w := w) (base := base) T) (hr.mono (by decide)) rfl T.settle.mg T.settle.fn.kp T.settle.b .nil pass0 (pa_cons (pv 0) (pa_cons (pv 1) (pa_cons (pv 5) pa_nil))))))))))), ?_⟩
    try dsimp only [cxOf, Cx.nox]
    walk_at "wf"
    refine iteD (fun e1 => ?_) (fun e1 => ?_)
    · have e := (str_eq S_open).mp e1
      walk_at "wf"
      refine ⟨Nat.zero_le _, fun p hp => ?_⟩
      have n1 : wl ≠ p := ne_of_none hls hp
      walk_at "wf"
      rw [e] at ht
      have hq : (some [] :: ws, none) = q := by
        unfold Wh.take at ht; rw [if_pos rfl] at ht; exact Option.some.inj ht
      subst hq
      refine k .non G _ (.ref p :: vs) ((hA.new hp).apart ⟨ne_of hls ob (fun q => by cases q), hW.ft wl (by simp)⟩) wf (.refl G) (hW.pushL hp (hA.not_foot hp)) (by dsimp only; rw [tot_cons]; simp; omega) (fun a ha => ?_) (((Kp.refl H).new hp).at (by simp)) rfl
      rcases List.mem_cons.mp (show a ∈ p :: refs vs from ha) with h | h
      · exact .inr (by rw [h]; exact hp)
      · exact .inl h
    · walk_at "wf"
      refine iteD (fun e2 => ?_) (fun e2 => ?_)
      · have e := (str_eq S_tick).mp e2
        walk_at "wf"
        rw [e] at ht
        have hq : (none :: ws, none) = q := by
          unfold Wh.take at ht; rw [if_neg (by decide), if_pos rfl] at ht; exact Option.some.inj ht
        subst hq
        exact k .non G _ (.non :: vs) (hA.apart ⟨ne_of hls ob (fun q => by cases q), hW.ft wl (by simp)⟩) wf (.refl G) hW.pushN (by dsimp only; rw [tot_cons]; dsimp only; omega) (fun a ha => .inl ha) ((Kp.refl H).at (by simp)) rfl
      · walk_at "wf"
        refine iteD (fun e3 => ?_) (fun e3 => ?_)
        · have e := (str_eq S_close).mp e3
          rw [e] at ht
          unfold Wh.take at ht
          rw [if_neg (by decide), if_neg (by decide), if_pos rfl] at ht
          cases hp : hW.pr with
          | nil => cases ht
          | cons f rr =>
            rename_i o v w2 vs2
            cases o with
            | none => cases ht
            | some l =>
              obtain ⟨a, ids, rfl, ha, hpl⟩ := f
              have hq : settle w2 (mkl l) = q := Option.some.inj ht
              subst hq
              have hat : atI (V.ref a :: vs2).reverse (-1) = some (.ref a) := by rw [List.reverse_cons]; exact atI_last _ _
              have hpop : (V.ref a :: vs2).reverse[(V.ref a :: vs2).reverse.length - 1]? = some (.ref a) := by simp
              walk_at "wf"
              refine ⟨_, .inl ⟨_, SqL.of hls, rfl⟩, ?_⟩
              refine iteFe (by simp) ?_
              walk_at "wf"
              refine iteFe (by simp) ?_
              walk_at "wf"
              have e2 : (V.ref a :: vs2).reverse.dropLast = vs2.reverse := by simp
              rw [e2]
              have hW2 := hW.pop
              have hA2 : HA T.C_Heap (upd H wl (.lst vs2.reverse)) z G G := hA.apart ⟨ne_of hls ob (fun q => by cases q), hW.ft wl (by simp)⟩
              have ob2 := hA2.ob
              have nwa : a ≠ wl := fun q => (List.nodup_cons.mp hW.nd).1 (by simp [refs, q])
              have ha2 : (upd H wl (.lst vs2.reverse)) a = some (.lst (ivs ids)) := (upd_ne nwa).trans ha
              have hll := paired_len hpl
              rw [tot_cons] at hl k
              dsimp only at hl k
              refine ⟨_, _, _, rfl, ob2, hz_no_listed _, ?_⟩
              walk_at "wf"
              refine ⟨z, G, a, ids, l, rfl, hA2, wf, SqL.of ha2, hW.ft a (by simp [refs]), hpl, by omega, fun j G5 H5 hA5 wf5 ex5 le5 den5 kp5 => ?_⟩
              walk_at "wf"
              refine ⟨z, G5, wl, w2, vs2, mkl l, j, rfl, hA5, wf5, hW2.kp ex5 kp5, den5, by omega, fun v G' H' vs' hA' wf' ex' hW' le' sub' kp' rv => ?_⟩
              refine k v G' H' vs' hA' wf' (ex5.trans ex') hW' (by omega) (fun b hb => .inl ?_) ((((Kp.refl H).at (by simp)).trans (kp5.mono (by simp +contextual))).trans (kp'.mono ?_)) rv
              · exact List.mem_cons_of_mem _ (sub' b hb)
              · intro b hb
                simp only [List.mem_append, List.mem_cons] at hb ⊢
                rcases hb with h | h | h
                · exact .inl h
                · exact .inr (.inl h)
                · exact .inr (.inr (List.mem_cons_of_mem _ h))
        · walk_at "wf"
          have ht2 : (atom (c :: r)).map (settle ws) = some q := by
            unfold Wh.take at ht
            rw [if_neg (fun e => e1 ((str_eq S_open).mpr e)), if_neg (fun e => e2 ((str_eq S_tick).mpr e)), if_neg (fun e => e3 ((str_eq S_close).mpr e))] at ht
            exact ht
          refine ⟨z, G, c, r, rfl, hA, wf, by omega, hc, fun e0 => ?_, fun t et i G1 H1 hA1 wf1 ex1 le1 den1 kp1 => ?_⟩
          · rw [e0] at ht2; cases ht2
          · rw [et] at ht2
            have hq : settle ws t = q := Option.some.inj ht2
            subst hq
            walk_at "wf"
            refine iteFe (by simp) ?_
            walk_at "wf"
            refine ⟨z, G1, wl, ws, vs, t, i, rfl, hA1, wf1, hW.kp ex1 kp1, den1, by omega, fun v G' H' vs' hA' wf' ex' hW' le' sub' kp' rv => ?_⟩
            exact k v G' H' vs' hA' wf' (ex1.trans ex') hW' (by omega) (fun b hb => .inl (sub' b hb)) ((kp1.mono (by simp +contextual)).trans kp') rv
end
end Wh
set_option Elab.async false
set_option linter.all false
set_option maxRecDepth 100000
set_option maxHeartbeats 1000000
/-! Reading a text: the loop. -/
namespace Wh
open PySem L2 PySem.Spec PyProof.Rows
local macro_rules | `(tactic| walk_at "ne") => `(tactic| first | with_reducible assumption | (apply Ne.symm; with_reducible assumption))
local macro_rules | `(tactic| walk_at "hp") => `(tactic| first | with_reducible assumption | with_reducible exact upd_same | ((with_reducible refine (upd_ne ?n).trans ?h); (case n => walk_at "ne"); (case h => walk_at "hp")) | ((with_reducible show upd _ _ _ _ = _); exact upd_same))
local macro_rules | `(tactic| walk_at "cond") => `(tactic| first | with_reducible assumption | exact (rfl : (_ : Bool) = true) | ((try dsimp only) <;> first | with_reducible assumption | decide | omega) | exact ⟨by first | decide | omega, by first | decide | omega⟩ | exact .inr ⟨by decide, by decide⟩)
local macro_rules | `(tactic| walk_at "sz") => `(tactic| first | with_reducible assumption | (show _ ≤ 16777216; omega))
local macro_rules | `(tactic| walk_at "at") => `(tactic| first | with_reducible assumption | exact atI_nat (by with_reducible assumption) | exact atI_nat (j := 0) (rfl : (_ : Option Nat) = some _) | exact atI_nat (by assumption))
local macro_rules | `(tactic| walk_at "w1") => `(tactic| (fail_if_success with_reducible show @ite _ _ _ _ _); first
  | refine ⟨_, rfl, ?_⟩
  | refine ⟨_, _, (rfl : _ = V.int _), (rfl : _ = V.int _), And.intro (by walk_at "cond") ?_⟩
  | refine ⟨_, _, (rfl : _ = V.int _), (rfl : _ = V.int _), ?_⟩
  | refine ⟨_, _, (rfl : _ = V.str _), (rfl : _ = V.str _), And.intro (by walk_at "sz") ?_⟩
  | refine ⟨_, _, (rfl : _ = V.str _), (rfl : _ = V.str _), ?_⟩
  | refine ⟨_, _, _, _, (rfl : _ = V.ref _), (rfl : _ = V.int _), SqL.of (by walk_at "hp"), rfl, ?_⟩
  | refine ⟨_, _, _, _, (rfl : _ = V.ref _), (rfl : _ = V.int _), (by walk_at "hp"), rfl, ?_⟩
  | refine ⟨Or.inl ⟨rfl, _, SqL.of (by walk_at "hp")⟩, ?_⟩
  | refine ⟨_, _, _, (rfl : _ = V.ref _), (rfl : (_ : List V) = _), (by walk_at "hp"), (by with_reducible assumption), ?_⟩
  | refine ⟨_, _, (rfl : (_ : List V) = _), Or.inl (SqL.of (by walk_at "hp")), ?_⟩
  | refine ⟨_, _, _, _, (rfl : _ = V.ref _), (rfl : _ = V.int _), SqL.of (by walk_at "hp"), (by walk_at "at"), ?_⟩
  | refine ⟨_, _, _, (rfl : _ = V.str _), (rfl : _ = V.int _), (by walk_at "sz"), (by walk_at "at"), ?_⟩
  | refine ⟨_, _, (rfl : (_ : List V) = [V.str _]), SX.int_S (by assumption) (by simp) (by assumption), (by assumption), ?_⟩
  | refine ⟨_, _, (rfl : (_ : List V) = [_, _]), ?_⟩
  | refine ⟨(rfl : (_ : Bool) = true), ?_⟩
  | refine ⟨(rfl : (_ : V) = V.non), ?_⟩
  | refine And.intro (by walk_at "sz") ?_
  | refine .inl ⟨_, rfl, ?_⟩)
local macro_rules | `(tactic| walk_at "w") => `(tactic| repeat walk_at "w1")
local macro_rules | `(tactic| walk_at "fld") => `(tactic| (fail_if_success with_reducible show @ite _ _ _ _ _); first
  | refine ⟨_, _, _, _, _, (rfl : _ = V.ref _), (by walk_at "hp"), Txt.cl_Heap _, Txt.nf__shapes _, hz_shapes _, ?_⟩
  | refine ⟨_, _, _, _, _, (rfl : _ = V.ref _), (by walk_at "hp"), Txt.cl_Heap _, Txt.nf__faces _, hz_faces _, ?_⟩
  | refine ⟨_, _, _, _, _, (rfl : _ = V.ref _), (by walk_at "hp"), Txt.cl_Heap _, Txt.nf__firsts _, hz_firsts _, ?_⟩
  | refine ⟨_, _, _, _, _, (rfl : _ = V.ref _), (by walk_at "hp"), Txt.cl_Heap _, Txt.nf__seconds _, hz_seconds _, ?_⟩
  | refine ⟨_, _, _, _, _, (rfl : _ = V.ref _), (by walk_at "hp"), Txt.cl_Heap _, Txt.nf__hefts _, hz_hefts _, ?_⟩
  | refine ⟨_, _, _, _, _, (rfl : _ = V.ref _), (by walk_at "hp"), Txt.cl_Heap _, Txt.nf__numbers _, hz_numbers _, ?_⟩
  | refine ⟨_, _, _, _, _, (rfl : _ = V.ref _), (by walk_at "hp"), Txt.cl_Heap _, Txt.nf__names _, hz_names _, ?_⟩
  | refine ⟨_, _, _, _, _, (rfl : _ = V.ref _), (by walk_at "hp"), Txt.cl_Heap _, Txt.nf__pairs _, hz_pairs _, ?_⟩)
local macro_rules | `(tactic| walk_at "wf") => `(tactic| repeat first | walk_at "w1" | walk_at "fld")
section
variable {P : Program} {w : World} {K : PySem.W.Frag} {mg : Str → Option Value} {base : Heap}
theorem iteMem {c : Nat} {z : Str} {f : Nat → Bool} {A B : Prop} (hm : ∀ c, c ∈ z.cps.toList ↔ f c = true) (h1 : f c = true → A) (h2 : f c = false → B) : if decide (c ∈ z.cps.toList) = true then A else B :=
  iteD (fun h => h1 ((hm c).mp h)) (fun h => h2 (by
    cases q : f c with
    | false => rfl
    | true => exact absurd ((hm c).mpr q) h))
theorem iteNotMem {c : Nat} {z : Str} {f : Nat → Bool} {A B : Prop} (hm : ∀ c, c ∈ z.cps.toList ↔ f c = true) (h1 : f c = false → A) (h2 : f c = true → B) : if (!decide (c ∈ z.cps.toList)) = true then A else B :=
  iteND (fun h => h1 (by
    cases q : f c with
    | false => rfl
    | true => exact absurd ((hm c).mpr q) h)) (fun h => h2 ((hm c).mp h))
def spEnd : Sp := fun us H Q _ => ∃ (l : List Nat) (a : Nat) (c : Nat) (r : List Nat), us = [.str (SX.S l), .int (a : Int)] ∧ l.drop a = c :: r ∧ l.length ≤ 1000000 ∧ Q (.int ((a + 1 + (if isW c = true then (r.takeWhile isW).length else 0) : Nat) : Int)) H
theorem drop_at {l : List Nat} {a c : Nat} {r : List Nat} (h : l.drop a = c :: r) : l[a]? = some c := by
  have := congrArg (fun x => x[0]?) h
  simpa using this
theorem ok_end_of_part (T : Txt K mg) : FnOk P w K mg base CX0 1 T.a_end_of_part T.d_end_of_part ["text", "at"] spEnd := by
  refine T.end_of_part.fn.ok sc_end_of_part (fun vs H Q E h => ?_) (fun cdv A outer s H vs Q E hr h => ?_)
  · obtain ⟨l, a, c, r, rfl, _⟩ := h
    rfl
  · obtain ⟨l, a, c, r, rfl, hd, hl, k⟩ := h
    have sz : (SX.S l).length ≤ sizeLine := by rw [SX.S_len]; show _ ≤ 16777216; omega
    have hat : atI (SX.S l).cps.toList (a : Int) = some c := atI_nat (drop_at hd)
    have hlen : a + (c :: r).length = l.length := by
      have := congrArg List.length hd
      rw [List.length_drop] at this
      simp at this ⊢; omega
    refine ⟨_, (pss_cons (ps_set (i := 2) sc_end_of_part.nd rfl (Or.inl rfl) (pe_op op_add (pv 1) pe_int))
      (pss_cons (ps_if (pt_cmpR op_in_sign (pe_ix ix_str (pv 0) (pv 1) (fun _ _ => rfl)) (pe_glob (v := .str "abcdefghijklmnopqrstuvwxyzABCDEFGHIJKLMNOPQRSTUVWXYZ0123456789") rfl T.c_WORD_SIGNS ⟨_, rfl⟩) rfl) (pss_one (ps_while PassesOwn.never (PW.pt (pw_and (pt_cmpR op_lt (pv 2) (pe_callB call_len_str (by rfl) T.b_len (by decide +kernel) (pa_cons (pv 0) pa_nil)) (nomark _)) (pw_and1 (pt_cmpR op_in_sign (pe_ix ix_str (pv 0) (pv 2) (fun _ _ => rfl)) (pe_glob (v := .str "abcdefghijklmnopqrstuvwxyzABCDEFGHIJKLMNOPQRSTUVWXYZ0123456789") rfl T.c_WORD_SIGNS ⟨_, rfl⟩) rfl)))) (pss_one (ps_aug (i := 2) sc_end_of_part.nd rfl (Or.inl rfl) pe_int ip_add)))) pss_nil)
      (pss_one (ps_ret (pv 2))))), ?_⟩
    try dsimp only [cxOf, Cx.nox]
    walk_at "wf"
    refine iteMem mem_words (fun hw => ?_) (fun hw => ?_)
    · refine while_by (fun σ H1 => H1 = H ∧ ∃ p rest, r = p ++ rest ∧ p.all isW = true ∧ σ = [some (.str (SX.S l)), some (.int (a : Int)), some (.int ((a + 1 + p.length : Nat) : Int))]) (fun σ _ => l.length - natAt 2 σ) ?_ ?_ ?_
      · exact ⟨rfl, [], r, rfl, rfl, rfl⟩
      · rintro σ H1 ⟨rfl, p, rest, er, hp, rfl⟩
        walk_at "wf"
        refine iteD (fun hlt => ?_) (fun hlt => ?_)
        · rw [SX.S_len] at hlt
          cases rest with
          | nil => rw [er] at hlen; simp at hlen; omega
          | cons d rest' =>
            have hd2 : l[a + 1 + p.length]? = some d := by
              have := congrArg (fun x => x[1 + p.length]?) hd
              simp only [List.getElem?_drop] at this
              rw [show a + 1 + p.length = a + (1 + p.length) from by omega, this, er]
              rw [show 1 + p.length = p.length + 1 from by omega, List.getElem?_cons_succ]
              simp
            have hat2 : atI (SX.S l).cps.toList ((a + 1 + p.length : Nat) : Int) = some d := atI_nat hd2
            walk_at "wf"
            refine iteMem mem_words (fun hw2 => ?_) (fun hw2 => ?_)
            · walk_at "wf"
              refine ⟨⟨rfl, p ++ [d], rest', by rw [er]; simp, by simp [hp, hw2], ?_⟩, ?_⟩
              · show [some _, some _, some (V.int (((a + 1 + p.length : Nat) : Int) + 1))] = _
                rw [show ((a + 1 + (p ++ [d]).length : Nat) : Int) = ((a + 1 + p.length : Nat) : Int) + 1 from by simp; omega]
              · show l.length - Int.toNat (((a + 1 + p.length : Nat) : Int) + 1) < l.length - Int.toNat ((a + 1 + p.length : Nat) : Int)
                omega
            · walk_at "wf"
              have e : (r.takeWhile isW).length = p.length := by
                rw [er, List.takeWhile_append_of_pos (fun x hx => List.all_eq_true.mp hp x hx)]
                simp [hw2]
              rw [if_pos hw, e] at k
              exact k
        · rw [SX.S_len] at hlt
          refine iteF ?_
          walk_at "wf"
          have e0 : rest = [] := by
            cases rest with
            | nil => rfl
            | cons d r' => rw [er] at hlen; simp at hlen; omega
          subst e0
          have e : (r.takeWhile isW).length = p.length := by
            rw [er, List.takeWhile_append_of_pos (fun x hx => List.all_eq_true.mp hp x hx)]
            simp
          rw [if_pos hw, e] at k
          exact k
      · rintro σ H1 Q1 Q2 hh ⟨v, e, v2, e2, z2, e3, s3, i, j, ei, ej, k1, ek, q⟩
        refine ⟨v, e, v2, e2, z2, e3, s3, i, j, ei, ej, k1, ek, ?_⟩
        cases k1 with
        | false => exact iteF (hh _ _ (by simpa using q))
        | true =>
          have q' := (if_pos rfl : (if true = true then _ else _) = _) ▸ q
          refine iteT ?_
          obtain ⟨v1, e1, v3, e3, z4, i4, c4, h1, h2, h3, h4, c5, z5, h5, h6, k6, ek, q1⟩ := q'
          exact ⟨v1, e1, v3, e3, z4, i4, c4, h1, h2, h3, h4, c5, z5, h5, h6, k6, ek, hh _ _ q1⟩
    · walk_at "wf"
      rw [if_neg (by rw [hw]; decide)] at k
      exact k
end
end Wh
set_option Elab.async false
set_option linter.all false
set_option maxRecDepth 100000
set_option maxHeartbeats 1000000
/-! Reading a text: read. -/
namespace Wh
open PySem L2 PySem.Spec PyProof.Rows
local macro_rules | `(tactic| walk_at "ne") => `(tactic| first | with_reducible assumption | (apply Ne.symm; with_reducible assumption))
local macro_rules | `(tactic| walk_at "hp") => `(tactic| first | with_reducible assumption | with_reducible exact upd_same | ((with_reducible refine (upd_ne ?n).trans ?h); (case n => walk_at "ne"); (case h => walk_at "hp")) | ((with_reducible show upd _ _ _ _ = _); exact upd_same))
local macro_rules | `(tactic| walk_at "cond") => `(tactic| first | with_reducible assumption | exact (rfl : (_ : Bool) = true) | ((try dsimp only) <;> first | with_reducible assumption | decide | omega) | exact ⟨by first | decide | omega, by first | decide | omega⟩ | exact .inr ⟨by decide, by decide⟩)
local macro_rules | `(tactic| walk_at "sz") => `(tactic| first | with_reducible assumption | (show _ ≤ 16777216; omega))
local macro_rules | `(tactic| walk_at "at") => `(tactic| first | with_reducible assumption | exact atI_nat (by with_reducible assumption) | exact atI_nat (j := 0) (rfl : (_ : Option Nat) = some _) | exact atI_nat (by assumption))
local macro_rules | `(tactic| walk_at "w1") => `(tactic| (fail_if_success with_reducible show @ite _ _ _ _ _); first
  | refine ⟨_, rfl, ?_⟩
  | refine ⟨_, _, (rfl : _ = V.int _), (rfl : _ = V.int _), And.intro (by walk_at "cond") ?_⟩
  | refine ⟨_, _, (rfl : _ = V.int _), (rfl : _ = V.int _), ?_⟩
  | refine ⟨_, _, (rfl : _ = V.str _), (rfl : _ = V.str _), And.intro (by walk_at "sz") ?_⟩
  | refine ⟨_, _, (rfl : _ = V.str _), (rfl : _ = V.str _), ?_⟩
  | refine ⟨_, _, _, _, (rfl : _ = V.ref _), (rfl : _ = V.int _), SqL.of (by walk_at "hp"), rfl, ?_⟩
  | refine ⟨_, _, _, _, (rfl : _ = V.ref _), (rfl : _ = V.int _), (by walk_at "hp"), rfl, ?_⟩
  | refine ⟨Or.inl ⟨rfl, _, SqL.of (by walk_at "hp")⟩, ?_⟩
  | refine ⟨_, _, _, (rfl : _ = V.ref _), (rfl : (_ : List V) = _), (by walk_at "hp"), (by with_reducible assumption), ?_⟩
  | refine ⟨_, _, (rfl : (_ : List V) = _), Or.inl (SqL.of (by walk_at "hp")), ?_⟩
  | refine ⟨_, _, _, _, (rfl : _ = V.ref _), (rfl : _ = V.int _), SqL.of (by walk_at "hp"), (by walk_at "at"), ?_⟩
  | refine ⟨_, _, _, (rfl : _ = V.str _), (rfl : _ = V.int _), (by walk_at "sz"), (by walk_at "at"), ?_⟩
  | refine ⟨_, _, (rfl : (_ : List V) = [V.str _]), SX.int_S (by assumption) (by simp) (by assumption), (by assumption), ?_⟩
  | refine ⟨_, _, (rfl : (_ : List V) = [_, _]), ?_⟩
  | refine ⟨(rfl : (_ : Bool) = true), ?_⟩
  | refine ⟨(rfl : (_ : V) = V.non), ?_⟩
  | refine And.intro (by walk_at "sz") ?_
  | refine .inl ⟨_, rfl, ?_⟩)
local macro_rules | `(tactic| walk_at "w") => `(tactic| repeat walk_at "w1")
local macro_rules | `(tactic| walk_at "fld") => `(tactic| (fail_if_success with_reducible show @ite _ _ _ _ _); first
  | refine ⟨_, _, _, _, _, (rfl : _ = V.ref _), (by walk_at "hp"), Txt.cl_Heap _, Txt.nf__shapes _, hz_shapes _, ?_⟩
  | refine ⟨_, _, _, _, _, (rfl : _ = V.ref _), (by walk_at "hp"), Txt.cl_Heap _, Txt.nf__faces _, hz_faces _, ?_⟩
  | refine ⟨_, _, _, _, _, (rfl : _ = V.ref _), (by walk_at "hp"), Txt.cl_Heap _, Txt.nf__firsts _, hz_firsts _, ?_⟩
  | refine ⟨_, _, _, _, _, (rfl : _ = V.ref _), (by walk_at "hp"), Txt.cl_Heap _, Txt.nf__seconds _, hz_seconds _, ?_⟩
  | refine ⟨_, _, _, _, _, (rfl : _ = V.ref _), (by walk_at "hp"), Txt.cl_Heap _, Txt.nf__hefts _, hz_hefts _, ?_⟩
  | refine ⟨_, _, _, _, _, (rfl : _ = V.ref _), (by walk_at "hp"), Txt.cl_Heap _, Txt.nf__numbers _, hz_numbers _, ?_⟩
  | refine ⟨_, _, _, _, _, (rfl : _ = V.ref _), (by walk_at "hp"), Txt.cl_Heap _, Txt.nf__names _, hz_names _, ?_⟩
  | refine ⟨_, _, _, _, _, (rfl : _ = V.ref _), (by walk_at "hp"), Txt.cl_Heap _, Txt.nf__pairs _, hz_pairs _, ?_⟩)
local macro_rules | `(tactic| walk_at "wf") => `(tactic| repeat first | walk_at "w1" | walk_at "fld")
section
variable {P : Program} {w : World} {K : PySem.W.Frag} {mg : Str → Option Value} {base : Heap}
theorem cut_S {l : List Nat} {a e : Nat} (h : a ≤ e) (he : e ≤ l.length) : cutS (SX.S l) (some (a : Int)) (some (e : Int)) = SX.S ((l.drop a).take (e - a)) := by
  unfold cutS
  rw [HT.sIx_nat, HT.sIx_nat, SX.S_len, Nat.min_eq_left he, Nat.min_eq_left (by omega)]
def kOf (c : Nat) (r : List Nat) : Nat := if isW c = true then (r.takeWhile isW).length else 0
theorem take_tw (r : List Nat) : r.take (r.takeWhile isW).length = r.takeWhile isW := by
  have h := List.takeWhile_append_dropWhile (p := isW) (l := r)
  have : (r.takeWhile isW ++ r.dropWhile isW).take (r.takeWhile isW).length = r.takeWhile isW := List.take_left
  rw [h] at this
  exact this
theorem drop_tw (r : List Nat) : r.drop (r.takeWhile isW).length = r.dropWhile isW := by
  have h := List.takeWhile_append_dropWhile (p := isW) (l := r)
  have : (r.takeWhile isW ++ r.dropWhile isW).drop (r.takeWhile isW).length = r.dropWhile isW := List.drop_left
  rw [h] at this
  exact this
theorem kOf_le (c : Nat) (r : List Nat) : kOf c r ≤ r.length := by
  unfold kOf
  split
  · have := congrArg List.length (List.takeWhile_append_dropWhile (p := isW) (l := r))
    rw [List.length_append] at this
    omega
  · exact Nat.zero_le _
theorem tk_step {c : Nat} {r : List Nat} (hb : isB c = false) : tk (c :: r) = (c :: r.take (kOf c r)) :: tk (r.drop (kOf c r)) := by
  unfold kOf
  cases hw : isW c with
  | true =>
    rw [if_pos rfl, take_tw, drop_tw, tk_step_W hw]
  | false =>
    rw [if_neg (by decide), tk_step_S hw hb]
    rfl
theorem kOf_blank {c : Nat} (r : List Nat) (hb : isB c = true) : kOf c r = 0 := by
  unfold kOf
  rw [blank_notW hb]
  rfl
def spRead (C : Addr) : Sp := fun us H Q _ => ∃ (z : Hz) (G : List Nd) (l : List Nat) (t : Tr), us = [.ref z.p, .str (SX.S l)] ∧ HA C H z G G ∧ WF G ∧ l.length ≤ 1000000 ∧ G.length + 4 * l.length + 100 < 16000000 ∧ run [] none (tk l) = some ([], some t) ∧
  ∀ (i : Nat) (G' : List Nd) (H' : Hp), HA C H' z G' G' → WF G' → Ext G G' → G'.length ≤ G.length + 4 * l.length → Den G' t i → Kp (foot z) H H' → Q (.int (i : Int)) H'
theorem ok_read (T : Txt K mg) : FnOk P w K mg base CX0 6 T.a_read T.d_read ["heap", "text"] (spRead T.C_Heap) := by
  refine T.read.fn.ok sc_read (fun vs H Q E h => ?_) (fun cdv A outer s H vs Q E hr h => ?_)
  · obtain ⟨z, G, l, t, rfl, _⟩ := h
    rfl
  · obtain ⟨z, G, l, t, rfl, hA, wf, hl, hs, hrun, k⟩ := h
    have sz : (SX.S l).length ≤ sizeLine := by rw [SX.S_len]; show _ ≤ 16777216; omega
    refine ⟨_, (pss_cons (ps_set (i := 2) sc_read.nd rfl (Or.inl rfl) (pe_lst pa_nil))
      (pss_cons (ps_set (i := 3) sc_read.nd rfl (Or.inl rfl) pe_non)
      (pss_cons (ps_set (i := 4) sc_read.nd rfl (Or.inl rfl) pe_int)
      (pss_cons (ps_while PassesOwn.never (pt_cmpR op_lt (pv 4) (pe_callB call_len_str (by rfl) T.b_len (by decide +kernel) (pa_cons (pv 1) pa_nil)) (nomark _)) (pss_cons (ps_set (i := 5) sc_read.nd rfl (Or.inl rfl) (pe_call (ok_end_of_part (P := P) (w := w) (base := base) T) (hr.mono (by decide)) rfl T.end_of_part.mg T.end_of_part.fn.kp T.end_of_part.b .nil pass0 (pa_cons (pv 1) (pa_cons (pv 4) pa_nil))))
      (pss_cons (ps_if (pt_cmpR op_notIn_sign (pe_ix ix_str (pv 1) (pv 4) (fun _ _ => rfl)) (pe_glob (v := .str " \n") rfl T.c_BLANKS ⟨_, rfl⟩) rfl) (pss_cons (ps_if (pt_cmpR op_notN (pv 3) pe_non (nomark _)) (pss_one ps_never) pss_nil)
      (pss_one (ps_set (i := 3) sc_read.nd rfl (Or.inl rfl) (pe_call (ok_take (P := P) (w := w) (base := base) T) (hr.mono (by decide)) rfl T.take.mg T.take.fn.kp T.take.b .nil pass0 (pa_cons (pv 0) (pa_cons (pv 2) (pa_cons (pe_slice sl_str (pv 1) (po_some (pv 4)) (po_some (pv 5))) (pa_cons (pv 4) pa_nil)))))))) pss_nil)
      (pss_one (ps_set (i := 4) sc_read.nd rfl (Or.inl rfl) (pv 5))))))
      (pss_cons (ps_if (pt_cmpR op_isN (pv 3) pe_non (nomark _)) (pss_one ps_never) pss_nil)
      (pss_one (ps_ret (pv 3)))))))), ?_⟩
    try dsimp only [cxOf, Cx.nox]
    walk_at "wf"
    refine ⟨Nat.zero_le _, fun wl hwl => ?_⟩
    walk_at "wf"
    refine while_by (fun σ H1 => ∃ (ws : Wt) (vs : List V) (r : Option Tr) (v : V) (a : Nat) (G1 : List Nd) (e : Option V), σ = [some (.ref z.p), some (.str (SX.S l)), some (.ref wl), some v, some (.int (a : Int)), e] ∧ a ≤ l.length ∧
      HA T.C_Heap H1 z G1 G1 ∧ WF G1 ∧ Ext G G1 ∧ WtAt G1 H1 z wl ws vs ∧ G1.length + tot ws ≤ G.length + 4 * a ∧ RV G1 r v ∧ run ws r (tk (l.drop a)) = some ([], some t) ∧ (∀ b ∈ wl :: refs vs, H b = none) ∧ Kp (foot z) H H1) (fun σ _ => l.length - natAt 4 σ) ?_ ?_ ?_
    · refine ⟨[], [], none, .non, 0, G, none, rfl, Nat.zero_le _, hA.new hwl, wf, .refl G, ⟨upd_same, .nil, by simp [refs], fun a ha => ?_⟩, by simp [tot], rfl, hrun, fun b hb => ?_, (Kp.refl H).new hwl⟩
      · rw [show a = wl from by simpa [refs] using ha]; exact hA.not_foot hwl
      · rw [show b = wl from by simpa [refs] using hb]; exact hwl
    · rintro σ H1 ⟨ws, vs, r, v, a, G1, e, rfl, ha, hA1, wf1, ex1, hW1, le1, rv1, run1, new1, kp1⟩
      walk_at "wf"
      refine iteD (fun hlt => ?_) (fun hlt => ?_)
      · rw [SX.S_len] at hlt
        have hlt' : a < l.length := by omega
        cases hd : l.drop a with
        | nil => rw [List.drop_eq_nil_iff] at hd; omega
        | cons c rr =>
          have hlen : a + (rr.length + 1) = l.length := by
            have := congrArg List.length hd
            rw [List.length_drop] at this
            simp at this; omega
          have hk := kOf_le c rr
          have hdn : l.drop (a + 1 + kOf c rr) = rr.drop (kOf c rr) := by
            rw [Nat.add_assoc, ← List.drop_drop, hd, Nat.add_comm 1, List.drop_succ_cons]
          have hat : atI (SX.S l).cps.toList (a : Int) = some c := atI_nat (drop_at hd)
          walk_at "wf"
          refine ⟨l, a, c, rr, rfl, hd, hl, ?_⟩
          rw [show (if isW c = true then (rr.takeWhile isW).length else 0) = kOf c rr from rfl]
          walk_at "wf"
          refine iteNotMem mem_blanks (fun hb => ?_) (fun hb => ?_)
          · rw [hd, tk_step hb] at run1
            cases r with
            | some u => cases run1
            | none =>
              have hv : v = .non := rv1
              subst hv
              cases ht : Wh.take ws (c :: rr.take (kOf c rr)) with
              | none => simp only [run, ht] at run1; cases run1
              | some q =>
                simp only [run, ht] at run1
                walk_at "wf"
                refine iteNS rfl ?_
                have ecut : cutS (SX.S l) (some (a : Int)) (some ((a + 1 + kOf c rr : Nat) : Int)) = SX.S (c :: rr.take (kOf c rr)) := by
                  rw [cut_S (by omega) (by omega), hd, show a + 1 + kOf c rr - a = kOf c rr + 1 from by omega, List.take_succ_cons]
                walk_at "wf"
                refine ⟨z, G1, wl, ws, vs, c, rr.take (kOf c rr), (a : Int), q, by rw [ecut]; rfl, hA1, wf1, hW1, ht, by simp [List.length_take]; omega, by omega, fun v2 G2 H2 vs2 hA2 wf2 ex2 hW2 le2 sub2 kp2 rv2 => ?_⟩
                walk_at "wf"
                refine ⟨⟨q.1, vs2, q.2, v2, a + 1 + kOf c rr, G2, _, rfl, by omega, hA2, wf2, ex1.trans ex2, hW2, by omega, rv2, by rw [hdn]; exact run1, fun b hb => ?_, fun b o nb hb => ?_⟩, ?_⟩
                · rcases List.mem_cons.mp hb with h | h
                  · rw [h]; exact new1 wl (by simp)
                  · rcases sub2 b h with h2 | h2
                    · exact new1 b (by simp [h2])
                    · exact kp1.none (hW2.ft b hb) h2
                · refine kp2 b o (fun q => ?_) (kp1 b o nb hb)
                  rcases List.mem_append.mp q with q | q
                  · exact nb q
                  · rw [new1 b q] at hb; cases hb
                · show l.length - Int.toNat ((a + 1 + kOf c rr : Nat) : Int) < l.length - Int.toNat (a : Int)
                  omega
          · rw [hd, tk_step_B hb] at run1
            have k0 := kOf_blank rr hb
            walk_at "wf"
            rw [k0] at hdn ⊢
            refine ⟨⟨ws, vs, r, v, a + 1, G1, _, rfl, by omega, hA1, wf1, ex1, hW1, by omega, rv1, ?_, new1, kp1⟩, ?_⟩
            · rw [show l.drop (a + 1) = rr from hdn]; exact run1
            · show l.length - Int.toNat ((a + 1 + 0 : Nat) : Int) < l.length - Int.toNat (a : Int)
              omega
      · rw [SX.S_len] at hlt
        have e0 : l.drop a = [] := List.drop_eq_nil_iff.mpr (by omega)
        rw [e0] at run1
        have e1 : (ws, r) = ([], some t) := Option.some.inj run1
        cases e1
        obtain ⟨j, rfl, dj⟩ := rv1
        walk_at "wf"
        refine iteFe (by simp) ?_
        walk_at "wf"
        exact k j G1 H1 hA1 wf1 ex1 (by simp [tot] at le1; omega) dj kp1
    · rintro σ H1 Q1 Q2 hh ⟨v, e, v2, e2, z2, e3, s3, i, j, ei, ej, k1, ek, q⟩
      exact ⟨v, e, v2, e2, z2, e3, s3, i, j, ei, ej, k1, ek, hh _ _ q⟩
end
end Wh
set_option Elab.async false
set_option linter.all false
set_option maxRecDepth 100000
set_option maxHeartbeats 1000000
/-! Writing a value. -/
namespace Wh
open PySem L2 PySem.Spec PyProof.Rows
local macro_rules | `(tactic| walk_at "ne") => `(tactic| first | with_reducible assumption | (apply Ne.symm; with_reducible assumption))
local macro_rules | `(tactic| walk_at "hp") => `(tactic| first | with_reducible assumption | with_reducible exact upd_same | ((with_reducible refine (upd_ne ?n).trans ?h); (case n => walk_at "ne"); (case h => walk_at "hp")) | ((with_reducible show upd _ _ _ _ = _); exact upd_same))
local macro_rules | `(tactic| walk_at "cond") => `(tactic| first | with_reducible assumption | exact (rfl : (_ : Bool) = true) | ((try dsimp only) <;> first | with_reducible assumption | decide | omega) | exact ⟨by first | decide | omega, by first | decide | omega⟩ | exact .inr ⟨by decide, by decide⟩)
local macro_rules | `(tactic| walk_at "sz") => `(tactic| first | with_reducible assumption | (show _ ≤ 16777216; omega))
local macro_rules | `(tactic| walk_at "at") => `(tactic| first | with_reducible assumption | exact atI_nat (by with_reducible assumption) | exact atI_nat (j := 0) (rfl : (_ : Option Nat) = some _) | exact atI_nat (by assumption))
local macro_rules | `(tactic| walk_at "w1") => `(tactic| (fail_if_success with_reducible show @ite _ _ _ _ _); first
  | refine ⟨_, rfl, ?_⟩
  | refine ⟨_, _, (rfl : _ = V.int _), (rfl : _ = V.int _), And.intro (by walk_at "cond") ?_⟩
  | refine ⟨_, _, (rfl : _ = V.int _), (rfl : _ = V.int _), ?_⟩
  | refine ⟨_, _, (rfl : _ = V.str _), (rfl : _ = V.str _), And.intro (by walk_at "sz") ?_⟩
  | refine ⟨_, _, (rfl : _ = V.str _), (rfl : _ = V.str _), ?_⟩
  | refine ⟨_, _, _, _, (rfl : _ = V.ref _), (rfl : _ = V.int _), SqL.of (by walk_at "hp"), rfl, ?_⟩
  | refine ⟨_, _, _, _, (rfl : _ = V.ref _), (rfl : _ = V.int _), (by walk_at "hp"), rfl, ?_⟩
  | refine ⟨Or.inl ⟨rfl, _, SqL.of (by walk_at "hp")⟩, ?_⟩
  | refine ⟨_, _, _, (rfl : _ = V.ref _), (rfl : (_ : List V) = _), (by walk_at "hp"), (by with_reducible assumption), ?_⟩
  | refine ⟨_, _, (rfl : (_ : List V) = _), Or.inl (SqL.of (by walk_at "hp")), ?_⟩
  | refine ⟨_, _, _, _, (rfl : _ = V.ref _), (rfl : _ = V.int _), SqL.of (by walk_at "hp"), (by walk_at "at"), ?_⟩
  | refine ⟨_, _, _, (rfl : _ = V.str _), (rfl : _ = V.int _), (by walk_at "sz"), (by walk_at "at"), ?_⟩
  | refine ⟨_, _, (rfl : (_ : List V) = [V.str _]), SX.int_S (by assumption) (by simp) (by assumption), (by assumption), ?_⟩
  | refine ⟨_, _, (rfl : (_ : List V) = [_, _]), ?_⟩
  | refine ⟨(rfl : (_ : Bool) = true), ?_⟩
  | refine ⟨(rfl : (_ : V) = V.non), ?_⟩
  | refine And.intro (by walk_at "sz") ?_
  | refine .inl ⟨_, rfl, ?_⟩)
local macro_rules | `(tactic| walk_at "w") => `(tactic| repeat walk_at "w1")
local macro_rules | `(tactic| walk_at "fld") => `(tactic| (fail_if_success with_reducible show @ite _ _ _ _ _); first
  | refine ⟨_, _, _, _, _, (rfl : _ = V.ref _), (by walk_at "hp"), Txt.cl_Heap _, Txt.nf__shapes _, hz_shapes _, ?_⟩
  | refine ⟨_, _, _, _, _, (rfl : _ = V.ref _), (by walk_at "hp"), Txt.cl_Heap _, Txt.nf__faces _, hz_faces _, ?_⟩
  | refine ⟨_, _, _, _, _, (rfl : _ = V.ref _), (by walk_at "hp"), Txt.cl_Heap _, Txt.nf__firsts _, hz_firsts _, ?_⟩
  | refine ⟨_, _, _, _, _, (rfl : _ = V.ref _), (by walk_at "hp"), Txt.cl_Heap _, Txt.nf__seconds _, hz_seconds _, ?_⟩
  | refine ⟨_, _, _, _, _, (rfl : _ = V.ref _), (by walk_at "hp"), Txt.cl_Heap _, Txt.nf__hefts _, hz_hefts _, ?_⟩
  | refine ⟨_, _, _, _, _, (rfl : _ = V.ref _), (by walk_at "hp"), Txt.cl_Heap _, Txt.nf__numbers _, hz_numbers _, ?_⟩
  | refine ⟨_, _, _, _, _, (rfl : _ = V.ref _), (by walk_at "hp"), Txt.cl_Heap _, Txt.nf__names _, hz_names _, ?_⟩
  | refine ⟨_, _, _, _, _, (rfl : _ = V.ref _), (by walk_at "hp"), Txt.cl_Heap _, Txt.nf__pairs _, hz_pairs _, ?_⟩)
local macro_rules | `(tactic| walk_at "wf") => `(tactic| repeat first | walk_at "w1" | walk_at "fld")
section
variable {P : Program} {w : World} {K : PySem.W.Frag} {mg : Str → Option Value} {base : Heap}
theorem face_quote {G : List Nd} {a : Tr} {d : Nd} (h : NodeIs G a d) : faceV d = V.str (Str.ofString "quote") ↔ isQ a = true := by
  cases a with
  | nil => cases h; simp [faceV, isQ]
  | num n => cases h; simp [faceV, isQ]
  | nam l =>
    cases h
    show V.str (SX.S l) = _ ↔ (l == quoL) = true
    rw [str_eq S_quote]
    simp
  | cons a b => obtain ⟨x, y, rfl, _⟩ := h; simp [faceV, isQ]
theorem scal_face (d : Nd) (x : Str) : scal (faceV d) (.str x) = true := by cases d <;> rfl
def spQuoted (C : Addr) : Sp := fun us H Q _ => ∃ (z : Hz) (G : List Nd) (i : Nat) (a b : Tr), us = [.ref z.p, .int (i : Int)] ∧ HA C H z G G ∧ WF G ∧ Den G (.cons a b) i ∧ Pr (.cons a b) ∧ ∀ v, RV G (quoted (.cons a b)) v → Q v H
theorem quoted_nil (a : Tr) : quoted (.cons a .nil) = none := rfl
theorem quoted_long (a b c d : Tr) : quoted (.cons a (.cons b (.cons c d))) = none := rfl
theorem quoted_not {a b : Tr} (h : ¬ isQ a = true) : quoted (.cons a b) = none := by
  cases b with
  | cons c d =>
    cases d with
    | nil => show (if isQ a = true then some c else none) = none; rw [if_neg h]
    | _ => rfl
  | _ => rfl
theorem quoted_yes {a c : Tr} (h : isQ a = true) : quoted (.cons a (.cons c .nil)) = some c := by
  show (if isQ a = true then some c else none) = some c
  rw [if_pos h]
theorem ok_quoted (T : Txt K mg) : FnOk P w K mg base CX0 2 T.a_quoted T.d_quoted ["heap", "value"] (spQuoted T.C_Heap) := by
  refine T.quoted.fn.ok sc_quoted (fun vs H Q E h => ?_) (fun cdv A outer s H vs Q E hr h => ?_)
  · obtain ⟨z, G, i, a, b, rfl, _⟩ := h
    rfl
  · obtain ⟨z, G, i, a, b, rfl, hA, wf, ⟨x, y, hi, da, db⟩, pr, k⟩ := h
    have ob := hA.ob
    obtain ⟨nx, hx, hnx⟩ := da.node
    obtain ⟨ny, hy, hny⟩ := db.node
    refine ⟨_, (pss_cons (ps_if (pt_cmpR op_ne (pe_meth (pv 0) T.cl_Heap T.Heap_face.me (ok_Heap_face (P := P) (w := w) (base := base) T) (hr.mono (by decide)) T.Heap_face.b .nil pass0 (pa_cons (pe_meth (pv 0) T.cl_Heap T.Heap_first.me (ok_Heap_first (P := P) (w := w) (base := base) T) (hr.mono (by decide)) T.Heap_first.b .nil pass0 (pa_cons (pv 1) pa_nil)) pa_nil)) pe_str (nomark _)) (pss_one (ps_ret pe_non)) pss_nil)
      (pss_cons (ps_set (i := 2) sc_quoted.nd rfl (Or.inl rfl) (pe_meth (pv 0) T.cl_Heap T.Heap_second.me (ok_Heap_second (P := P) (w := w) (base := base) T) (hr.mono (by decide)) T.Heap_second.b .nil pass0 (pa_cons (pv 1) pa_nil)))
      (pss_cons (ps_if (PW.pt (pw_or (pt_cmpR op_eq (pv 2) (pe_glob (v := .int 0) rfl T.c_NIL ⟨_, rfl⟩) (nomark _)) (pw_or1 (pt_cmpR op_ne (pe_meth (pv 0) T.cl_Heap T.Heap_second.me (ok_Heap_second (P := P) (w := w) (base := base) T) (hr.mono (by decide)) T.Heap_second.b .nil pass0 (pa_cons (pv 2) pa_nil)) (pe_glob (v := .int 0) rfl T.c_NIL ⟨_, rfl⟩) (nomark _))))) (pss_one (ps_ret pe_non)) pss_nil)
      (pss_one (ps_ret (pe_meth (pv 0) T.cl_Heap T.Heap_first.me (ok_Heap_first (P := P) (w := w) (base := base) T) (hr.mono (by decide)) T.Heap_first.b .nil pass0 (pa_cons (pv 2) pa_nil))))))), ?_⟩
    try dsimp only [cxOf, Cx.nox]
    walk_at "wf"
    refine ⟨_, _, _, rfl, ob, hz_no_face _, ?_⟩
    walk_at "wf"
    refine ⟨_, _, _, rfl, ob, hz_no_first _, ?_⟩
    walk_at "wf"
    refine ⟨z, G, G, i, .pr x y, rfl, hA, hi, ?_⟩
    walk_at "wf"
    refine ⟨z, G, G, x, nx, rfl, hA, hx, ?_⟩
    refine ⟨scal_face _ _, ?_⟩
    walk_at "wf"
    refine iteND (fun hq => ?_) (fun hq => ?_)
    · walk_at "wf"
      exact k .non (by rw [quoted_not (fun q => hq ((face_quote hnx).mpr q))]; rfl)
    · have q := (face_quote hnx).mp hq
      walk_at "wf"
      refine ⟨_, _, _, rfl, ob, hz_no_second _, ?_⟩
      walk_at "wf"
      refine ⟨z, G, G, i, .pr x y, rfl, hA, hi, ?_⟩
      walk_at "wf"
      refine iteD (fun h0 => ?_) (fun h0 => ?_)
      · refine iteT ?_
        walk_at "wf"
        have y0 : y = 0 := by
          have := V.int.inj (show V.int (y : Int) = V.int 0 from h0)
          omega
        have eb : b = .nil := by
          have hz := wf.z
          rw [y0, hz] at hy
          cases hy
          cases b with
          | nil => rfl
          | num n => cases hny
          | nam n => cases hny
          | cons e f => obtain ⟨_, _, e, _⟩ := hny; cases e
        subst eb
        exact k .non rfl
      · have hb0 : b ≠ .nil := fun e => by
          subst e
          have := wf.nil_at db
          exact h0 (by show V.int (y : Int) = V.int 0; rw [this]; rfl)
        cases b with
        | nil => exact absurd rfl hb0
        | num n => exact absurd pr.2.2 (by simp [isL])
        | nam n => exact absurd pr.2.2 (by simp [isL])
        | cons c d =>
          obtain ⟨x2, y2, rfl, dc, dd⟩ := hny
          walk_at "wf"
          refine ⟨_, _, _, rfl, ob, hz_no_second _, ?_⟩
          walk_at "wf"
          refine ⟨z, G, G, y, .pr x2 y2, rfl, hA, hy, ?_⟩
          walk_at "wf"
          refine iteND (fun h2 => ?_) (fun h2 => ?_)
          · walk_at "wf"
            have hd0 : d ≠ .nil := fun e => by
              subst e
              have := wf.nil_at dd
              exact h2 (by show V.int (y2 : Int) = V.int 0; rw [this]; rfl)
            have e : quoted (.cons a (.cons c d)) = none := by
              cases d with
              | nil => exact absurd rfl hd0
              | _ => rfl
            exact k .non (by rw [e]; rfl)
          · have y0 : y2 = 0 := by
              have := V.int.inj (show V.int (y2 : Int) = V.int 0 from h2)
              omega
            have ed : d = .nil := by
              obtain ⟨nd, hd1, hd2⟩ := dd.node
              have hz := wf.z
              rw [y0, hz] at hd1
              cases hd1
              cases d with
              | nil => rfl
              | num n => cases hd2
              | nam n => cases hd2
              | cons e f => obtain ⟨_, _, e, _⟩ := hd2; cases e
            subst ed
            walk_at "wf"
            refine ⟨_, _, _, rfl, ob, hz_no_first _, ?_⟩
            walk_at "wf"
            refine ⟨z, G, G, y, .pr x2 y2, rfl, hA, hy, ?_⟩
            exact k _ (by rw [quoted_yes q]; exact ⟨x2, rfl, dc⟩)
/-! ### the members on the stack -/
def sp1 : V := .str (SX.S [32])
def inter : List V → List V
  | [] => []
  | x :: r => x :: r.flatMap fun y => [sp1, y]
theorem S_space : Str.ofString " " = SX.S [32] := by decide +kernel
def pmL (xs : List V) (j : Nat) : List V := if j = 0 then (inter xs).reverse else ((xs.drop j).flatMap fun y => [sp1, y]).reverse
theorem pmL_step {xs : List V} {j : Nat} {x : V} (h : xs[j]? = some x) : pmL xs j = pmL xs (j + 1) ++ (x :: if 0 < j then [sp1] else []) := by
  have hj := (List.getElem?_eq_some_iff.mp h)
  obtain ⟨hl, hx⟩ := hj
  unfold pmL
  rw [if_neg (by omega : ¬ j + 1 = 0)]
  cases j with
  | zero =>
    cases xs with
    | nil => simp at hl
    | cons y r =>
      simp at hx
      subst hx
      simp [inter]
  | succ j =>
    rw [if_neg (by omega), if_pos (by omega), List.drop_eq_getElem_cons hl, hx]
    simp [List.flatMap_cons]
def spPut (K : PySem.W.Frag) : Sp := fun us H Q _ => ∃ (a td : Addr) (ids : List Nat) (bs : List V), us = [.ref a, .ref td] ∧ H a = some (.lst (ivs ids)) ∧ H td = some (.lst bs) ∧ a ≠ td ∧ bs.length + 2 * ids.length < 16000000 ∧
  ∀ H', H' td = some (.lst (bs ++ (inter (ivs ids)).reverse)) → Kp [td] H H' → Q .non H'
theorem ok_put_members (T : Txt K mg) : FnOk P w K mg base CX0 1 T.a_put_members T.d_put_members ["ids", "todo"] (spPut K) := by
  refine T.put_members.fn.ok sc_put_members (fun vs H Q E h => ?_) (fun cdv A outer s H vs Q E hr h => ?_)
  · obtain ⟨a, td, ids, bs, rfl, _⟩ := h
    rfl
  · obtain ⟨a, td, ids, bs, rfl, ha, htd, nat_, hl, k⟩ := h
    refine ⟨_, (pss_one (ps_for PassesOwn.never rfl (pi_revR (by rfl) T.b_reversed (prg_1 (by rfl) T.b_range (pe_callB call_len_seq (by rfl) T.b_len (by decide +kernel) (pa_cons (pv 0) pa_nil)))) (pg_name (i := 2) sc_put_members.nd rfl (Or.inl rfl)) (pss_cons (ps_expr (pe_bm PySem.F.plainAttrs_list PySem.F.slot_list_append PySem.F.type_list_append mt_append (pv 1) (pa_cons (pe_ix ix_list (pv 0) (pv 2) (fun _ _ => rfl)) pa_nil)))
      (pss_one (ps_if (pt_cmpR op_gt (pv 2) pe_int (nomark _)) (pss_one (ps_expr (pe_bm PySem.F.plainAttrs_list PySem.F.slot_list_append PySem.F.type_list_append mt_append (pv 1) (pa_cons pe_str pa_nil)))) pss_nil))))), ?_⟩
    try dsimp only [cxOf, Cx.nox]
    walk_at "wf"
    have hn : (ivs ids).length = ids.length := ivs_len ids
    rw [hn]
    have hb : ∀ j, (pmL (ivs ids) j).length ≤ 2 * ids.length := fun j => by
      have f : ∀ l : List V, (l.flatMap fun y => [sp1, y]).length = 2 * l.length := fun l => by
        induction l with
        | nil => rfl
        | cons x r ih => simp only [List.flatMap_cons, List.length_append, List.length_cons, List.length_nil, ih]; omega
      unfold pmL
      split
      · rw [List.length_reverse]
        cases e : ivs ids with
        | nil => simp [inter]
        | cons x r =>
          have : r.length + 1 = ids.length := by rw [← hn, e]; rfl
          simp only [inter, List.length_cons, f]; omega
      · rw [List.length_reverse, f, List.length_drop, hn]; omega
    refine ⟨by omega, by omega, by omega, by omega, for_it walk_rangeC (fun i σ H1 => (∃ kk, σ = [some (.ref a), some (.ref td), kk]) ∧ H1 td = some (.lst (bs ++ pmL (ivs ids) (ids.length - i))) ∧ Kp [td] H H1) ?_ (fun _ _ _ _ _ => trivial) ?_ ?_⟩
    · refine ⟨⟨none, rfl⟩, ?_, .refl H⟩
      rw [htd]
      have : pmL (ivs ids) (ids.length - 0) = [] := by
        unfold pmL
        rw [Nat.sub_zero]
        split
        · have : ids = [] := List.length_eq_zero_iff.mp (by assumption)
          subst this; rfl
        · rw [← hn, List.drop_length]; rfl
      rw [this, List.append_nil]
    · rintro i x σ H1 H2 hi ⟨⟨kk, rfl⟩, h1, kp⟩ ⟨rfl, rfl⟩
      have hi' : i < ids.length := by omega
      have hk : ids.length - 1 - i < ids.length := by omega
      have ha1 := kp a _ (by simp [nat_]) ha
      have hg : (ivs ids)[ids.length - 1 - i]? = some (.int ((ids[ids.length - 1 - i] : Nat) : Int)) := by
        unfold ivs
        rw [List.getElem?_map, List.getElem?_eq_getElem hk]
        rfl
      have st := pmL_step hg
      rw [show ids.length - 1 - i + 1 = ids.length - i from by omega] at st
      have ex : (0 + (((ids.length : Int) - 0).toNat : Int) - 1) + (i : Int) * -1 = ((ids.length - 1 - i : Nat) : Int) := by omega
      show gName 2 (V.int (0 + (((ids.length : Int) - 0).toNat : Int) - 1 + (i : Int) * -1)) _ _ _
      rw [ex]
      have z1 : (bs ++ pmL (ivs ids) (ids.length - i)).length < sizeLine := by
        have := hb (ids.length - i)
        rw [List.length_append]; show _ < 16777216; omega
      have z2 : (bs ++ pmL (ivs ids) (ids.length - i) ++ [V.int ((ids[ids.length - 1 - i] : Nat) : Int)]).length < sizeLine := by
        have := hb (ids.length - i)
        rw [List.length_append, List.length_append]; show _ < 16777216; simp; omega
      walk_at "wf"
      refine iteD (fun hp => ?_) (fun hp => ?_)
      · walk_at "wf"
        refine ⟨⟨_, rfl⟩, ?_, (kp.at (by simp)).at (by simp)⟩
        rw [show ids.length - (i + 1) = ids.length - 1 - i from by omega, st, if_pos (by omega)]
        simp only [List.append_assoc]
        exact upd_same
      · walk_at "wf"
        refine ⟨⟨_, rfl⟩, ?_, kp.at (by simp)⟩
        rw [show ids.length - (i + 1) = ids.length - 1 - i from by omega, st, if_neg (by omega)]
        simp only [List.append_assoc]
        exact upd_same
    · rintro σ H1 ⟨⟨kk, rfl⟩, h1, kp⟩
      refine k H1 ?_ kp
      rw [h1, show ids.length - ((ids.length : Int) - 0).toNat = 0 from by omega]
      rfl
end
end Wh
set_option Elab.async false
set_option linter.all false
set_option maxRecDepth 100000
set_option maxHeartbeats 1000000
/-! Writing a value: write; plain. -/
namespace Wh
open PySem L2 PySem.Spec PyProof.Rows
local macro_rules | `(tactic| walk_at "ne") => `(tactic| first | with_reducible assumption | (apply Ne.symm; with_reducible assumption))
local macro_rules | `(tactic| walk_at "hp") => `(tactic| first | with_reducible assumption | with_reducible exact upd_same | ((with_reducible refine (upd_ne ?n).trans ?h); (case n => walk_at "ne"); (case h => walk_at "hp")) | ((with_reducible show upd _ _ _ _ = _); exact upd_same))
local macro_rules | `(tactic| walk_at "cond") => `(tactic| first | with_reducible assumption | exact (rfl : (_ : Bool) = true) | ((try dsimp only) <;> first | with_reducible assumption | decide | omega) | exact ⟨by first | decide | omega, by first | decide | omega⟩ | exact .inr ⟨by decide, by decide⟩)
local macro_rules | `(tactic| walk_at "sz") => `(tactic| first | with_reducible assumption | (show _ ≤ 16777216; omega))
local macro_rules | `(tactic| walk_at "at") => `(tactic| first | with_reducible assumption | exact atI_nat (by with_reducible assumption) | exact atI_nat (j := 0) (rfl : (_ : Option Nat) = some _) | exact atI_nat (by assumption))
local macro_rules | `(tactic| walk_at "w1") => `(tactic| (fail_if_success with_reducible show @ite _ _ _ _ _); first
  | refine ⟨_, rfl, ?_⟩
  | refine ⟨_, _, (rfl : _ = V.int _), (rfl : _ = V.int _), And.intro (by walk_at "cond") ?_⟩
  | refine ⟨_, _, (rfl : _ = V.int _), (rfl : _ = V.int _), ?_⟩
  | refine ⟨_, _, (rfl : _ = V.str _), (rfl : _ = V.str _), And.intro (by walk_at "sz") ?_⟩
  | refine ⟨_, _, (rfl : _ = V.str _), (rfl : _ = V.str _), ?_⟩
  | refine ⟨_, _, _, _, (rfl : _ = V.ref _), (rfl : _ = V.int _), SqL.of (by walk_at "hp"), rfl, ?_⟩
  | refine ⟨_, _, _, _, (rfl : _ = V.ref _), (rfl : _ = V.int _), (by walk_at "hp"), rfl, ?_⟩
  | refine ⟨Or.inl ⟨rfl, _, SqL.of (by walk_at "hp")⟩, ?_⟩
  | refine ⟨_, _, _, (rfl : _ = V.ref _), (rfl : (_ : List V) = _), (by walk_at "hp"), (by with_reducible assumption), ?_⟩
  | refine ⟨_, _, (rfl : (_ : List V) = _), Or.inl (SqL.of (by walk_at "hp")), ?_⟩
  | refine ⟨_, _, _, _, (rfl : _ = V.ref _), (rfl : _ = V.int _), SqL.of (by walk_at "hp"), (by walk_at "at"), ?_⟩
  | refine ⟨_, _, _, (rfl : _ = V.str _), (rfl : _ = V.int _), (by walk_at "sz"), (by walk_at "at"), ?_⟩
  | refine ⟨_, _, (rfl : (_ : List V) = [V.str _]), SX.int_S (by assumption) (by simp) (by assumption), (by assumption), ?_⟩
  | refine ⟨_, _, (rfl : (_ : List V) = [_, _]), ?_⟩
  | refine ⟨(rfl : (_ : Bool) = true), ?_⟩
  | refine ⟨(rfl : (_ : V) = V.non), ?_⟩
  | refine And.intro (by walk_at "sz") ?_
  | refine .inl ⟨_, rfl, ?_⟩)
local macro_rules | `(tactic| walk_at "w") => `(tactic| repeat walk_at "w1")
local macro_rules | `(tactic| walk_at "fld") => `(tactic| (fail_if_success with_reducible show @ite _ _ _ _ _); first
  | refine ⟨_, _, _, _, _, (rfl : _ = V.ref _), (by walk_at "hp"), Txt.cl_Heap _, Txt.nf__shapes _, hz_shapes _, ?_⟩
  | refine ⟨_, _, _, _, _, (rfl : _ = V.ref _), (by walk_at "hp"), Txt.cl_Heap _, Txt.nf__faces _, hz_faces _, ?_⟩
  | refine ⟨_, _, _, _, _, (rfl : _ = V.ref _), (by walk_at "hp"), Txt.cl_Heap _, Txt.nf__firsts _, hz_firsts _, ?_⟩
  | refine ⟨_, _, _, _, _, (rfl : _ = V.ref _), (by walk_at "hp"), Txt.cl_Heap _, Txt.nf__seconds _, hz_seconds _, ?_⟩
  | refine ⟨_, _, _, _, _, (rfl : _ = V.ref _), (by walk_at "hp"), Txt.cl_Heap _, Txt.nf__hefts _, hz_hefts _, ?_⟩
  | refine ⟨_, _, _, _, _, (rfl : _ = V.ref _), (by walk_at "hp"), Txt.cl_Heap _, Txt.nf__numbers _, hz_numbers _, ?_⟩
  | refine ⟨_, _, _, _, _, (rfl : _ = V.ref _), (by walk_at "hp"), Txt.cl_Heap _, Txt.nf__names _, hz_names _, ?_⟩
  | refine ⟨_, _, _, _, _, (rfl : _ = V.ref _), (by walk_at "hp"), Txt.cl_Heap _, Txt.nf__pairs _, hz_pairs _, ?_⟩)
local macro_rules | `(tactic| walk_at "wf") => `(tactic| repeat first | walk_at "w1" | walk_at "fld")
/-! ### the stack -/
def wgt : Tr → Nat
  | .cons a b => wgt a + wgt b + 2
  | _ => 1
theorem wgt_pos : ∀ t : Tr, 1 ≤ wgt t
  | .nil => Nat.le_refl _
  | .num _ => Nat.le_refl _
  | .nam _ => Nat.le_refl _
  | .cons a b => by simp only [wgt]; omega
abbrev It := Sum (List Nat) (Tr × Nat)
def outI : It → List Nat
  | .inl l => l
  | .inr p => can p.1
def wI : It → Nat
  | .inl _ => 1
  | .inr p => wgt p.1
def itV : It → V
  | .inl l => .str (SX.S l)
  | .inr p => .int (p.2 : Int)
def okI (G : List Nd) : It → Prop
  | .inl _ => True
  | .inr p => Den G p.1 p.2 ∧ Pr p.1
def wS (st : List It) : Nat := (st.map wI).sum
def interI : List (Tr × Nat) → List It
  | [] => []
  | p :: r => .inr p :: r.flatMap fun q => [.inl [32], .inr q]
theorem interI_V (ps : List (Tr × Nat)) : (interI ps).map itV = inter (ivs (ps.map Prod.snd)) := by
  cases ps with
  | nil => rfl
  | cons p r =>
    have h : ∀ l : List (Tr × Nat), (l.flatMap fun q => ([.inl [32], .inr q] : List It)).map itV = (ivs (l.map Prod.snd)).flatMap fun y => [sp1, y] := fun l => by
      induction l with
      | nil => rfl
      | cons x l ih => simp only [List.flatMap_cons, List.map_append, ih, List.map_cons, ivs]; rfl
    show itV (.inr p) :: _ = V.int (p.2 : Int) :: _
    rw [h r]
    rfl
theorem interI_out (t : Tr) (i : Nat) (ps : List (Tr × Nat)) : (interI ((t, i) :: ps)).flatMap outI = can t ++ ps.flatMap (fun q => 32 :: can q.1) := by
  have h : ∀ l : List (Tr × Nat), (l.flatMap fun q => ([.inl [32], .inr q] : List It)).flatMap outI = l.flatMap fun q => 32 :: can q.1 := fun l => by
    induction l with
    | nil => rfl
    | cons x l ih => simp only [List.flatMap_cons, List.flatMap_append, ih]; simp [outI]
  simp only [interI, List.flatMap_cons, h]
  simp [outI]
theorem interI_w (ps : List (Tr × Nat)) : wS (interI ps) + 1 ≤ (ps.map fun q => wgt q.1 + 1).sum + 1 := by
  cases ps with
  | nil => simp [interI, wS]
  | cons p r =>
    have h : ∀ l : List (Tr × Nat), wS (l.flatMap fun q => ([.inl [32], .inr q] : List It)) = (l.map fun q => wgt q.1 + 1).sum := fun l => by
      induction l with
      | nil => rfl
      | cons x l ih =>
        simp only [wS] at ih ⊢
        simp only [List.flatMap_cons, List.map_append, List.sum_append, ih, List.map_cons, List.sum_cons, List.map_nil, List.sum_nil, wI]
        omega
    have := h r
    simp only [wS] at this ⊢
    simp only [interI, List.map_cons, List.sum_cons, wI, this]
    omega
theorem wgt_spread : ∀ {t : Tr}, isL t = true → Pr t → wgt t = ((spread t).map fun u => wgt u + 2).sum + 1
  | .nil, _, _ => rfl
  | .num _, h, _ => by cases h
  | .nam _, h, _ => by cases h
  | .cons a b, _, p => by
    have := wgt_spread p.2.2 p.2.1
    simp only [wgt, spread, List.map_cons, List.sum_cons, this]
    omega
theorem tail_spread : ∀ {t : Tr}, isL t = true → Pr t → tail t = (spread t).flatMap (fun u => 32 :: can u) ++ [41] := by
  intro t h p
  rw [← mkl_spread h p, tail_mkl, spread_mkl]
theorem wgt_can : ∀ {t : Tr}, Pr t → (isL t = true → wgt t ≤ 6 * (tail t).length) ∧ wgt t ≤ 6 * (can t).length
  | .nil, _ => ⟨fun _ => by decide, by decide⟩
  | .num n, _ => ⟨fun h => (by cases h), by
      obtain ⟨c, r, e, _⟩ := numL_head n
      rw [can_num, e]; simp only [wgt, List.length_cons]; omega⟩
  | .nam l, h => ⟨fun h => (by cases h), by
      cases l with
      | nil => cases h
      | cons c r => rw [can_nam]; simp only [wgt, List.length_cons]; omega⟩
  | .cons a b, p => by
    obtain ⟨pa, pb, lb⟩ := p
    have ha := (wgt_can pa).2
    have hb := (wgt_can pb).1 lb
    refine ⟨fun _ => ?_, ?_⟩
    · rw [tail_cons]; simp only [wgt, List.length_cons, List.length_append]; omega
    · cases q : quoted (.cons a b) with
      | none => rw [can_plain q]; simp only [wgt, List.length_cons, List.length_append]; omega
      | some c =>
        rw [can_quoted q]
        cases b with
        | cons c' d =>
          cases d with
          | nil =>
            change (if isQ a = true then some c' else none) = some c at q
            by_cases z : isQ a = true
            · rw [if_pos z] at q
              cases q
              have hc := (wgt_can pb.1).2
              rw [isQ_can z]
              simp only [wgt, List.length_cons]; omega
            · rw [if_neg z] at q; cases q
          | _ => simp [quoted] at q
        | _ => simp [quoted] at q
termination_by t => sizeOf t
theorem quoted_pr {a b c : Tr} (p : Pr (.cons a b)) (h : quoted (.cons a b) = some c) : Pr c ∧ wgt c + 2 ≤ wgt (.cons a b) := by
  cases b with
  | cons c' d =>
    cases d with
    | nil =>
      change (if isQ a = true then some c' else none) = some c at h
      by_cases z : isQ a = true
      · rw [if_pos z] at h
        cases h
        exact ⟨p.2.1.1, by simp only [wgt]; omega⟩
      · rw [if_neg z] at h; cases h
    | _ => simp [quoted] at h
  | _ => simp [quoted] at h
theorem spread_pr : ∀ {t : Tr}, Pr t → ∀ u ∈ spread t, Pr u
  | .nil, _, u, h => by cases h
  | .num _, _, u, h => by cases h
  | .nam _, _, u, h => by cases h
  | .cons a b, p, u, h => by
    rcases List.mem_cons.mp (show u ∈ a :: spread b from h) with rfl | h
    · exact p.1
    · exact spread_pr p.2.1 u h
theorem zip_ok {G : List Nd} : ∀ {ts : List Tr} {ids : List Nat}, Paired (Den G) ts ids → (∀ u ∈ ts, Pr u) → ∀ q ∈ ts.zip ids, Den G q.1 q.2 ∧ Pr q.1
  | _, _, .nil, _, q, h => by cases h
  | t :: ts, i :: ids, .cons f r, k, q, h => by
    rcases List.mem_cons.mp (show q ∈ (t, i) :: ts.zip ids from h) with rfl | h
    · exact ⟨f, k _ (by simp)⟩
    · exact zip_ok r (fun u hu => k u (by simp [hu])) q h
theorem interI_ok {G : List Nd} {ps : List (Tr × Nat)} (h : ∀ q ∈ ps, Den G q.1 q.2 ∧ Pr q.1) : ∀ y ∈ interI ps, okI G y := by
  cases ps with
  | nil => intro y hy; cases hy
  | cons p r =>
    intro y hy
    rcases List.mem_cons.mp hy with rfl | hy
    · exact h p (by simp)
    · obtain ⟨q, hq, hy⟩ := List.mem_flatMap.mp hy
      rcases List.mem_cons.mp hy with rfl | hy
      · trivial
      · rw [List.mem_singleton.mp hy]
        exact h q (by simp [hq])
theorem wS_len : ∀ st : List It, st.length ≤ wS st
  | [] => Nat.zero_le _
  | x :: st => by
    have := wS_len st
    have h : wS (x :: st) = wI x + wS st := rfl
    have hx : 1 ≤ wI x := by
      cases x with
      | inl l => exact Nat.le_refl _
      | inr p => exact wgt_pos p.1
    rw [h, List.length_cons]; omega
theorem joinL_nil : ∀ ws : List (List Nat), TL.joinL [] ws = ws.flatten
  | [] => rfl
  | [p] => by simp [TL.joinL]
  | p :: q :: r => by
    show p ++ ([] ++ TL.joinL [] (q :: r)) = _
    rw [joinL_nil (q :: r)]
    simp
section
variable {P : Program} {w : World} {K : PySem.W.Frag} {mg : Str → Option Value} {base : Heap}
def wvs (ws : List (List Nat)) : List V := ws.map fun l => V.str (SX.S l)
def spWrite (C : Addr) : Sp := fun us H Q _ => ∃ (z : Hz) (G : List Nd) (i : Nat) (t : Tr), us = [.ref z.p, .int (i : Int)] ∧ HA C H z G G ∧ WF G ∧ Den G t i ∧ Pr t ∧ G.length < 16000000 ∧ wgt t < 8000000 ∧ (can t).length ≤ 8000000 ∧
  ∀ H', Kp [] H H' → Q (.str (SX.S (can t))) H'
theorem ok_write (T : Txt K mg) : FnOk P w K mg base CX0 3 T.a_write T.d_write ["heap", "value"] (spWrite T.C_Heap) := by
  refine T.write.fn.ok sc_write (fun vs H Q E h => ?_) (fun cdv A outer s H vs Q E hr h => ?_)
  · obtain ⟨z, G, i, t, rfl, _⟩ := h
    rfl
  · obtain ⟨z, G, i, t, rfl, hA, wf, den, pr, hl, hw, hc, k⟩ := h
    refine ⟨_, (pss_cons (ps_set (i := 2) sc_write.nd rfl (Or.inl rfl) (pe_lst pa_nil))
      (pss_cons (ps_set (i := 3) sc_write.nd rfl (Or.inl rfl) (pe_lst (pa_cons (pv 1) pa_nil)))
      (pss_cons (ps_while PassesOwn.never (pt_truth (pv 3) (by intro _; rfl)) (pss_cons (ps_set (i := 4) sc_write.nd rfl (Or.inl rfl) (pe_bm0 PySem.F.plainAttrs_list PySem.F.slot_list_pop PySem.F.type_list_pop mt_pop (pv 3)))
      (pss_one (ps_if (pt_val (pe_callB call_isi (by rfl) T.b_isinstance (by decide +kernel) (pa_cons (pv 4) (pa_cons (pe_bltn (v := .ty "str") (u := .type "str") (by rfl) T.b_str (by decide +kernel) rfl) pa_nil)))) (pss_one (ps_expr (pe_bm PySem.F.plainAttrs_list PySem.F.slot_list_append PySem.F.type_list_append mt_append (pv 2) (pa_cons (pv 4) pa_nil)))) (pss_one (ps_if (pt_cmpR op_eq (pe_meth (pv 0) T.cl_Heap T.Heap_shape.me (ok_Heap_shape (P := P) (w := w) (base := base) T) (hr.mono (by decide)) T.Heap_shape.b .nil pass0 (pa_cons (pv 4) pa_nil)) (pe_glob (v := .int 1) rfl T.c_NUMBER ⟨_, rfl⟩) (nomark _)) (pss_one (ps_expr (pe_bm PySem.F.plainAttrs_list PySem.F.slot_list_append PySem.F.type_list_append mt_append (pv 2) (pa_cons (pe_callTy call_str_int (by rfl) T.b_str (by decide +kernel) (pa_cons (pe_meth (pv 0) T.cl_Heap T.Heap_face.me (ok_Heap_face (P := P) (w := w) (base := base) T) (hr.mono (by decide)) T.Heap_face.b .nil pass0 (pa_cons (pv 4) pa_nil)) pa_nil)) pa_nil)))) (pss_one (ps_if (pt_cmpR op_eq (pe_meth (pv 0) T.cl_Heap T.Heap_shape.me (ok_Heap_shape (P := P) (w := w) (base := base) T) (hr.mono (by decide)) T.Heap_shape.b .nil pass0 (pa_cons (pv 4) pa_nil)) (pe_glob (v := .int 2) rfl T.c_NAME ⟨_, rfl⟩) (nomark _)) (pss_one (ps_expr (pe_bm PySem.F.plainAttrs_list PySem.F.slot_list_append PySem.F.type_list_append mt_append (pv 2) (pa_cons (pe_meth (pv 0) T.cl_Heap T.Heap_face.me (ok_Heap_face (P := P) (w := w) (base := base) T) (hr.mono (by decide)) T.Heap_face.b .nil pass0 (pa_cons (pv 4) pa_nil)) pa_nil)))) (pss_one (ps_if (pt_cmpR op_eq (pe_meth (pv 0) T.cl_Heap T.Heap_shape.me (ok_Heap_shape (P := P) (w := w) (base := base) T) (hr.mono (by decide)) T.Heap_shape.b .nil pass0 (pa_cons (pv 4) pa_nil)) (pe_glob (v := .int 0) rfl T.c_EMPTY ⟨_, rfl⟩) (nomark _)) (pss_one (ps_expr (pe_bm PySem.F.plainAttrs_list PySem.F.slot_list_append PySem.F.type_list_append mt_append (pv 2) (pa_cons pe_str pa_nil)))) (pss_cons (ps_set (i := 5) sc_write.nd rfl (Or.inl rfl) (pe_call (ok_quoted (P := P) (w := w) (base := base) T) (hr.mono (by decide)) rfl T.quoted.mg T.quoted.fn.kp T.quoted.b .nil pass0 (pa_cons (pv 0) (pa_cons (pv 4) pa_nil))))
      (pss_one (ps_if (pt_cmpR op_notN (pv 5) pe_non (nomark _)) (pss_cons (ps_expr (pe_bm PySem.F.plainAttrs_list PySem.F.slot_list_append PySem.F.type_list_append mt_append (pv 2) (pa_cons pe_str pa_nil)))
      (pss_one (ps_expr (pe_bm PySem.F.plainAttrs_list PySem.F.slot_list_append PySem.F.type_list_append mt_append (pv 3) (pa_cons (pv 5) pa_nil))))) (pss_cons (ps_expr (pe_bm PySem.F.plainAttrs_list PySem.F.slot_list_append PySem.F.type_list_append mt_append (pv 2) (pa_cons pe_str pa_nil)))
      (pss_cons (ps_expr (pe_bm PySem.F.plainAttrs_list PySem.F.slot_list_append PySem.F.type_list_append mt_append (pv 3) (pa_cons pe_str pa_nil)))
      (pss_one (ps_expr (pe_call (ok_put_members (P := P) (w := w) (base := base) T) (hr.mono (by decide)) rfl T.put_members.mg T.put_members.fn.kp T.put_members.b .nil pass0 (pa_cons (pe_meth (pv 0) T.cl_Heap T.Heap_spread.me (ok_Heap_spread (P := P) (w := w) (base := base) T) (hr.mono (by decide)) T.Heap_spread.b .nil pass0 (pa_cons (pv 4) pa_nil)) (pa_cons (pv 3) pa_nil))))))))))))))))))))
      (pss_one (ps_ret (pe_join pe_str (pv 2))))))), ?_⟩
    try dsimp only [cxOf, Cx.nox]
    walk_at "wf"
    refine ⟨Nat.zero_le _, fun wr hwr => ?_⟩
    walk_at "wf"
    refine ⟨(show 1 ≤ sizeLine by decide), fun td htd => ?_⟩
    walk_at "wf"
    have ntw : td ≠ wr := fun q => by rw [q, upd_same] at htd; cases htd
    have htd0 : H td = none := by rw [upd_ne ntw] at htd; exact htd
    have Wsame : ∀ {m : Nat} {st : List It} {ws : List (List Nat)}, wS st = m → ws.length + m ≤ wgt t → (wvs ws).length < sizeLine ∧ (st.map itV).reverse.length + 2 < sizeLine := fun {m st ws} h1 h2 => by
      refine ⟨by unfold wvs; rw [List.length_map]; show _ < 16777216; omega, ?_⟩
      rw [List.length_reverse, List.length_map]
      have := wS_len st
      show _ < 16777216; omega
    refine ⟨fun m σ H1 => ∃ (st : List It) (ws : List (List Nat)) (pv iv : Option V), σ = [some (.ref z.p), some (.int (i : Int)), some (.ref wr), some (.ref td), pv, iv] ∧ H1 wr = some (.lst (wvs ws)) ∧ H1 td = some (.lst (st.map itV).reverse) ∧
      (∀ x ∈ st, okI G x) ∧ ws.flatten ++ st.flatMap outI = can t ∧ wS st = m ∧ ws.length + m ≤ wgt t ∧ Kp [] H H1, ⟨wgt t, [.inr (t, i)], [], none, none, rfl, (upd_ne ntw.symm).trans upd_same, upd_same, ?_, ?_, ?_, ?_, ?_⟩, ?_⟩
    · intro x hx
      rw [List.mem_singleton.mp hx]
      exact ⟨den, pr⟩
    · simp [outI]
    · simp [wS, wI]
    · simp
    · exact ((Kp.refl H).new hwr).new htd0
    · rintro m σ H1 ⟨st, ws, pv, iv, rfl, h1, h2, hok, hout, hm, hle, kp⟩
      have hA1 := hA.same kp.same
      have ob1 := hA1.ob
      obtain ⟨s1, s2⟩ := Wsame hm hle
      refine ⟨_, rfl, _, .inl ⟨_, SqL.of h2, rfl⟩, ?_⟩
      cases st with
      | nil =>
        refine iteFe rfl ?_
        walk_at "wf"
        refine ⟨⟨_, rfl⟩, ?_⟩
        walk_at "wf"
        refine ⟨_, _, ws.map SX.S, rfl, rfl, .inl (SqL.of (by rw [h1]; unfold wvs; rw [List.map_map]; rfl)), ?_, ?_⟩
        · have e : ((ws.map SX.S).map (·.length)).sum = ws.flatten.length := by
            rw [List.map_map, List.length_flatten]
            congr 1
          rw [e]
          have e0 : (Str.ofString "").length = 0 := by decide +kernel
          rw [e0, Nat.mul_zero]
          have : ws.flatten.length ≤ (can t).length := by rw [← hout]; simp
          omega
        · have e0 : Str.ofString "" = SX.S [] := by decide +kernel
          have e : ws.flatten = can t := by simpa using hout
          rw [e0, SX.join_S, joinL_nil, e]
          exact k H1 kp
      | cons x st =>
        refine iteTe (by simp) ?_
        have hx := hok x (by simp)
        have hok2 : ∀ y ∈ st, okI G y := fun y hy => hok y (by simp [hy])
        have hpop : (List.map itV (x :: st)).reverse[(List.map itV (x :: st)).reverse.length - 1]? = some (itV x) := by simp
        have edl : (List.map itV (x :: st)).reverse.dropLast = (st.map itV).reverse := by simp
        have hwx : wS (x :: st) = wI x + wS st := rfl
        refine ⟨_, fun _ _ h => h, ?_⟩
        walk_at "wf"
        rw [edl]
        have hA2 : HA T.C_Heap (upd H1 td (.lst (st.map itV).reverse)) z G G := hA1.apart ⟨fun q => (by rw [q, hA.ob] at htd0; cases htd0), hA.not_foot htd0⟩
        have ob2 := hA2.ob
        have kp2 : Kp [] H (upd H1 td (.lst (st.map itV).reverse)) := kp.new htd0
        have hwr2 : (upd H1 td (.lst (st.map itV).reverse)) wr = some (.lst (wvs ws)) := (upd_ne ntw.symm).trans h1
        have fin : ∀ (st2 : List It) (ws2 : List (List Nat)) (pv iv : Option V) (H2 : Hp), H2 wr = some (.lst (wvs ws2)) → H2 td = some (.lst (st2.map itV).reverse) → (∀ x ∈ st2, okI G x) → ws2.flatten ++ st2.flatMap outI = can t → wS st2 < m → ws2.length ≤ ws.length + 1 → Kp [] H H2 →
            ∃ m', m' < m ∧ ∃ (st : List It) (ws : List (List Nat)) (pv2 iv2 : Option V), [some (V.ref z.p), some (V.int (i : Int)), some (V.ref wr), some (V.ref td), pv, iv] = [some (.ref z.p), some (.int (i : Int)), some (.ref wr), some (.ref td), pv2, iv2] ∧ H2 wr = some (.lst (wvs ws)) ∧ H2 td = some (.lst (st.map itV).reverse) ∧
              (∀ x ∈ st, okI G x) ∧ ws.flatten ++ st.flatMap outI = can t ∧ wS st = m' ∧ ws.length + m' ≤ wgt t ∧ Kp [] H H2 :=
          fun st2 ws2 pv iv H2 a1 a2 a3 a4 a5 a6 a7 => ⟨wS st2, a5, st2, ws2, pv, iv, rfl, a1, a2, a3, a4, rfl, by omega, a7⟩
        have wapp : ∀ l : List Nat, wvs ws ++ [V.str (SX.S l)] = wvs (ws ++ [l]) := fun l => by unfold wvs; simp
        cases x with
        | inl l =>
          refine ⟨_, _, _, _, true, rfl, .ty _, .base (.str _), L2.kit_ty (by decide +kernel), ?_⟩
          walk_at "wf"
          refine iteT ?_
          walk_at "wf"
          refine fin st (ws ++ [l]) _ _ _ ?_ ?_ hok2 ?_ ?_ (by simp) (kp2.new hwr)
          · rw [← wapp]; exact upd_same
          · exact (upd_ne ntw).trans upd_same
          · rw [← hout]; simp [outI]
          · rw [← hm, hwx]; simp [wI]
        | inr p =>
          obtain ⟨u, j⟩ := p
          obtain ⟨du, pu⟩ := hx
          obtain ⟨d, hd, hdn⟩ := du.node
          refine ⟨_, _, _, _, false, rfl, .ty _, .base (.int _), L2.kit_ty (by decide +kernel), ?_⟩
          walk_at "wf"
          refine iteF ?_
          walk_at "wf"
          refine ⟨_, _, _, rfl, ob2, hz_no_shape _, ?_⟩
          walk_at "wf"
          refine ⟨z, G, G, j, d, rfl, hA2, hd, ?_⟩
          have hout2 : ws.flatten ++ (can u ++ st.flatMap outI) = can t := by rw [← hout]; simp [outI]
          have hw2 : wgt u + wS st = m := by rw [← hm, hwx]; rfl
          cases u with
          | num n =>
            cases hdn
            walk_at "wf"
            refine iteTe (by simp [shapeV]) ?_
            walk_at "wf"
            refine ⟨_, _, _, rfl, ob2, hz_no_face _, ?_⟩
            walk_at "wf"
            refine ⟨z, G, G, j, .num n, rfl, hA2, hd, ?_⟩
            have hlog : ((n : Int)).natAbs.log2 < 1920 := by
              rw [Int.natAbs_natCast]
              by_cases q : n = 0
              · subst q; decide
              · rw [Nat.log2_lt q]
                have hn : n ≤ 9999 := pu
                exact Nat.lt_of_le_of_lt hn (Nat.lt_of_lt_of_le (by decide : 9999 < 2 ^ 14) (Nat.pow_le_pow_right (by decide) (by decide)))
            walk_at "wf"
            rw [SX.num_S]
            walk_at "wf"
            refine fin st (ws ++ [can (.num n)]) _ _ _ ?_ ?_ hok2 ?_ ?_ (by simp) (kp2.new hwr)
            · rw [← wapp]; exact upd_same
            · exact (upd_ne ntw).trans upd_same
            · rw [← hout2]; simp
            · rw [← hw2]; simp [wgt]
          | nam n =>
            cases hdn
            walk_at "wf"
            refine iteFe (by simp [shapeV]) ?_
            walk_at "wf"
            refine ⟨_, _, _, rfl, ob2, hz_no_shape _, ?_⟩
            walk_at "wf"
            refine ⟨z, G, G, j, .nam n, rfl, hA2, hd, ?_⟩
            walk_at "wf"
            refine iteTe (by simp [shapeV]) ?_
            walk_at "wf"
            refine ⟨_, _, _, rfl, ob2, hz_no_face _, ?_⟩
            walk_at "wf"
            refine ⟨z, G, G, j, .nam n, rfl, hA2, hd, ?_⟩
            walk_at "wf"
            refine fin st (ws ++ [can (.nam n)]) _ _ _ ?_ ?_ hok2 ?_ ?_ (by simp) (kp2.new hwr)
            · rw [← wapp]; exact upd_same
            · exact (upd_ne ntw).trans upd_same
            · rw [← hout2]; simp
            · rw [← hw2]; simp [wgt]
          | nil =>
            cases hdn
            walk_at "wf"
            refine iteFe (by simp [shapeV]) ?_
            walk_at "wf"
            refine ⟨_, _, _, rfl, ob2, hz_no_shape _, ?_⟩
            walk_at "wf"
            refine ⟨z, G, G, j, .nil, rfl, hA2, hd, ?_⟩
            walk_at "wf"
            refine iteFe (by simp [shapeV]) ?_
            walk_at "wf"
            refine ⟨_, _, _, rfl, ob2, hz_no_shape _, ?_⟩
            walk_at "wf"
            refine ⟨z, G, G, j, .nil, rfl, hA2, hd, ?_⟩
            walk_at "wf"
            refine iteTe (by simp [shapeV]) ?_
            walk_at "wf"
            refine fin st (ws ++ [can .nil]) _ _ _ ?_ ?_ hok2 ?_ ?_ (by simp) (kp2.new hwr)
            · rw [← wapp, show SX.S (can .nil) = Str.ofString "()" from (by decide +kernel : Str.ofString "()" = SX.S [40, 41]).symm]; exact upd_same
            · exact (upd_ne ntw).trans upd_same
            · rw [← hout2]; simp
            · rw [← hw2]; simp [wgt]
          | cons a b =>
            obtain ⟨x1, y1, rfl, da, db⟩ := hdn
            walk_at "wf"
            refine iteFe (by simp [shapeV]) ?_
            walk_at "wf"
            refine ⟨_, _, _, rfl, ob2, hz_no_shape _, ?_⟩
            walk_at "wf"
            refine ⟨z, G, G, j, .pr x1 y1, rfl, hA2, hd, ?_⟩
            walk_at "wf"
            refine iteFe (by simp [shapeV]) ?_
            walk_at "wf"
            refine ⟨_, _, _, rfl, ob2, hz_no_shape _, ?_⟩
            walk_at "wf"
            refine ⟨z, G, G, j, .pr x1 y1, rfl, hA2, hd, ?_⟩
            walk_at "wf"
            refine iteFe (by simp [shapeV]) ?_
            walk_at "wf"
            refine ⟨z, G, j, a, b, rfl, hA2, wf, du, pu, fun v rv => ?_⟩
            walk_at "wf"
            cases qd : quoted (.cons a b) with
            | some c =>
              rw [qd] at rv
              obtain ⟨j2, rfl, dc⟩ := rv
              refine iteNN (by simp) ?_
              walk_at "wf"
              have pc : Pr c ∧ wgt c + 2 ≤ wgt (.cons a b) := quoted_pr pu qd
              have htd3 : (upd (upd H1 td (.lst (st.map itV).reverse)) wr (.lst (wvs ws ++ [.str (Str.ofString "'")]))) td = some (.lst (st.map itV).reverse) := (upd_ne ntw).trans upd_same
              have z3 : (st.map itV).reverse.length < sizeLine := by
                rw [List.map_cons, List.reverse_cons, List.length_append] at s2; omega
              walk_at "wf"
              refine fin (.inr (c, j2) :: st) (ws ++ [[39]]) _ _ _ ?_ ?_ ?_ ?_ ?_ (by simp) ((kp2.new hwr).new htd0)
              · rw [← wapp, ← S_tick]; exact (upd_ne ntw.symm).trans upd_same
              · rw [List.map_cons, List.reverse_cons]; exact upd_same
              · intro y hy
                rcases List.mem_cons.mp hy with rfl | hy
                · exact ⟨dc, pc.1⟩
                · exact hok2 y hy
              · rw [← hout2, can_quoted qd]; simp [outI]
              · have : wS (.inr (c, j2) :: st) = wgt c + wS st := rfl
                rw [this, ← hw2]; omega
            | none =>
              rw [qd] at rv
              have ev : v = .non := rv
              subst ev
              refine iteNS rfl ?_
              walk_at "wf"
              have htd3 : (upd (upd H1 td (.lst (st.map itV).reverse)) wr (.lst (wvs ws ++ [.str (Str.ofString "(")]))) td = some (.lst (st.map itV).reverse) := (upd_ne ntw).trans upd_same
              have z3 : (st.map itV).reverse.length < sizeLine := by
                rw [List.map_cons, List.reverse_cons, List.length_append] at s2; omega
              walk_at "wf"
              have hA3 : HA T.C_Heap (upd (upd (upd H1 td (.lst (st.map itV).reverse)) wr (.lst (wvs ws ++ [.str (Str.ofString "(")]))) td (.lst ((st.map itV).reverse ++ [.str (Str.ofString ")")]))) z G G :=
                (hA2.apart ⟨fun q => (by rw [q, hA.ob] at hwr; cases hwr), hA.not_foot hwr⟩).apart ⟨fun q => (by rw [q, hA.ob] at htd0; cases htd0), hA.not_foot htd0⟩
              have ob3 := hA3.ob
              refine ⟨_, _, _, rfl, ob3, hz_no_spread _, ?_⟩
              walk_at "wf"
              refine ⟨z, G, j, .cons a b, rfl, hA3, wf, du, pu, hl, (fun h => by cases h), fun _ p ids H4 hp hP hp4 kp4 => ?_⟩
              walk_at "wf"
              have npt : p ≠ td := fun q => (by rw [q, upd_same] at hp; cases hp)
              have npw : p ≠ wr := fun q => (by rw [q, upd_ne ntw.symm, upd_same] at hp; cases hp)
              have htd4 : H4 td = some (.lst ((st.map itV).reverse ++ [.str (Str.ofString ")")])) := kp4 _ _ (by simp) upd_same
              have hwr4 : H4 wr = some (.lst (wvs ws ++ [.str (Str.ofString "(")])) := kp4 _ _ (by simp) ((upd_ne ntw.symm).trans upd_same)
              have hpl := paired_len hP
              have hws : wgt (.cons a b) = ((spread (.cons a b)).map fun u => wgt u + 2).sum + 1 := wgt_spread rfl pu
              have hlen2 : 2 * ids.length ≤ wgt (.cons a b) := by
                rw [hws, ← hpl]
                have : ∀ l : List Tr, 2 * l.length ≤ (l.map fun u => wgt u + 2).sum := fun l => by
                  induction l with
                  | nil => simp
                  | cons x r ih => simp only [List.length_cons, List.map_cons, List.sum_cons]; omega
                have := this (spread (.cons a b))
                omega
              have hsl := wS_len st
              refine ⟨p, td, ids, _, rfl, hp4, htd4, npt, by rw [List.length_append, List.length_reverse, List.length_map]; simp; omega, fun H5 h5 kp5 => ?_⟩
              have hz1 : ((spread (.cons a b)).zip ids).map Prod.snd = ids := List.map_snd_zip (by omega)
              have hz0 : ((spread (.cons a b)).zip ids).map Prod.fst = spread (.cons a b) := List.map_fst_zip (by omega)
              refine fin (interI ((spread (.cons a b)).zip ids) ++ .inl [41] :: st) (ws ++ [[40]]) _ _ _ ?_ ?_ ?_ ?_ ?_ (by simp) ?_
              · rw [← wapp, ← S_open]; exact kp5 _ _ (by simp [ntw.symm]) hwr4
              · rw [h5, List.map_append, List.reverse_append, interI_V, hz1]
                simp [itV, S_close]
              · intro y hy
                rcases List.mem_append.mp hy with hy | hy
                · exact interI_ok (zip_ok hP (spread_pr pu)) y hy
                · rcases List.mem_cons.mp hy with rfl | hy
                  · trivial
                  · exact hok2 y hy
              · rw [← hout2, can_plain qd]
                cases hids : ids with
                | nil => rw [hids] at hpl; simp [spread] at hpl
                | cons i0 ir =>
                  show _ ++ List.flatMap outI (interI ((a, i0) :: (spread b).zip ir) ++ .inl [41] :: st) = _
                  rw [List.flatMap_append, interI_out, tail_spread pu.2.2 pu.2.1]
                  have ez : ((spread b).zip ir).flatMap (fun q => 32 :: can q.1) = (spread b).flatMap fun u => 32 :: can u := by
                    have hl2 : (spread b).length = ir.length := by rw [hids] at hpl; simpa [spread] using hpl
                    have := List.map_fst_zip (l₁ := spread b) (l₂ := ir) (by omega)
                    rw [List.flatMap_def, List.flatMap_def, ← this, List.map_map]
                    rw [this]
                    rfl
                  rw [ez]
                  simp [outI]
              · rw [← hw2]
                have e1 : wS (interI ((spread (.cons a b)).zip ids) ++ .inl [41] :: st) = wS (interI ((spread (.cons a b)).zip ids)) + (1 + wS st) := by simp [wS, wI]
                have e2 := interI_w ((spread (.cons a b)).zip ids)
                have e3 : ((spread (.cons a b)).zip ids).map (fun q => wgt q.1 + 1) = (spread (.cons a b)).map fun u => wgt u + 1 := by
                  rw [← hz0, List.map_map]
                  rw [hz0]
                  rfl
                have e4 : ∀ l : List Tr, (l.map fun u => wgt u + 2).sum = (l.map fun u => wgt u + 1).sum + l.length := fun l => by
                  induction l with
                  | nil => rfl
                  | cons x r ih => simp only [List.length_cons, List.map_cons, List.sum_cons]; omega
                rw [e3] at e2
                rw [e4] at hws
                have e5 : (spread (.cons a b)).length = (spread b).length + 1 := by simp [spread]
                rw [e1]; omega
              · have k5 : Kp [] H H4 := ((kp2.new hwr).new htd0).trans kp4
                intro b' o' _ hb'
                exact kp5 b' o' (by simpa using ne_of_none hb' htd0) (k5 b' o' (by simp) hb')
end
end Wh
set_option Elab.async false
set_option linter.all false
set_option maxRecDepth 100000
set_option maxHeartbeats 1000000
/-! plain. -/
namespace Wh
open PySem L2 PySem.Spec PyProof.Rows
local macro_rules | `(tactic| walk_at "ne") => `(tactic| first | with_reducible assumption | (apply Ne.symm; with_reducible assumption))
local macro_rules | `(tactic| walk_at "hp") => `(tactic| first | with_reducible assumption | with_reducible exact upd_same | ((with_reducible refine (upd_ne ?n).trans ?h); (case n => walk_at "ne"); (case h => walk_at "hp")) | ((with_reducible show upd _ _ _ _ = _); exact upd_same))
local macro_rules | `(tactic| walk_at "cond") => `(tactic| first | with_reducible assumption | exact (rfl : (_ : Bool) = true) | ((try dsimp only) <;> first | with_reducible assumption | decide | omega) | exact ⟨by first | decide | omega, by first | decide | omega⟩ | exact .inr ⟨by decide, by decide⟩)
local macro_rules | `(tactic| walk_at "sz") => `(tactic| first | with_reducible assumption | (show _ ≤ 16777216; omega))
local macro_rules | `(tactic| walk_at "at") => `(tactic| first | with_reducible assumption | exact atI_nat (by with_reducible assumption) | exact atI_nat (j := 0) (rfl : (_ : Option Nat) = some _) | exact atI_nat (by assumption))
local macro_rules | `(tactic| walk_at "w1") => `(tactic| (fail_if_success with_reducible show @ite _ _ _ _ _); first
  | refine ⟨_, rfl, ?_⟩
  | refine ⟨_, _, (rfl : _ = V.int _), (rfl : _ = V.int _), And.intro (by walk_at "cond") ?_⟩
  | refine ⟨_, _, (rfl : _ = V.int _), (rfl : _ = V.int _), ?_⟩
  | refine ⟨_, _, (rfl : _ = V.str _), (rfl : _ = V.str _), And.intro (by walk_at "sz") ?_⟩
  | refine ⟨_, _, (rfl : _ = V.str _), (rfl : _ = V.str _), ?_⟩
  | refine ⟨_, _, _, _, (rfl : _ = V.ref _), (rfl : _ = V.int _), SqL.of (by walk_at "hp"), rfl, ?_⟩
  | refine ⟨_, _, _, _, (rfl : _ = V.ref _), (rfl : _ = V.int _), (by walk_at "hp"), rfl, ?_⟩
  | refine ⟨Or.inl ⟨rfl, _, SqL.of (by walk_at "hp")⟩, ?_⟩
  | refine ⟨_, _, _, (rfl : _ = V.ref _), (rfl : (_ : List V) = _), (by walk_at "hp"), (by with_reducible assumption), ?_⟩
  | refine ⟨_, _, (rfl : (_ : List V) = _), Or.inl (SqL.of (by walk_at "hp")), ?_⟩
  | refine ⟨_, _, _, _, (rfl : _ = V.ref _), (rfl : _ = V.int _), SqL.of (by walk_at "hp"), (by walk_at "at"), ?_⟩
  | refine ⟨_, _, _, (rfl : _ = V.str _), (rfl : _ = V.int _), (by walk_at "sz"), (by walk_at "at"), ?_⟩
  | refine ⟨_, _, (rfl : (_ : List V) = [V.str _]), SX.int_S (by assumption) (by simp) (by assumption), (by assumption), ?_⟩
  | refine ⟨_, _, (rfl : (_ : List V) = [_, _]), ?_⟩
  | refine ⟨(rfl : (_ : Bool) = true), ?_⟩
  | refine ⟨(rfl : (_ : V) = V.non), ?_⟩
  | refine And.intro (by walk_at "sz") ?_
  | refine .inl ⟨_, rfl, ?_⟩)
local macro_rules | `(tactic| walk_at "w") => `(tactic| repeat walk_at "w1")
local macro_rules | `(tactic| walk_at "fld") => `(tactic| (fail_if_success with_reducible show @ite _ _ _ _ _); first
  | refine ⟨_, _, _, _, _, (rfl : _ = V.ref _), (by walk_at "hp"), Txt.cl_Heap _, Txt.nf__shapes _, hz_shapes _, ?_⟩
  | refine ⟨_, _, _, _, _, (rfl : _ = V.ref _), (by walk_at "hp"), Txt.cl_Heap _, Txt.nf__faces _, hz_faces _, ?_⟩
  | refine ⟨_, _, _, _, _, (rfl : _ = V.ref _), (by walk_at "hp"), Txt.cl_Heap _, Txt.nf__firsts _, hz_firsts _, ?_⟩
  | refine ⟨_, _, _, _, _, (rfl : _ = V.ref _), (by walk_at "hp"), Txt.cl_Heap _, Txt.nf__seconds _, hz_seconds _, ?_⟩
  | refine ⟨_, _, _, _, _, (rfl : _ = V.ref _), (by walk_at "hp"), Txt.cl_Heap _, Txt.nf__hefts _, hz_hefts _, ?_⟩
  | refine ⟨_, _, _, _, _, (rfl : _ = V.ref _), (by walk_at "hp"), Txt.cl_Heap _, Txt.nf__numbers _, hz_numbers _, ?_⟩
  | refine ⟨_, _, _, _, _, (rfl : _ = V.ref _), (by walk_at "hp"), Txt.cl_Heap _, Txt.nf__names _, hz_names _, ?_⟩
  | refine ⟨_, _, _, _, _, (rfl : _ = V.ref _), (by walk_at "hp"), Txt.cl_Heap _, Txt.nf__pairs _, hz_pairs _, ?_⟩)
local macro_rules | `(tactic| walk_at "wf") => `(tactic| repeat first | walk_at "w1" | walk_at "fld")
section
variable {P : Program} {w : World} {K : PySem.W.Frag} {mg : Str → Option Value} {base : Heap}
def spPlain : Sp := fun us H Q _ => ∃ (l : List Nat) (t : Tr), us = [.str (SX.S l)] ∧ l.length ≤ 1000000 ∧ run [] none (tk l) = some ([], some t) ∧ Pr t ∧ (can t).length ≤ 1000000 ∧ ∀ H', Same H H' → Q (.str (SX.S (can t))) H'
theorem ok_plain (T : Txt K mg) : FnOk P w K mg base CX0 7 T.a_plain T.d_plain ["text"] spPlain := by
  refine T.plain.fn.ok sc_plain (fun vs H Q E h => ?_) (fun cdv A outer s H vs Q E hr h => ?_)
  · obtain ⟨l, t, rfl, _⟩ := h
    rfl
  · obtain ⟨l, t, rfl, hl, hrun, pr, hc, k⟩ := h
    refine ⟨_, (pss_cons (ps_set (i := 1) sc_plain.nd rfl (Or.inl rfl) (pe_make0 T.mk_Heap (ok_Heap__init (P := P) (w := w) (base := base) T) (hr.mono (by decide)) rfl T.m_Heap T.Heap__init.b .nil pass0))
      (pss_one (ps_ret (pe_call (ok_write (P := P) (w := w) (base := base) T) (hr.mono (by decide)) rfl T.write.mg T.write.fn.kp T.write.b .nil pass0 (pa_cons (pv 1) (pa_cons (pe_call (ok_read (P := P) (w := w) (base := base) T) (hr.mono (by decide)) rfl T.read.mg T.read.fn.kp T.read.b .nil pass0 (pa_cons (pv 1) (pa_cons (pv 0) pa_nil))) pa_nil)))))), ?_⟩
    try dsimp only [cxOf, Cx.nox]
    intro x dx nx ndx nex
    refine ⟨x, dx, rfl, upd_same, fun z H1 hz hf hA hk => ⟨rfl, ?_⟩⟩
    have s1 : Same H H1 := fun b o e => hk b o (ne_of_none e nx) (by rw [upd_ne (ne_of_none e nx), upd_ne (ne_of_none e ndx)]; exact e)
    subst hz
    walk_at "wf"
    refine ⟨z, [Nd.nil], l, t, rfl, hA, WF.one, hl, by simp; omega, hrun, fun i G' H2 hA2 wf2 ex2 le2 den2 kp2 => ?_⟩
    walk_at "wf"
    have hw := (wgt_can pr).2
    refine ⟨z, G', i, t, rfl, hA2, wf2, den2, pr, by simp at le2; omega, by omega, by omega, fun H3 k3 => ?_⟩
    refine k H3 fun b o e => k3 b o (by simp) (kp2 b o (fun q => ?_) (s1 b o e))
    have := hf b q
    rw [upd_ne (ne_of_none e nx), upd_ne (ne_of_none e ndx), e] at this
    cases this
end
end Wh
set_option Elab.async false
set_option linter.all false
set_option maxRecDepth 100000
set_option maxHeartbeats 1000000
/-! The law's own draws. -/
namespace Wh
open PySem L2 PySem.Spec PyProof.Rows
local macro_rules | `(tactic| walk_at "ne") => `(tactic| first | with_reducible assumption | (apply Ne.symm; with_reducible assumption))
local macro_rules | `(tactic| walk_at "hp") => `(tactic| first | with_reducible assumption | with_reducible exact upd_same | ((with_reducible refine (upd_ne ?n).trans ?h); (case n => walk_at "ne"); (case h => walk_at "hp")) | ((with_reducible show upd _ _ _ _ = _); exact upd_same))
local macro_rules | `(tactic| walk_at "cond") => `(tactic| first | with_reducible assumption | exact (rfl : (_ : Bool) = true) | ((try dsimp only) <;> first | with_reducible assumption | decide | omega) | exact ⟨by first | decide | omega | decide +kernel, by first | decide | omega | decide +kernel⟩ | decide +kernel | exact .inr ⟨by decide, by decide⟩ | exact .inl ⟨by decide, by decide⟩)
local macro_rules | `(tactic| walk_at "sq") => `(tactic| first | with_reducible assumption | exact SqL.of (by walk_at "hp"))
local macro_rules | `(tactic| walk_at "sz") => `(tactic| first | with_reducible assumption | (show _ ≤ 16777216; omega))
local macro_rules | `(tactic| walk_at "at") => `(tactic| first | with_reducible assumption | exact atI_nat (by with_reducible assumption) | exact atI_nat (j := 0) (rfl : (_ : Option Nat) = some _) | exact atI_nat (by assumption))
local macro_rules | `(tactic| walk_at "w1") => `(tactic| (fail_if_success with_reducible show @ite _ _ _ _ _); first
  | refine ⟨_, rfl, ?_⟩
  | refine ⟨_, _, (rfl : _ = V.int _), (rfl : _ = V.int _), And.intro (by walk_at "cond") ?_⟩
  | refine ⟨_, _, (rfl : _ = V.int _), (rfl : _ = V.int _), ?_⟩
  | refine ⟨_, _, (rfl : _ = V.str _), (rfl : _ = V.str _), And.intro (by walk_at "sz") ?_⟩
  | refine ⟨_, _, (rfl : _ = V.str _), (rfl : _ = V.str _), ?_⟩
  | refine ⟨_, _, _, _, (rfl : _ = V.ref _), (rfl : _ = V.int _), (by walk_at "sq"), rfl, ?_⟩
  | refine ⟨_, _, _, _, (rfl : _ = V.ref _), (rfl : _ = V.int _), (by walk_at "hp"), rfl, ?_⟩
  | refine ⟨Or.inl ⟨rfl, _, (by walk_at "sq")⟩, ?_⟩
  | refine ⟨_, _, _, (rfl : _ = V.ref _), (rfl : (_ : List V) = _), (by walk_at "hp"), (by with_reducible assumption), ?_⟩
  | refine ⟨_, _, (rfl : (_ : List V) = _), Or.inl ((by walk_at "sq")), ?_⟩
  | refine ⟨_, _, _, _, (rfl : _ = V.ref _), (rfl : _ = V.int _), (by walk_at "sq"), (by walk_at "at"), ?_⟩
  | refine ⟨_, _, _, (rfl : _ = V.str _), (rfl : _ = V.int _), (by walk_at "sz"), (by walk_at "at"), ?_⟩
  | refine ⟨_, _, (rfl : (_ : List V) = [V.str _]), SX.int_S (by assumption) (by simp) (by assumption), (by assumption), ?_⟩
  | refine ⟨_, _, (rfl : (_ : List V) = [_, _]), ?_⟩
  | refine ⟨_, _, (rfl : _ = V.ref _), (by walk_at "sq"), ?_⟩
  | refine ⟨(rfl : (_ : Bool) = true), ?_⟩
  | refine ⟨(rfl : (_ : V) = V.non), ?_⟩
  | refine And.intro (by walk_at "sz") ?_
  | refine .inl ⟨_, rfl, ?_⟩)
local macro_rules | `(tactic| walk_at "w") => `(tactic| repeat walk_at "w1")
local macro_rules | `(tactic| walk_at "fld") => `(tactic| (fail_if_success with_reducible show @ite _ _ _ _ _); first
  | refine ⟨_, _, _, _, _, (rfl : _ = V.ref _), (by walk_at "hp"), Txt.cl_Heap _, Txt.nf__shapes _, hz_shapes _, ?_⟩
  | refine ⟨_, _, _, _, _, (rfl : _ = V.ref _), (by walk_at "hp"), Txt.cl_Heap _, Txt.nf__faces _, hz_faces _, ?_⟩
  | refine ⟨_, _, _, _, _, (rfl : _ = V.ref _), (by walk_at "hp"), Txt.cl_Heap _, Txt.nf__firsts _, hz_firsts _, ?_⟩
  | refine ⟨_, _, _, _, _, (rfl : _ = V.ref _), (by walk_at "hp"), Txt.cl_Heap _, Txt.nf__seconds _, hz_seconds _, ?_⟩
  | refine ⟨_, _, _, _, _, (rfl : _ = V.ref _), (by walk_at "hp"), Txt.cl_Heap _, Txt.nf__hefts _, hz_hefts _, ?_⟩
  | refine ⟨_, _, _, _, _, (rfl : _ = V.ref _), (by walk_at "hp"), Txt.cl_Heap _, Txt.nf__numbers _, hz_numbers _, ?_⟩
  | refine ⟨_, _, _, _, _, (rfl : _ = V.ref _), (by walk_at "hp"), Txt.cl_Heap _, Txt.nf__names _, hz_names _, ?_⟩
  | refine ⟨_, _, _, _, _, (rfl : _ = V.ref _), (by walk_at "hp"), Txt.cl_Heap _, Txt.nf__pairs _, hz_pairs _, ?_⟩)
local macro_rules | `(tactic| walk_at "wf") => `(tactic| repeat first | walk_at "w1" | walk_at "fld")
section
variable {P : Program} {w : World} {K : PySem.W.Frag} {mg : Str → Option Value} {base : Heap}
/-- a box: three numbers -/
def BoxAt (H : Hp) (b : Addr) : Prop := ∃ g c s : Int, H b = some (.lst [.int g, .int c, .int s])
def spTake : Sp := fun vs H Q _ => ∃ (b : Addr) (n : Int), vs = [.ref b, .int n] ∧ BoxAt H b ∧ 0 < n ∧ n < 1000000 ∧
  ∀ (d : Int) (H' : Hp), 0 ≤ d → d < n → BoxAt H' b → Kp [b] H H' → Q (.int d) H'
theorem ok_law_take (T : Txt K mg) : FnOk P w K mg base CX0 1 T.a_law_take T.d_law_take ["box", "size"] spTake := by
  refine T.law_take.fn.ok sc_law_take (fun vs H Q E h => ?_) (fun cdv A outer s H vs Q E hr h => ?_)
  · obtain ⟨b, n, rfl, _⟩ := h
    rfl
  · obtain ⟨b, n, rfl, ⟨g, c, z, hb⟩, h0, h1, k⟩ := h
    refine ⟨_, (pss_cons (ps_if (pt_cmpR op_gt (pe_ix ix_list (pv 0) pe_int (fun _ _ => rfl)) pe_int (nomark _)) (pss_cons (ps_set (i := 2) sc_law_take.nd rfl (Or.inl rfl) (pe_op op_mod (pe_callTy call_int1 (by rfl) T.b_int (by decide +kernel) (pa_cons (pe_ix ix_list (pv 0) pe_int (fun _ _ => rfl)) pa_nil)) (pv 1)))
      (pss_cons (ps_asg (pe_op op_fdiv (pe_ix ix_list (pv 0) pe_int (fun _ _ => rfl)) (pv 1)) (pg_sub (pv 0) pe_int set_list))
      (pss_one (ps_ret (pv 2))))) pss_nil)
      (pss_cons (ps_asg (pe_op op_add (pe_ix ix_list (pv 0) pe_int (fun _ _ => rfl)) pe_int) (pg_sub (pv 0) pe_int set_list))
      (pss_cons (ps_asg (pe_op op_mod (pe_callTy call_int1 (by rfl) T.b_int (by decide +kernel) (pa_cons (pe_op op_add (pe_op op_add (pe_op op_mul (pe_ix ix_list (pv 0) pe_int (fun _ _ => rfl)) pe_int) (pe_op op_mul (pe_ix ix_list (pv 0) pe_int (fun _ _ => rfl)) pe_int)) pe_int) pa_nil)) pe_int) (pg_sub (pv 0) pe_int set_list))
      (pss_cons (ps_set (i := 3) sc_law_take.nd rfl (Or.inl rfl) (pe_op op_mod (pe_callTy call_int1 (by rfl) T.b_int (by decide +kernel) (pa_cons (pe_op op_add (pe_op op_mul (pe_ix ix_list (pv 0) pe_int (fun _ _ => rfl)) pe_int) (pe_op op_mul (pe_ix ix_list (pv 0) pe_int (fun _ _ => rfl)) pe_int)) pa_nil)) pe_int))
      (pss_one (ps_ret (pe_op op_mod (pe_callTy call_int1 (by rfl) T.b_int (by decide +kernel) (pa_cons (pe_op op_fdiv (pv 3) pe_int) pa_nil)) (pv 1)))))))), ?_⟩
    try dsimp only [cxOf, Cx.nox]
    walk_at "w"
    refine iteD (fun c0 => ?_) (fun c0 => ?_)
    · walk_at "w"
      exact k _ _ (Int.emod_nonneg _ (by omega)) (Int.emod_lt_of_pos _ h0) ⟨_, _, _, upd_same⟩ ((Kp.refl H).at (by simp))
    · walk_at "w"
      exact k _ _ (Int.emod_nonneg _ (by omega)) (Int.emod_lt_of_pos _ h0) ⟨_, _, _, upd_same⟩ (((Kp.refl H).at (by simp)).at (by simp))
theorem cutV_to (xs : List V) (k : Nat) : cutV xs none (some (k : Int)) = xs.take k := by
  unfold cutV
  rw [HT.sIx_none, HT.sIx_nat, Nat.sub_zero, List.drop_zero]
  by_cases h : k ≤ xs.length
  · rw [Nat.min_eq_left h]
  · rw [Nat.min_eq_right (by omega), List.take_length, List.take_of_length_le (by omega)]
def spBox (K : PySem.W.Frag) : Sp := fun vs H Q _ => ∃ (a : Addr) (ns : List Int) (p : Nat), vs = [.ref a, .int (p : Int)] ∧ SqL K H a (ns.map V.int) ∧ ∀ (b : Addr) (H' : Hp), H b = none → BoxAt H' b → Kp [] H H' → Q (.ref b) H'
theorem ok_law_box (T : Txt K mg) : FnOk P w K mg base CX0 1 T.a_law_box T.d_law_box ["script", "place"] (spBox K) := by
  refine T.law_box.fn.ok sc_law_box (fun vs H Q E h => ?_) (fun cdv A outer s H vs Q E hr h => ?_)
  · obtain ⟨a, ns, p, rfl, _⟩ := h
    rfl
  · obtain ⟨a, ns, p, rfl, hS, k⟩ := h
    have fin : ∀ (b : Addr) (x y z : Int) (q : Addr) (o : HO), H q = none → (upd H q o) b = none → Q (.ref b) (upd (upd H q o) b (.lst [.int x, .int y, .int z])) := fun b x y z q o h1 h2 =>
      k b _ (by
        have : b ≠ q := fun e => by rw [e, upd_same] at h2; cases h2
        rw [upd_ne this] at h2; exact h2) ⟨_, _, _, upd_same⟩ (((Kp.refl H).new h1).new' h2)
    refine ⟨_, (pss_cons (ps_set (i := 2) sc_law_box.nd rfl (Or.inl rfl) pe_int)
      (pss_cons (ps_if (pt_cmpR op_lt (pv 1) (pe_callB call_len_seq (by rfl) T.b_len (by decide +kernel) (pa_cons (pv 0) pa_nil)) (nomark _)) (pss_one (ps_set (i := 2) sc_law_box.nd rfl (Or.inl rfl) (pe_callTy call_int1 (by rfl) T.b_int (by decide +kernel) (pa_cons (pe_ix ix_list (pv 0) (pv 1) (fun _ _ => rfl)) pa_nil)))) pss_nil)
      (pss_cons (ps_if (pt_cmpR op_lt (pv 2) pe_int (nomark _)) (pss_one (ps_set (i := 2) sc_law_box.nd rfl (Or.inl rfl) (pe_op op_sub (pe_un un_neg pe_int) (pv 2)))) pss_nil)
      (pss_cons (ps_set (i := 3) sc_law_box.nd rfl (Or.inl rfl) pe_int)
      (pss_cons (ps_if (pt_cmpR op_ge (pv 2) (pe_op op_powW pe_int pe_int) (nomark _)) (pss_one (ps_set (i := 3) sc_law_box.nd rfl (Or.inl rfl) (pe_op op_mod (pe_callTy call_int1 (by rfl) T.b_int (by decide +kernel) (pa_cons (pv 2) pa_nil)) (pe_op op_powW (pe_op op_powW pe_int pe_int) pe_int)))) pss_nil)
      (pss_cons (ps_set (i := 4) sc_law_box.nd rfl (Or.inl rfl) (pe_op op_add (pe_op op_add (pe_op op_mod (pe_callTy call_int1 (by rfl) T.b_int (by decide +kernel) (pa_cons (pv 2) pa_nil)) pe_int) (pe_op op_mul pe_int (pv 1))) (pe_op op_mod (pe_callTy call_int1 (by rfl) T.b_int (by decide +kernel) (pa_cons (pe_callB (cr_sum rfl) (by rfl) T.b_sum (by decide +kernel) (pa_cons (pe_slice sl_list (pv 0) po_none (po_some pe_int)) pa_nil)) pa_nil)) pe_int)))
      (pss_one (ps_ret (pe_lst (pa_cons (pv 3) (pa_cons pe_int (pa_cons (pv 4) pa_nil)))))))))))), ?_⟩
    try dsimp only [cxOf, Cx.nox]
    walk_at "w"
    refine iteD (fun h1 => ?_) (fun h1 => ?_)
    · have hp : p < ns.length := by rw [List.length_map] at h1; omega
      have hat : (ns.map V.int)[p]? = some (V.int ns[p]) := by rw [List.getElem?_map, List.getElem?_eq_getElem hp]; rfl
      walk_at "w"
      refine iteD (fun h2 => ?_) (fun h2 => ?_) <;>
      · walk_at "w"
        refine iteD (fun h3 => ?_) (fun h3 => ?_) <;>
        · walk_at "w"
          intro q hq
          refine ⟨q, ns.take 63, rfl, SqL.of (by rw [show (some 63 : Option Int) = some ((63 : Nat) : Int) from rfl, cutV_to, ← List.map_take]; exact upd_same), ?_⟩
          walk_at "w"
          first | exact ⟨(show 3 ≤ sizeLine by decide), fun b hb => fin b _ _ _ q _ hq hb⟩ | exact fun b hb => fin b _ _ _ q _ hq hb
    · walk_at "w"
      refine iteD (fun h2 => ?_) (fun h2 => ?_) <;>
      · walk_at "w"
        refine iteD (fun h3 => ?_) (fun h3 => ?_) <;>
        · walk_at "w"
          intro q hq
          refine ⟨q, ns.take 63, rfl, SqL.of (by rw [show (some 63 : Option Int) = some ((63 : Nat) : Int) from rfl, cutV_to, ← List.map_take]; exact upd_same), ?_⟩
          walk_at "w"
          first | exact ⟨(show 3 ≤ sizeLine by decide), fun b hb => fin b _ _ _ q _ hq hb⟩ | exact fun b hb => fin b _ _ _ q _ hq hb
end
end Wh
set_option Elab.async false
set_option linter.all false
set_option maxRecDepth 100000
set_option maxHeartbeats 1000000
/-! The law's words, gaps and lists. -/
namespace Wh
open PySem L2 PySem.Spec PyProof.Rows
local macro_rules | `(tactic| walk_at "ne") => `(tactic| first | with_reducible assumption | (apply Ne.symm; with_reducible assumption))
local macro_rules | `(tactic| walk_at "hp") => `(tactic| first | with_reducible assumption | with_reducible exact upd_same | ((with_reducible refine (upd_ne ?n).trans ?h); (case n => walk_at "ne"); (case h => walk_at "hp")) | ((with_reducible show upd _ _ _ _ = _); exact upd_same))
local macro_rules | `(tactic| walk_at "cond") => `(tactic| first | with_reducible assumption | exact (rfl : (_ : Bool) = true) | ((try dsimp only) <;> first | with_reducible assumption | decide | omega) | exact ⟨by first | decide | omega | decide +kernel, by first | decide | omega | decide +kernel⟩ | decide +kernel | exact .inr ⟨by decide, by decide⟩ | exact .inl ⟨by decide, by decide⟩)
local macro_rules | `(tactic| walk_at "sq") => `(tactic| first | with_reducible assumption | exact SqL.of (by walk_at "hp"))
local macro_rules | `(tactic| walk_at "sz") => `(tactic| first | with_reducible assumption | (show _ ≤ 16777216; omega))
local macro_rules | `(tactic| walk_at "at") => `(tactic| first | with_reducible assumption | exact atI_nat (by with_reducible assumption) | exact atI_nat (j := 0) (rfl : (_ : Option Nat) = some _) | exact atI_nat (by assumption))
local macro_rules | `(tactic| walk_at "w1") => `(tactic| (fail_if_success with_reducible show @ite _ _ _ _ _); first
  | refine ⟨_, rfl, ?_⟩
  | refine ⟨_, _, (rfl : _ = V.int _), (rfl : _ = V.int _), And.intro (by walk_at "cond") ?_⟩
  | refine ⟨_, _, (rfl : _ = V.int _), (rfl : _ = V.int _), ?_⟩
  | refine ⟨_, _, (rfl : _ = V.str _), (rfl : _ = V.str _), And.intro (by walk_at "sz") ?_⟩
  | refine ⟨_, _, (rfl : _ = V.str _), (rfl : _ = V.str _), ?_⟩
  | refine ⟨_, _, _, _, (rfl : _ = V.ref _), (rfl : _ = V.int _), (by walk_at "sq"), rfl, ?_⟩
  | refine ⟨_, _, _, _, (rfl : _ = V.ref _), (rfl : _ = V.int _), (by walk_at "hp"), rfl, ?_⟩
  | refine ⟨Or.inl ⟨rfl, _, (by walk_at "sq")⟩, ?_⟩
  | refine ⟨_, _, _, (rfl : _ = V.ref _), (rfl : (_ : List V) = _), (by walk_at "hp"), (by with_reducible assumption), ?_⟩
  | refine ⟨_, _, (rfl : (_ : List V) = _), Or.inl ((by walk_at "sq")), ?_⟩
  | refine ⟨_, _, _, _, (rfl : _ = V.ref _), (rfl : _ = V.int _), (by walk_at "sq"), (by walk_at "at"), ?_⟩
  | refine ⟨_, _, _, (rfl : _ = V.str _), (rfl : _ = V.int _), (by walk_at "sz"), (by walk_at "at"), ?_⟩
  | refine ⟨_, _, (rfl : (_ : List V) = [V.str _]), SX.int_S (by assumption) (by simp) (by assumption), (by assumption), ?_⟩
  | refine ⟨_, _, (rfl : (_ : List V) = [_, _]), ?_⟩
  | refine ⟨_, _, (rfl : _ = V.ref _), (by walk_at "sq"), ?_⟩
  | refine ⟨(rfl : (_ : Bool) = true), ?_⟩
  | refine ⟨(rfl : (_ : V) = V.non), ?_⟩
  | refine And.intro (by walk_at "sz") ?_
  | refine ⟨⟨_, (rfl : _ = V.str _)⟩, ?_⟩
  | refine ⟨_, (rfl : _ = V.str _), (rfl : (_ : List V) = _), trivial, ?_⟩
  | refine .inl ⟨_, rfl, ?_⟩)
local macro_rules | `(tactic| walk_at "w") => `(tactic| repeat walk_at "w1")
local macro_rules | `(tactic| walk_at "fld") => `(tactic| (fail_if_success with_reducible show @ite _ _ _ _ _); first
  | refine ⟨_, _, _, _, _, (rfl : _ = V.ref _), (by walk_at "hp"), Txt.cl_Heap _, Txt.nf__shapes _, hz_shapes _, ?_⟩
  | refine ⟨_, _, _, _, _, (rfl : _ = V.ref _), (by walk_at "hp"), Txt.cl_Heap _, Txt.nf__faces _, hz_faces _, ?_⟩
  | refine ⟨_, _, _, _, _, (rfl : _ = V.ref _), (by walk_at "hp"), Txt.cl_Heap _, Txt.nf__firsts _, hz_firsts _, ?_⟩
  | refine ⟨_, _, _, _, _, (rfl : _ = V.ref _), (by walk_at "hp"), Txt.cl_Heap _, Txt.nf__seconds _, hz_seconds _, ?_⟩
  | refine ⟨_, _, _, _, _, (rfl : _ = V.ref _), (by walk_at "hp"), Txt.cl_Heap _, Txt.nf__hefts _, hz_hefts _, ?_⟩
  | refine ⟨_, _, _, _, _, (rfl : _ = V.ref _), (by walk_at "hp"), Txt.cl_Heap _, Txt.nf__numbers _, hz_numbers _, ?_⟩
  | refine ⟨_, _, _, _, _, (rfl : _ = V.ref _), (by walk_at "hp"), Txt.cl_Heap _, Txt.nf__names _, hz_names _, ?_⟩
  | refine ⟨_, _, _, _, _, (rfl : _ = V.ref _), (by walk_at "hp"), Txt.cl_Heap _, Txt.nf__pairs _, hz_pairs _, ?_⟩)
local macro_rules | `(tactic| walk_at "wf") => `(tactic| repeat first | walk_at "w1" | walk_at "fld")
section
variable {P : Program} {w : World} {K : PySem.W.Frag} {mg : Str → Option Value} {base : Heap}
theorem Kp.box {H H' : Hp} {b c : Addr} (k : Kp [b] H H') (n : c ≠ b) (h : BoxAt H c) : BoxAt H' c := by
  obtain ⟨x, y, z, e⟩ := h
  exact ⟨x, y, z, k c _ (by simp [n]) e⟩
theorem BoxAt.new {H : Hp} {b p : Addr} {o : HO} (h : BoxAt H b) (n : H p = none) : BoxAt (upd H p o) b := by
  obtain ⟨x, y, z, e⟩ := h
  exact ⟨x, y, z, (upd_ne (ne_of_none e n)).trans e⟩
theorem log_small {n : Nat} (h : n ≤ 9999) : ((n : Int)).natAbs.log2 < 1920 := by
  rw [Int.natAbs_natCast]
  by_cases q : n = 0
  · subst q; decide
  · rw [Nat.log2_lt q]
    exact Nat.lt_of_le_of_lt h (Nat.lt_of_lt_of_le (by decide : 9999 < 2 ^ 14) (Nat.pow_le_pow_right (by decide) (by decide)))
theorem str_at {z : Str} {d : Int} (h0 : 0 ≤ d) (h1 : d < z.cps.toList.length) : ∃ c, atI z.cps.toList d = some c ∧ c ∈ z.cps.toList := by
  obtain ⟨n, rfl⟩ := Int.eq_ofNat_of_zero_le h0
  have hn : n < z.cps.toList.length := by omega
  exact ⟨z.cps.toList[n], atI_nat (List.getElem?_eq_getElem hn), List.getElem_mem hn⟩
/-- a word that stands for an atom -/
def WordOk (l : List Nat) : Prop := ∃ t, Pr t ∧ can t = l ∧ Dr t l ∧ l.length ≤ 12 ∧ l.all isW = true ∧ l ≠ []
theorem WordOk.num {n : Nat} (h : n ≤ 9999) : WordOk (TL.numL n) := ⟨.num n, h, rfl, .num' h, Nat.le_trans (TL.numL_len (k := 4) (by decide) (by omega)) (by decide), digits_W (TL.numL_digits n), TL.numL_ne n⟩
theorem WordOk.nam {l : List Nat} (h : nmOk l = true) : WordOk l := ⟨.nam l, h, rfl, .nam' h, by
  cases l with
  | nil => cases h
  | cons c r => simp only [nmOk, Bool.and_eq_true, decide_eq_true_eq] at h; exact h.1.2, (nm_W h).1, (nm_W h).2⟩
def spWord : Sp := fun vs H Q _ => ∃ (b : Addr), vs = [.ref b] ∧ BoxAt H b ∧ ∀ (l : List Nat) (H' : Hp), WordOk l → BoxAt H' b → Kp [b] H H' → Q (.str (SX.S l)) H'
theorem ok_law_word (T : Txt K mg) : FnOk P w K mg base CX0 2 T.a_law_word T.d_law_word ["box"] spWord := by
  refine T.law_word.fn.ok sc_law_word (fun vs H Q E h => ?_) (fun cdv A outer s H vs Q E hr h => ?_)
  · obtain ⟨b, rfl, _⟩ := h
    rfl
  · obtain ⟨b, rfl, hb, k⟩ := h
    refine ⟨_, (pss_cons (ps_set (i := 1) sc_law_word.nd rfl (Or.inl rfl) (pe_call (ok_law_take (P := P) (w := w) (base := base) T) (hr.mono (by decide)) rfl T.law_take.mg T.law_take.fn.kp T.law_take.b .nil pass0 (pa_cons (pv 0) (pa_cons pe_int pa_nil))))
      (pss_cons (ps_if (pt_cmpR op_lt (pv 1) pe_int (nomark _)) (pss_one (ps_ret (pe_callTy call_str_int (by rfl) T.b_str (by decide +kernel) (pa_cons (pe_call (ok_law_take (P := P) (w := w) (base := base) T) (hr.mono (by decide)) rfl T.law_take.mg T.law_take.fn.kp T.law_take.b .nil pass0 (pa_cons (pv 0) (pa_cons (pe_ix ix_list (pe_lst (pa_cons pe_int (pa_cons pe_int (pa_cons pe_int (pa_cons pe_int pa_nil))))) (pe_call (ok_law_take (P := P) (w := w) (base := base) T) (hr.mono (by decide)) rfl T.law_take.mg T.law_take.fn.kp T.law_take.b .nil pass0 (pa_cons (pv 0) (pa_cons pe_int pa_nil))) (fun _ _ => rfl)) pa_nil))) pa_nil)))) pss_nil)
      (pss_cons (ps_if (pt_cmpR op_eq (pv 1) pe_int (nomark _)) (pss_one (ps_ret (pe_ix ix_list (pe_lst (pa_cons pe_str (pa_cons pe_str (pa_cons pe_str (pa_cons pe_str (pa_cons pe_str (pa_cons pe_str (pa_cons pe_str (pa_cons pe_str pa_nil))))))))) (pe_call (ok_law_take (P := P) (w := w) (base := base) T) (hr.mono (by decide)) rfl T.law_take.mg T.law_take.fn.kp T.law_take.b .nil pass0 (pa_cons (pv 0) (pa_cons pe_int pa_nil))) (fun _ _ => rfl)))) pss_nil)
      (pss_cons (ps_if (pt_cmpR op_eq (pv 1) pe_int (nomark _)) (pss_one (ps_ret pe_str)) pss_nil)
      (pss_cons (ps_set (i := 2) sc_law_word.nd rfl (Or.inl rfl) (pe_ix ix_str pe_str (pe_call (ok_law_take (P := P) (w := w) (base := base) T) (hr.mono (by decide)) rfl T.law_take.mg T.law_take.fn.kp T.law_take.b .nil pass0 (pa_cons (pv 0) (pa_cons pe_int pa_nil))) (fun _ _ => rfl)))
      (pss_cons (ps_for PassesOwn.never rfl (pi_range1 (by rfl) T.b_range (pa_cons (pe_call (ok_law_take (P := P) (w := w) (base := base) T) (hr.mono (by decide)) rfl T.law_take.mg T.law_take.fn.kp T.law_take.b .nil pass0 (pa_cons (pv 0) (pa_cons pe_int pa_nil))) pa_nil)) (pg_name (i := 3) sc_law_word.nd rfl (Or.inl rfl)) (pss_one (ps_set (i := 2) sc_law_word.nd rfl (Or.inl rfl) (pe_op op_add_str (pv 2) (pe_ix ix_str pe_str (pe_call (ok_law_take (P := P) (w := w) (base := base) T) (hr.mono (by decide)) rfl T.law_take.mg T.law_take.fn.kp T.law_take.b .nil pass0 (pa_cons (pv 0) (pa_cons pe_int pa_nil))) (fun _ _ => rfl))))))
      (pss_one (ps_ret (pv 2))))))))), ?_⟩
    try dsimp only [cxOf, Cx.nox]
    walk_at "w"
    refine ⟨by decide, by decide, fun way H1 w0 w1 hb1 kp1 => ?_⟩
    walk_at "w"
    refine iteD (fun h3 => ?_) (fun h3 => ?_)
    · walk_at "w"
      refine ⟨(show 4 ≤ sizeLine by decide), fun p hp => ?_⟩
      have npb : p ≠ b := fun q => by obtain ⟨_, _, _, e⟩ := hb1; rw [q, e] at hp; cases hp
      have hbp := hb1.new (o := .lst [.int 10, .int 100, .int 1000, .int 10000]) hp
      walk_at "w"
      refine ⟨by decide, by decide, fun d2 H2 a0 a1 hb2 kp2 => ?_⟩
      have hp2 : H2 p = some (.lst [.int 10, .int 100, .int 1000, .int 10000]) := kp2 p _ (by simp [npb]) upd_same
      have fin : ∀ (N d3 : Int) (H3 : Hp), N ≤ 10000 → 0 ≤ d3 → d3 < N → BoxAt H3 b → Kp [b] H2 H3 → (d3.natAbs.log2 < 1920) ∧ Q (V.str (Str.ofString (toString d3))) H3 := by
        intro N d3 H3 hN e0 e1 hb3 kp3
        obtain ⟨n, rfl⟩ := Int.eq_ofNat_of_zero_le e0
        have hn : n ≤ 9999 := by omega
        refine ⟨log_small hn, ?_⟩
        rw [SX.num_S]
        exact k _ H3 (.num hn) hb3 (((kp1.new' hp).trans kp2).trans kp3)
      have c4 : d2 = 0 ∨ d2 = 1 ∨ d2 = 2 ∨ d2 = 3 := by omega
      rcases c4 with rfl | rfl | rfl | rfl
      all_goals
        walk_at "w"
        refine ⟨by decide, by decide, fun d3 H3 e0 e1 hb3 kp3 => ?_⟩
        walk_at "w"
        exact fin _ d3 H3 (by decide) e0 e1 hb3 kp3
    · walk_at "w"
      refine iteD (fun h4 => ?_) (fun h4 => ?_)
      · walk_at "w"
        refine ⟨(show 8 ≤ sizeLine by decide), fun p hp => ?_⟩
        have npb : p ≠ b := fun q => by obtain ⟨_, _, _, e⟩ := hb1; rw [q, e] at hp; cases hp
        have hbp := hb1.new (o := .lst [.str "0", .str "9999", .str "10", .str "1000", .str "quotes", .str "def", .str "rest", .str "quot"]) hp
        walk_at "w"
        refine ⟨by decide, by decide, fun d2 H2 a0 a1 hb2 kp2 => ?_⟩
        have hp2 : H2 p = some (.lst [.str "0", .str "9999", .str "10", .str "1000", .str "quotes", .str "def", .str "rest", .str "quot"]) := kp2 p _ (by simp [npb]) upd_same
        have kk := (kp1.new' hp).trans kp2
        have c8 : d2 = 0 ∨ d2 = 1 ∨ d2 = 2 ∨ d2 = 3 ∨ d2 = 4 ∨ d2 = 5 ∨ d2 = 6 ∨ d2 = 7 := by omega
        rcases c8 with rfl | rfl | rfl | rfl | rfl | rfl | rfl | rfl
        all_goals walk_at "w"
        · have := k _ H2 (.num (n := 0) (by decide)) hb2 kk
          rw [show SX.S (TL.numL 0) = Str.ofString "0" from by decide +kernel] at this; exact this
        · have := k _ H2 (.num (n := 9999) (by decide)) hb2 kk
          rw [show SX.S (TL.numL 9999) = Str.ofString "9999" from by decide +kernel] at this; exact this
        · have := k _ H2 (.num (n := 10) (by decide)) hb2 kk
          rw [show SX.S (TL.numL 10) = Str.ofString "10" from by decide +kernel] at this; exact this
        · have := k _ H2 (.num (n := 1000) (by decide)) hb2 kk
          rw [show SX.S (TL.numL 1000) = Str.ofString "1000" from by decide +kernel] at this; exact this
        · have := k _ H2 (.nam (l := [113, 117, 111, 116, 101, 115]) (by decide)) hb2 kk
          rw [show SX.S [113, 117, 111, 116, 101, 115] = Str.ofString "quotes" from by decide +kernel] at this; exact this
        · have := k _ H2 (.nam (l := [100, 101, 102]) (by decide)) hb2 kk
          rw [show SX.S [100, 101, 102] = Str.ofString "def" from by decide +kernel] at this; exact this
        · have := k _ H2 (.nam (l := [114, 101, 115, 116]) (by decide)) hb2 kk
          rw [show SX.S [114, 101, 115, 116] = Str.ofString "rest" from by decide +kernel] at this; exact this
        · have := k _ H2 (.nam (l := [113, 117, 111, 116]) (by decide)) hb2 kk
          rw [show SX.S [113, 117, 111, 116] = Str.ofString "quot" from by decide +kernel] at this; exact this
      · walk_at "w"
        refine iteD (fun h5 => ?_) (fun h5 => ?_)
        · walk_at "w"
          have := k _ H1 (.nam (l := quoL) (by decide)) hb1 kp1
          rw [← S_quote] at this; exact this
        · have z1 : (Str.ofString "abcdefghijklmnopqrstuvwxyz").length ≤ sizeLine := by decide +kernel
          have z2 : (Str.ofString "abcdefghijklmnopqrstuvwxyz0123456789").length ≤ sizeLine := by decide +kernel
          walk_at "w"
          refine ⟨by decide, by decide, fun d2 H2 a0 a1 hb2 kp2 => ?_⟩
          obtain ⟨c, hc, hm⟩ := str_at (z := Str.ofString "abcdefghijklmnopqrstuvwxyz") a0 (by rw [c_lower]; exact a1)
          walk_at "w"
          refine ⟨by decide, by decide, fun d3 H3 b0 b1 hb3 kp3 => ?_⟩
          walk_at "w"
          refine ⟨by omega, by omega, for_it walk_range (fun i σ H4 => (∃ (l : List Nat) (kk : Option V), σ = [some (.ref b), some (.int way), some (.str (SX.S l)), kk] ∧ l.length = i + 1 ∧ (∃ c r, l = c :: r ∧ isLow c = true) ∧ l.all isNs = true) ∧ BoxAt H4 b ∧ Kp [b] H H4) ?_ (fun _ _ _ _ _ => trivial) ?_ ?_⟩
          · exact ⟨⟨[c], none, rfl, rfl, ⟨c, [], rfl, (mem_lower c).mp hm⟩, by simp [isNs, (mem_lower c).mp hm]⟩, hb3, (kp1.trans kp2).trans kp3⟩
          · rintro i x σ H4 H5 hi ⟨⟨l, kk, rfl, hl, ⟨c0, r0, el, lo⟩, hns⟩, hb4, kp4⟩ ⟨rfl, rfl⟩
            have hi' : i < 12 := by omega
            walk_at "w"
            refine ⟨by decide, by decide, fun d4 H6 f0 f1 hb6 kp6 => ?_⟩
            obtain ⟨c2, hc2, hm2⟩ := str_at (z := Str.ofString "abcdefghijklmnopqrstuvwxyz0123456789") f0 (by rw [c_names]; exact f1)
            have zl : (SX.S l).length + (⟨#[c2]⟩ : Str).length ≤ sizeLine := by rw [SX.S_len]; show _ + 1 ≤ 16777216; omega
            walk_at "w"
            refine ⟨⟨l ++ [c2], some (.int (0 + (i : Int))), by rw [← SX.S_cat]; rfl, by simp [hl], ⟨c0, r0 ++ [c2], by rw [el]; rfl, lo⟩, by simp [hns, (mem_names c2).mp hm2]⟩, hb6, kp4.trans kp6⟩
          · rintro σ H4 ⟨⟨l, kk, rfl, hl, ⟨c0, r0, el, lo⟩, hns⟩, hb4, kp4⟩
            walk_at "w"
            refine k l H4 (.nam ?_) hb4 kp4
            subst el
            have h12 : (c0 :: r0).length ≤ 12 := by omega
            simp only [nmOk, lo, hns, decide_eq_true h12, Bool.and_self]
/-! ### gaps -/
theorem isalnum_S {l : List Nat} (h : ∀ c ∈ l, c < 128) : Txt.isalnum (SX.S l) = (decide (0 < l.length) && l.all isW) := by
  have e : ∀ c, c < 128 → Unicode.isAlnum c = isW c := by decide +kernel
  unfold Txt.isalnum
  rw [SX.S_len]
  congr 1
  show (SX.S l).cps.all Unicode.isAlnum = _
  rw [← Array.all_toList]
  show l.all Unicode.isAlnum = l.all isW
  induction l with
  | nil => rfl
  | cons c r ih =>
    rw [List.all_cons, List.all_cons, e c (h c (by simp)), ih fun d hd => h d (by simp [hd])]
def gapsL : List (List Nat) := [[], [], [], [32], [10], [32, 32], [32, 10, 32], [10, 10]]
theorem gaps_eq : ([.str "", .str "", .str "", .str " ", .str "\n", .str "  ", .str " \n ", .str "\n\n"] : List V) = gapsL.map fun l => V.str (SX.S l) := by decide +kernel
theorem S_nil : Str.ofString "" = SX.S [] := by decide +kernel
theorem cut_last (x : List Nat) : cutS (SX.S x) (some (-1)) none = SX.S (x.drop (x.length - 1)) := by
  unfold cutS
  rw [HT.sIx_none, SX.S_len]
  have e : HT.sIx x.length 0 (some (-1)) = x.length - 1 := by
    show (if (-1 : Int) < 0 then (-1 + (x.length : Int)).toNat else min (-1 : Int).toNat x.length) = _
    rw [if_pos (by decide)]; omega
  rw [e]
  congr 2
  exact List.take_of_length_le (by simp)
theorem cut_first (x : List Nat) : cutS (SX.S x) none (some 1) = SX.S (x.take 1) := by
  unfold cutS
  rw [HT.sIx_none, SX.S_len, show (some 1 : Option Int) = some ((1 : Nat) : Int) from rfl, HT.sIx_nat]
  show SX.S ((x.drop 0).take (min 1 x.length - 0)) = _
  rw [List.drop_zero, Nat.sub_zero]
  cases x with
  | nil => rfl
  | cons c r => rw [Nat.min_eq_left (by simp)]
def spGap : Sp := fun vs H Q _ => ∃ (b : Addr) (x y : List Nat), vs = [.ref b, .str (SX.S x), .str (SX.S y)] ∧ BoxAt H b ∧ x.length ≤ 1000000 ∧ y.length ≤ 1000000 ∧ (∀ c ∈ x, c < 128) ∧ (∀ c ∈ y, c < 128) ∧
  ∀ (g : List Nat) (H' : Hp), g.all isB = true → g.length ≤ 3 → (g = [] → sepOk x y) → BoxAt H' b → Kp [b] H H' → Q (.str (SX.S g)) H'
theorem ok_law_gap (T : Txt K mg) : FnOk P w K mg base CX0 2 T.a_law_gap T.d_law_gap ["dress", "before", "after"] spGap := by
  refine T.law_gap.fn.ok sc_law_gap (fun vs H Q E h => ?_) (fun cdv A outer s H vs Q E hr h => ?_)
  · obtain ⟨b, x, y, rfl, _⟩ := h
    rfl
  · obtain ⟨b, x, y, rfl, hb, hx, hy, ax, ay, k⟩ := h
    refine ⟨_, (pss_cons (ps_set (i := 3) sc_law_gap.nd rfl (Or.inl rfl) (pe_ix ix_list (pe_lst (pa_cons pe_str (pa_cons pe_str (pa_cons pe_str (pa_cons pe_str (pa_cons pe_str (pa_cons pe_str (pa_cons pe_str (pa_cons pe_str pa_nil))))))))) (pe_call (ok_law_take (P := P) (w := w) (base := base) T) (hr.mono (by decide)) rfl T.law_take.mg T.law_take.fn.kp T.law_take.b .nil pass0 (pa_cons (pv 0) (pa_cons pe_int pa_nil))) (fun _ _ => rfl)))
      (pss_cons (ps_if (PW.pt (pw_and (pt_cmpR op_eq (pv 3) pe_str (nomark _)) (pw_and (pt_val (pe_m0 PySem.F.slot_str_isalnum PySem.F.type_str_isalnum mt_isalnum (pe_slice sl_str (pv 1) (po_some (pe_un un_neg pe_int)) po_none))) (pw_and1 (pt_val (pe_m0 PySem.F.slot_str_isalnum PySem.F.type_str_isalnum mt_isalnum (pe_slice sl_str (pv 2) po_none (po_some pe_int)))))))) (pss_one (ps_ret (pe_ix ix_list (pe_lst (pa_cons pe_str (pa_cons pe_str pa_nil))) (pe_call (ok_law_take (P := P) (w := w) (base := base) T) (hr.mono (by decide)) rfl T.law_take.mg T.law_take.fn.kp T.law_take.b .nil pass0 (pa_cons (pv 0) (pa_cons pe_int pa_nil))) (fun _ _ => rfl)))) pss_nil)
      (pss_one (ps_ret (pv 3))))), ?_⟩
    try dsimp only [cxOf, Cx.nox]
    walk_at "w"
    have zx : (SX.S x).length ≤ sizeLine := by rw [SX.S_len]; show _ ≤ 16777216; omega
    have zy : (SX.S y).length ≤ sizeLine := by rw [SX.S_len]; show _ ≤ 16777216; omega
    refine ⟨(show 8 ≤ sizeLine by decide), fun p hp => ?_⟩
    have hbp := hb.new (o := .lst [.str "", .str "", .str "", .str " ", .str "\n", .str "  ", .str " \n ", .str "\n\n"]) hp
    have npb : p ≠ b := fun q => by obtain ⟨_, _, _, e⟩ := hb; rw [q, e] at hp; cases hp
    walk_at "w"
    refine ⟨by decide, by decide, fun d H2 a0 a1 hb2 kp2 => ?_⟩
    have hp2 : H2 p = some (.lst [.str "", .str "", .str "", .str " ", .str "\n", .str "  ", .str " \n ", .str "\n\n"]) := kp2 p _ (by simp [npb]) upd_same
    have kk : Kp [b] H H2 := ((Kp.refl H).new hp).trans kp2
    rw [gaps_eq] at hp2
    obtain ⟨g, hg, hgm⟩ : ∃ g, atI (gapsL.map fun l => V.str (SX.S l)) d = some (V.str (SX.S g)) ∧ g ∈ gapsL := by
      obtain ⟨n, rfl⟩ := Int.eq_ofNat_of_zero_le a0
      have hn : n < gapsL.length := by show n < 8; omega
      exact ⟨gapsL[n], atI_nat (by rw [List.getElem?_map, List.getElem?_eq_getElem hn]; rfl), List.getElem_mem hn⟩
    have hgb : g.all isB = true ∧ g.length ≤ 3 := (by decide : ∀ g ∈ gapsL, g.all isB = true ∧ g.length ≤ 3) g hgm
    walk_at "w"
    refine iteD (fun he => ?_) (fun he => ?_)
    · have e0 := (str_eq S_nil).mp he
      subst e0
      walk_at "w"
      rw [cut_last, isalnum_S (fun c hc => ax c (List.mem_of_mem_drop hc))]
      refine ⟨rfl, trivial, ?_⟩
      walk_at "w"
      refine iteB (fun h1 => ?_) (fun h1 => ?_)
      · walk_at "w"
        rw [cut_first, isalnum_S (fun c hc => ay c (List.mem_of_mem_take hc))]
        refine ⟨rfl, trivial, ?_⟩
        walk_at "w"
        refine iteB (fun h2 => ?_) (fun h2 => ?_)
        · walk_at "w"
          refine ⟨(show 2 ≤ sizeLine by decide), fun p2 hpn => ?_⟩
          have hb3 := hb2.new (o := .lst [.str " ", .str "\n"]) hpn
          have npb2 : p2 ≠ b := fun q => by obtain ⟨_, _, _, e⟩ := hb2; rw [q, e] at hpn; cases hpn
          walk_at "w"
          refine ⟨by decide, by decide, fun d2 H4 b0 b1 hb4 kp4 => ?_⟩
          have hp4 : H4 p2 = some (.lst [.str " ", .str "\n"]) := kp4 p2 _ (by simp [npb2]) upd_same
          have k4 := (kk.new' hpn).trans kp4
          have c2 : d2 = 0 ∨ d2 = 1 := by omega
          rcases c2 with rfl | rfl
          · walk_at "w"
            have := k [32] H4 (by decide) (by decide) (fun q => by cases q) hb4 k4
            rw [← S_space] at this; exact this
          · walk_at "w"
            have := k [10] H4 (by decide) (by decide) (fun q => by cases q) hb4 k4
            rw [show SX.S [10] = Str.ofString "\n" from by decide +kernel] at this; exact this
        · walk_at "w"
          refine k [] H2 (by decide) (by decide) (fun _ => .inl fun c hc => ?_) hb2 kk
          cases y with
          | nil => cases hc
          | cons d r =>
            cases hc
            simpa using h2
      · refine iteF ?_
        walk_at "w"
        refine k [] H2 (by decide) (by decide) (fun _ => .inr fun c hc => ?_) hb2 kk
        have e : x.drop (x.length - 1) = [c] := by
          rw [List.getLast?_eq_getElem?] at hc
          obtain ⟨hl, hx⟩ := List.getElem?_eq_some_iff.mp hc
          rw [List.drop_eq_getElem_cons hl, hx, show x.length - 1 + 1 = x.length from by omega, List.drop_length]
        rw [e] at h1
        simpa using h1
    · refine iteF ?_
      walk_at "w"
      exact k g H2 hgb.1 hgb.2 (fun q => absurd ((str_eq S_nil).mpr q) he) hb2 kk
end
end Wh
set_option Elab.async false
set_option linter.all false
set_option maxRecDepth 100000
set_option maxHeartbeats 1000000
/-! The law's lists of words. -/
namespace Wh
open PySem L2 PySem.Spec PyProof.Rows
local macro_rules | `(tactic| walk_at "ne") => `(tactic| first | with_reducible assumption | (apply Ne.symm; with_reducible assumption))
local macro_rules | `(tactic| walk_at "hp") => `(tactic| first | with_reducible assumption | with_reducible exact upd_same | ((with_reducible refine (upd_ne ?n).trans ?h); (case n => walk_at "ne"); (case h => walk_at "hp")) | ((with_reducible show upd _ _ _ _ = _); exact upd_same))
local macro_rules | `(tactic| walk_at "cond") => `(tactic| first | with_reducible assumption | exact (rfl : (_ : Bool) = true) | ((try dsimp only) <;> first | with_reducible assumption | decide | omega) | exact ⟨by first | decide | omega | decide +kernel, by first | decide | omega | decide +kernel⟩ | decide +kernel | exact .inr ⟨by decide, by decide⟩ | exact .inl ⟨by decide, by decide⟩)
local macro_rules | `(tactic| walk_at "sq") => `(tactic| first | with_reducible assumption | exact SqL.of (by walk_at "hp"))
local macro_rules | `(tactic| walk_at "sz") => `(tactic| first | with_reducible assumption | (show _ ≤ 16777216; omega))
local macro_rules | `(tactic| walk_at "at") => `(tactic| first | with_reducible assumption | exact atI_nat (by with_reducible assumption) | exact atI_nat (j := 0) (rfl : (_ : Option Nat) = some _) | exact atI_nat (by assumption))
local macro_rules | `(tactic| walk_at "w1") => `(tactic| (fail_if_success with_reducible show @ite _ _ _ _ _); first
  | refine ⟨_, rfl, ?_⟩
  | refine ⟨_, _, (rfl : _ = V.int _), (rfl : _ = V.int _), And.intro (by walk_at "cond") ?_⟩
  | refine ⟨_, _, (rfl : _ = V.int _), (rfl : _ = V.int _), ?_⟩
  | refine ⟨_, _, (rfl : _ = V.str _), (rfl : _ = V.str _), And.intro (by walk_at "sz") ?_⟩
  | refine ⟨_, _, (rfl : _ = V.str _), (rfl : _ = V.str _), ?_⟩
  | refine ⟨_, _, _, _, (rfl : _ = V.ref _), (rfl : _ = V.int _), (by walk_at "sq"), rfl, ?_⟩
  | refine ⟨_, _, _, _, (rfl : _ = V.ref _), (rfl : _ = V.int _), (by walk_at "hp"), rfl, ?_⟩
  | refine ⟨Or.inl ⟨rfl, _, (by walk_at "sq")⟩, ?_⟩
  | refine ⟨_, _, _, (rfl : _ = V.ref _), (rfl : (_ : List V) = _), (by walk_at "hp"), (by with_reducible assumption), ?_⟩
  | refine ⟨_, _, (rfl : (_ : List V) = _), Or.inl ((by walk_at "sq")), ?_⟩
  | refine ⟨_, _, _, _, (rfl : _ = V.ref _), (rfl : _ = V.int _), (by walk_at "sq"), (by walk_at "at"), ?_⟩
  | refine ⟨_, _, _, (rfl : _ = V.str _), (rfl : _ = V.int _), (by walk_at "sz"), (by walk_at "at"), ?_⟩
  | refine ⟨_, _, (rfl : (_ : List V) = [V.str _]), SX.int_S (by assumption) (by simp) (by assumption), (by assumption), ?_⟩
  | refine ⟨_, _, (rfl : (_ : List V) = [_, _]), ?_⟩
  | refine ⟨_, _, (rfl : _ = V.ref _), (by walk_at "sq"), ?_⟩
  | refine ⟨(rfl : (_ : Bool) = true), ?_⟩
  | refine ⟨(rfl : (_ : V) = V.non), ?_⟩
  | refine And.intro (by walk_at "sz") ?_
  | refine ⟨⟨_, (rfl : _ = V.str _)⟩, ?_⟩
  | refine ⟨_, (rfl : _ = V.str _), (rfl : (_ : List V) = _), trivial, ?_⟩
  | refine .inl ⟨_, rfl, ?_⟩)
local macro_rules | `(tactic| walk_at "w") => `(tactic| repeat walk_at "w1")
local macro_rules | `(tactic| walk_at "fld") => `(tactic| (fail_if_success with_reducible show @ite _ _ _ _ _); first
  | refine ⟨_, _, _, _, _, (rfl : _ = V.ref _), (by walk_at "hp"), Txt.cl_Heap _, Txt.nf__shapes _, hz_shapes _, ?_⟩
  | refine ⟨_, _, _, _, _, (rfl : _ = V.ref _), (by walk_at "hp"), Txt.cl_Heap _, Txt.nf__faces _, hz_faces _, ?_⟩
  | refine ⟨_, _, _, _, _, (rfl : _ = V.ref _), (by walk_at "hp"), Txt.cl_Heap _, Txt.nf__firsts _, hz_firsts _, ?_⟩
  | refine ⟨_, _, _, _, _, (rfl : _ = V.ref _), (by walk_at "hp"), Txt.cl_Heap _, Txt.nf__seconds _, hz_seconds _, ?_⟩
  | refine ⟨_, _, _, _, _, (rfl : _ = V.ref _), (by walk_at "hp"), Txt.cl_Heap _, Txt.nf__hefts _, hz_hefts _, ?_⟩
  | refine ⟨_, _, _, _, _, (rfl : _ = V.ref _), (by walk_at "hp"), Txt.cl_Heap _, Txt.nf__numbers _, hz_numbers _, ?_⟩
  | refine ⟨_, _, _, _, _, (rfl : _ = V.ref _), (by walk_at "hp"), Txt.cl_Heap _, Txt.nf__names _, hz_names _, ?_⟩
  | refine ⟨_, _, _, _, _, (rfl : _ = V.ref _), (by walk_at "hp"), Txt.cl_Heap _, Txt.nf__pairs _, hz_pairs _, ?_⟩)
local macro_rules | `(tactic| walk_at "wf") => `(tactic| repeat first | walk_at "w1" | walk_at "fld")
section
variable {P : Program} {w : World} {K : PySem.W.Frag} {mg : Str → Option Value} {base : Heap}
theorem wvs_len (ws : List (List Nat)) : (wvs ws).length = ws.length := by unfold wvs; rw [List.length_map]
theorem wvs_at {ws : List (List Nat)} {i : Nat} {x : List Nat} (h : ws[i]? = some x) : (wvs ws)[i]? = some (V.str (SX.S x)) := by
  unfold wvs; rw [List.getElem?_map, h]; rfl
theorem wvs_at' {ws : List (List Nat)} {i : Nat} {x : V} (h : (wvs ws)[i]? = some x) : ∃ l, ws[i]? = some l ∧ x = V.str (SX.S l) := by
  unfold wvs at h; rw [List.getElem?_map] at h
  cases e : ws[i]? with
  | none => rw [e] at h; cases h
  | some l => rw [e] at h; cases h; exact ⟨l, rfl, rfl⟩
def sumL (ws : List (List Nat)) : Nat := (ws.map List.length).sum
theorem sumL_nil : sumL [] = 0 := rfl
theorem sumL_cons (x : List Nat) (r : List (List Nat)) : sumL (x :: r) = x.length + sumL r := by simp [sumL]
theorem sumL_app (a b : List (List Nat)) : sumL (a ++ b) = sumL a + sumL b := by simp [sumL]
theorem sumL_at {ws : List (List Nat)} {i : Nat} {x : List Nat} (h : ws[i]? = some x) : x.length ≤ sumL ws := by
  obtain ⟨hi, rfl⟩ := List.getElem?_eq_some_iff.mp h
  have e : ws = ws.take i ++ ws[i] :: ws.drop (i + 1) := by rw [← List.drop_eq_getElem_cons hi, List.take_append_drop]
  have e2 : sumL ws = sumL (ws.take i) + (ws[i].length + sumL (ws.drop (i + 1))) := by
    rw [← sumL_cons, ← sumL_app, ← e]
  omega
theorem joinL_len : ∀ ws : List (List Nat), (TL.joinL [32] ws).length ≤ sumL ws + ws.length
  | [] => by simp [TL.joinL]
  | p :: l => by
    rw [joinL_cons, List.length_append, sumL_cons]
    have : ∀ m : List (List Nat), (m.flatMap fun q => [32] ++ q).length = sumL m + m.length := fun m => by
      induction m with
      | nil => rfl
      | cons x r ih => rw [List.flatMap_cons, List.length_append, ih, sumL_cons]; simp; omega
    rw [this]; simp; omega
theorem S_lp : Str.ofString "(" = SX.S [40] := by decide +kernel
theorem S_rp : Str.ofString ")" = SX.S [41] := by decide +kernel
theorem S_ap : Str.ofString "'" = SX.S [39] := by decide +kernel
def spLst : Sp := fun vs H Q _ => ∃ (a : Addr) (ws : List (List Nat)), vs = [.ref a] ∧ H a = some (.lst (wvs ws)) ∧ ws.length ≤ 1000 ∧ sumL ws ≤ 100000 ∧ Q (.str (SX.S (listedL ws))) H
theorem ok_law_listed (T : Txt K mg) : FnOk P w K mg base CX0 1 T.a_law_listed T.d_law_listed ["told"] spLst := by
  refine T.law_listed.fn.ok sc_law_listed (fun vs H Q E h => ?_) (fun cdv A outer s H vs Q E hr h => ?_)
  · obtain ⟨a, ws, rfl, _⟩ := h
    rfl
  · obtain ⟨a, ws, rfl, ha, hl, hs, k⟩ := h
    have zn : (wvs ws).length = ws.length := wvs_len ws
    have fin : ¬ (ws.length = 2 ∧ ws[0]? = some quoL) → ∃ (a_1 : Str) (p : Addr) (ys : List Str), V.str (Str.ofString " ") = .str a_1 ∧ [V.ref a] = [.ref p] ∧ (SqL K H p (ys.map V.str) ∨ SqT K H p (ys.map V.str)) ∧
      (ys.map (·.length)).sum + ys.length * a_1.length ≤ 16777216 ∧ (∃ i j, V.str (Str.ofString "(") = .str i ∧ V.str (Txt.join a_1 ys) = .str j ∧ i.length + j.length ≤ sizeLine ∧ ∃ i' j', V.str (i ++ j) = .str i' ∧ V.str (Str.ofString ")") = .str j' ∧ i'.length + j'.length ≤ sizeLine ∧ Q (.str (i' ++ j')) H) := by
      intro hn
      have e1 : (ws.map SX.S).map (·.length) = ws.map List.length := by
        rw [List.map_map]; exact List.map_congr_left fun x _ => SX.S_len x
      have e : Txt.join (Str.ofString " ") (ws.map SX.S) = SX.S (TL.joinL [32] ws) := by rw [S_space, SX.join_S]
      have jl := joinL_len ws
      have hs' : (ws.map List.length).sum ≤ 100000 := hs
      have el : listedL ws = [40] ++ TL.joinL [32] ws ++ [41] := by
        unfold listedL; rw [if_neg hn]; simp
      refine ⟨Str.ofString " ", a, ws.map SX.S, rfl, rfl, .inl (SqL.of (by rw [ha]; unfold wvs; rw [List.map_map]; rfl)), ?_, _, _, rfl, rfl, ?_, _, _, rfl, rfl, ?_, ?_⟩
      · rw [e1, List.length_map, show (Str.ofString " ").length = 1 from by decide +kernel]
        omega
      · rw [e, S_lp, SX.S_len, SX.S_len]; show _ ≤ 16777216; simp; omega
      · rw [e, S_lp, S_rp, SX.S_cat, SX.S_len, SX.S_len]; show _ ≤ 16777216; simp; omega
      · rw [e, S_lp, S_rp, SX.S_cat, SX.S_cat, ← el]; exact k
    refine ⟨_, (pss_cons (ps_if (PW.pt (pw_and (pt_cmpR op_eq (pe_callB call_len_seq (by rfl) T.b_len (by decide +kernel) (pa_cons (pv 0) pa_nil)) pe_int (nomark _)) (pw_and1 (pt_cmpR op_eq (pe_ix ix_list (pv 0) pe_int (fun _ _ => rfl)) pe_str (nomark _))))) (pss_one (ps_ret (pe_op op_add_str pe_str (pe_ix ix_list (pv 0) pe_int (fun _ _ => rfl))))) pss_nil)
      (pss_one (ps_ret (pe_op op_add_str (pe_op op_add_str pe_str (pe_join pe_str (pv 0))) pe_str)))), ?_⟩
    try dsimp only [cxOf, Cx.nox]
    walk_at "w"
    refine iteD (fun h1 => ?_) (fun h1 => ?_)
    · have hl2 : ws.length = 2 := by rw [zn] at h1; have := V.int.inj h1; omega
      obtain ⟨x, y, rfl⟩ : ∃ x y, ws = [x, y] := by
        match ws, hl2 with
        | [x, y], _ => exact ⟨x, y, rfl⟩
      have w1 : (wvs [x, y])[0]? = some (.str (SX.S x)) := rfl
      have w2 : (wvs [x, y])[1]? = some (.str (SX.S y)) := rfl
      walk_at "w"
      refine iteD (fun h2 => ?_) (fun h2 => ?_)
      · have e2 : x = quoL := (str_eq S_quote).mp h2
        subst e2
        have z1 : (Str.ofString "'").length + (SX.S y).length ≤ sizeLine := by
          have := sumL_at (ws := [quoL, y]) (i := 1) (x := y) rfl
          rw [S_ap, SX.S_len, SX.S_len]; show _ ≤ 16777216; simp; omega
        walk_at "w"
        rw [S_ap, SX.S_cat]
        exact k
      · walk_at "w"
        exact fin (fun q => h2 ((str_eq S_quote).mpr (Option.some.inj q.2)))
    · refine iteF ?_
      walk_at "w"
      exact fin (fun q => h1 (by rw [zn, q.1]; rfl))
end
end Wh
set_option Elab.async false
set_option linter.all false
set_option maxRecDepth 100000
set_option maxHeartbeats 1000000
/-! The law's dressed lists. -/
namespace Wh
open PySem L2 PySem.Spec PyProof.Rows
local macro_rules | `(tactic| walk_at "ne") => `(tactic| first | with_reducible assumption | (apply Ne.symm; with_reducible assumption))
local macro_rules | `(tactic| walk_at "hp") => `(tactic| first | with_reducible assumption | with_reducible exact upd_same | ((with_reducible refine (upd_ne ?n).trans ?h); (case n => walk_at "ne"); (case h => walk_at "hp")) | ((with_reducible show upd _ _ _ _ = _); exact upd_same))
local macro_rules | `(tactic| walk_at "cond") => `(tactic| first | with_reducible assumption | exact (rfl : (_ : Bool) = true) | ((try dsimp only) <;> first | with_reducible assumption | decide | omega) | exact ⟨by first | decide | omega | decide +kernel, by first | decide | omega | decide +kernel⟩ | decide +kernel | exact .inr ⟨by decide, by decide⟩ | exact .inl ⟨by decide, by decide⟩)
local macro_rules | `(tactic| walk_at "sq") => `(tactic| first | with_reducible assumption | exact SqL.of (by walk_at "hp"))
local macro_rules | `(tactic| walk_at "sz") => `(tactic| first | with_reducible assumption | (show _ ≤ 16777216; omega))
local macro_rules | `(tactic| walk_at "at") => `(tactic| first | with_reducible assumption | exact atI_nat (by with_reducible assumption) | exact atI_nat (j := 0) (rfl : (_ : Option Nat) = some _) | exact atI_nat (by assumption))
local macro_rules | `(tactic| walk_at "w1") => `(tactic| (fail_if_success with_reducible show @ite _ _ _ _ _); first
  | refine ⟨_, rfl, ?_⟩
  | refine ⟨_, _, (rfl : _ = V.int _), (rfl : _ = V.int _), And.intro (by walk_at "cond") ?_⟩
  | refine ⟨_, _, (rfl : _ = V.int _), (rfl : _ = V.int _), ?_⟩
  | refine ⟨_, _, (rfl : _ = V.str _), (rfl : _ = V.str _), And.intro (by walk_at "sz") ?_⟩
  | refine ⟨_, _, (rfl : _ = V.str _), (rfl : _ = V.str _), ?_⟩
  | refine ⟨_, _, _, _, (rfl : _ = V.ref _), (rfl : _ = V.int _), (by walk_at "sq"), rfl, ?_⟩
  | refine ⟨_, _, _, _, (rfl : _ = V.ref _), (rfl : _ = V.int _), (by walk_at "hp"), rfl, ?_⟩
  | refine ⟨Or.inl ⟨rfl, _, (by walk_at "sq")⟩, ?_⟩
  | refine ⟨_, _, _, (rfl : _ = V.ref _), (rfl : (_ : List V) = _), (by walk_at "hp"), (by with_reducible assumption), ?_⟩
  | refine ⟨_, _, (rfl : (_ : List V) = _), Or.inl ((by walk_at "sq")), ?_⟩
  | refine ⟨_, _, _, _, (rfl : _ = V.ref _), (rfl : _ = V.int _), (by walk_at "sq"), (by walk_at "at"), ?_⟩
  | refine ⟨_, _, _, (rfl : _ = V.str _), (rfl : _ = V.int _), (by walk_at "sz"), (by walk_at "at"), ?_⟩
  | refine ⟨_, _, (rfl : (_ : List V) = [V.str _]), SX.int_S (by assumption) (by simp) (by assumption), (by assumption), ?_⟩
  | refine ⟨_, _, (rfl : (_ : List V) = [_, _]), ?_⟩
  | refine ⟨_, _, (rfl : _ = V.ref _), (by walk_at "sq"), ?_⟩
  | refine ⟨(rfl : (_ : Bool) = true), ?_⟩
  | refine ⟨(rfl : (_ : V) = V.non), ?_⟩
  | refine And.intro (by walk_at "sz") ?_
  | refine ⟨⟨_, (rfl : _ = V.str _)⟩, ?_⟩
  | refine ⟨_, (rfl : _ = V.str _), (rfl : (_ : List V) = _), trivial, ?_⟩
  | refine .inl ⟨_, rfl, ?_⟩)
local macro_rules | `(tactic| walk_at "w") => `(tactic| repeat walk_at "w1")
local macro_rules | `(tactic| walk_at "fld") => `(tactic| (fail_if_success with_reducible show @ite _ _ _ _ _); first
  | refine ⟨_, _, _, _, _, (rfl : _ = V.ref _), (by walk_at "hp"), Txt.cl_Heap _, Txt.nf__shapes _, hz_shapes _, ?_⟩
  | refine ⟨_, _, _, _, _, (rfl : _ = V.ref _), (by walk_at "hp"), Txt.cl_Heap _, Txt.nf__faces _, hz_faces _, ?_⟩
  | refine ⟨_, _, _, _, _, (rfl : _ = V.ref _), (by walk_at "hp"), Txt.cl_Heap _, Txt.nf__firsts _, hz_firsts _, ?_⟩
  | refine ⟨_, _, _, _, _, (rfl : _ = V.ref _), (by walk_at "hp"), Txt.cl_Heap _, Txt.nf__seconds _, hz_seconds _, ?_⟩
  | refine ⟨_, _, _, _, _, (rfl : _ = V.ref _), (by walk_at "hp"), Txt.cl_Heap _, Txt.nf__hefts _, hz_hefts _, ?_⟩
  | refine ⟨_, _, _, _, _, (rfl : _ = V.ref _), (by walk_at "hp"), Txt.cl_Heap _, Txt.nf__numbers _, hz_numbers _, ?_⟩
  | refine ⟨_, _, _, _, _, (rfl : _ = V.ref _), (by walk_at "hp"), Txt.cl_Heap _, Txt.nf__names _, hz_names _, ?_⟩
  | refine ⟨_, _, _, _, _, (rfl : _ = V.ref _), (by walk_at "hp"), Txt.cl_Heap _, Txt.nf__pairs _, hz_pairs _, ?_⟩)
local macro_rules | `(tactic| walk_at "wf") => `(tactic| repeat first | walk_at "w1" | walk_at "fld")
section
variable {P : Program} {w : World} {K : PySem.W.Frag} {mg : Str → Option Value} {base : Heap}
theorem BoxAt.ne_w {H : Hp} {b a : Addr} {ws : List (List Nat)} (h : BoxAt H b) (k : H a = some (.lst (wvs ws))) : a ≠ b := fun e => by
  obtain ⟨g, c, s, e2⟩ := h
  rw [e, e2] at k
  have := HO.lst.inj (Option.some.inj k)
  cases ws with
  | nil => cases this
  | cons x r => cases this
theorem sumL_take {ws : List (List Nat)} {i : Nat} {x : List Nat} (h : ws[i]? = some x) : sumL (ws.take (i + 1)) = sumL (ws.take i) + x.length := by
  rw [List.take_add_one, h, sumL_app]; simp [sumL_cons, sumL_nil]
theorem sumL_take_le (ws : List (List Nat)) (i : Nat) : sumL (ws.take i) ≤ sumL ws := by
  have := sumL_app (ws.take i) (ws.drop i)
  rw [List.take_append_drop] at this; omega
theorem sumL_drop_le (ws : List (List Nat)) (i : Nat) : sumL (ws.drop i) ≤ sumL ws := by
  have := sumL_app (ws.take i) (ws.drop i)
  rw [List.take_append_drop] at this; omega
def spDrs : Sp := fun vs H Q _ => ∃ (b a c : Addr) (ts : List Tr) (ds : List (List Nat)), vs = [.ref b, .ref a, .ref c] ∧ BoxAt H b ∧ H a = some (.lst (wvs (ts.map can))) ∧ H c = some (.lst (wvs ds)) ∧ Paired Dr ts ds ∧ (∀ t ∈ ts, Pr t) ∧ ds.length ≤ 1000 ∧ sumL ds ≤ 100000 ∧
  ∀ (d : List Nat) (H' : Hp), Dr (mkl ts) d → d.length ≤ sumL ds + 3 * ds.length + 8 → BoxAt H' b → Kp [b] H H' → Q (.str (SX.S d)) H'
theorem ok_law_dressed (T : Txt K mg) : FnOk P w K mg base CX0 3 T.a_law_dressed T.d_law_dressed ["dress", "told", "dressed"] spDrs := by
  refine T.law_dressed.fn.ok sc_law_dressed (fun vs H Q E h => ?_) (fun cdv A outer s H vs Q E hr h => ?_)
  · obtain ⟨b, a, c, ts, ds, rfl, _⟩ := h
    rfl
  · obtain ⟨b, a, c, ts, ds, rfl, hb, ha, hc, hP, hpr, hl, hs, k⟩ := h
    have zn : (wvs (ts.map can)).length = ts.length := by rw [wvs_len, List.length_map]
    have hlen := paired_len hP
    have nab := hb.ne_w ha
    have ncb := hb.ne_w hc
    have main : ∀ H1, BoxAt H1 b → Kp [b] H H1 → (tSeq (tAsg (tC (V.str (Str.ofString "("))) (gName 3))
        (tSeq
          (tFor (iList K (tVar 2)) (gName 4)
            (tAsg
              (tOp (fun x y H Q => ∃ i j, x = V.str i ∧ y = V.str j ∧ i.length + j.length ≤ sizeLine ∧ Q (V.str (i ++ j)) H)
                (tOp (fun x y H Q => ∃ i j, x = V.str i ∧ y = V.str j ∧ i.length + j.length ≤ sizeLine ∧ Q (V.str (i ++ j)) H)
                  (tVar 3) (tCall spGap [] E0 (tCons (tVar 0) (tCons (tVar 3) (tCons (tVar 4) tNil)))))
                (tVar 4))
              (gName 3)))
          (tRet
            (tOp (fun x y H Q => ∃ i j, x = V.str i ∧ y = V.str j ∧ i.length + j.length ≤ sizeLine ∧ Q (V.str (i ++ j)) H)
              (tOp (fun x y H Q => ∃ i j, x = V.str i ∧ y = V.str j ∧ i.length + j.length ≤ sizeLine ∧ Q (V.str (i ++ j)) H)
                (tVar 3) (tCall spGap [] E0 (tCons (tVar 0) (tCons (tVar 3) (tCons (tC (V.str (Str.ofString ")"))) tNil)))))
              (tC (V.str (Str.ofString ")"))))))
        { nx := fun x H' => Q V.non H', rt := Q }
        (L2.start [Str.ofString "dress", Str.ofString "told", Str.ofString "dressed", Str.ofString "text", Str.ofString "one"] [V.ref b, V.ref a, V.ref c]) H1) := by
      intro H1 hb1 kp1
      have hc1 : H1 c = some (.lst (wvs ds)) := kp1 c _ (by simp [ncb]) hc
      walk_at "w"
      refine ⟨⟨_, SqL.of hc1⟩, for_it (walk_list (xs := wvs ds)) (fun i σ H2 => (∃ (x : List Nat) (o : Option V), σ = [some (.ref b), some (.ref a), some (.ref c), some (.str (SX.S x)), o] ∧ DrP (ts.take i) x ∧ x.length ≤ 1 + sumL (ds.take i) + 3 * i) ∧ BoxAt H2 b ∧ Kp [b] H H2) ?_ ?_ ?_ ?_⟩
      · exact ⟨⟨[40], none, by rw [← S_lp]; rfl, .nil, by simp [sumL_nil]⟩, hb1, kp1⟩
      · rintro i σ H2 _ ⟨_, _, kp2⟩
        exact SqL.of (kp2 c _ (by simp [ncb]) hc)
      · rintro i v σ H2 H3 hi ⟨⟨x, o, rfl, hx, hxl⟩, hb2, kp2⟩ ⟨rfl, hv⟩
        obtain ⟨d, hd, rfl⟩ := wvs_at' hv
        obtain ⟨t, ht, hdr⟩ := paired_at hP hd
        have s1 := sumL_take hd
        have s2 := sumL_take_le ds (i + 1)
        have hi' : i < ds.length := (List.getElem?_eq_some_iff.mp hd).1
        walk_at "w"
        refine ⟨b, x, d, rfl, hb2, by omega, by omega, hx.asc, hdr.asc, fun g H4 hg hg3 hsep hb4 kp4 => ?_⟩
        have z1 : (SX.S x).length + (SX.S g).length ≤ sizeLine := by rw [SX.S_len, SX.S_len]; show _ ≤ 16777216; omega
        walk_at "w"
        rw [SX.S_cat]
        rw [SX.S_cat]
        refine ⟨by rw [SX.S_len, SX.S_len, List.length_append]; show _ ≤ 16777216; omega, ⟨_, _, rfl, ?_, ?_⟩, hb4, kp2.trans kp4⟩
        · rw [List.take_add_one, ht]
          exact hx.snoc hdr hg hsep
        · rw [List.length_append, List.length_append, s1]; omega
      · rintro σ H2 ⟨⟨x, o, rfl, hx, hxl⟩, hb2, kp2⟩
        rw [wvs_len] at hx hxl
        rw [← hlen, List.take_length] at hx
        rw [List.take_length] at hxl
        walk_at "w"
        refine ⟨b, x, [41], rfl, hb2, by omega, by simp, hx.asc, by decide, fun g H4 hg hg3 _ hb4 kp4 => ?_⟩
        have z1 : (SX.S x).length + (SX.S g).length ≤ sizeLine := by rw [SX.S_len, SX.S_len]; show _ ≤ 16777216; omega
        walk_at "w"
        rw [SX.S_cat, S_rp]
        rw [SX.S_cat]
        refine ⟨by rw [SX.S_len, SX.S_len, List.length_append]; show _ ≤ 16777216; simp; omega, ?_⟩
        refine k _ H4 (hx.close hg) ?_ hb4 (kp2.trans kp4)
        rw [List.length_append, List.length_append]; simp; omega
    refine ⟨_, (pss_cons (ps_if (PW.pt (pw_and (pt_cmpR op_eq (pe_callB call_len_seq (by rfl) T.b_len (by decide +kernel) (pa_cons (pv 1) pa_nil)) pe_int (nomark _)) (pw_and (pt_cmpR op_eq (pe_ix ix_list (pv 1) pe_int (fun _ _ => rfl)) pe_str (nomark _)) (pw_and1 (pt_cmpR op_eq (pe_call (ok_law_take (P := P) (w := w) (base := base) T) (hr.mono (by decide)) rfl T.law_take.mg T.law_take.fn.kp T.law_take.b .nil pass0 (pa_cons (pv 0) (pa_cons pe_int pa_nil))) pe_int (nomark _)))))) (pss_one (ps_ret (pe_op op_add_str (pe_op op_add_str pe_str (pe_call (ok_law_gap (P := P) (w := w) (base := base) T) (hr.mono (by decide)) rfl T.law_gap.mg T.law_gap.fn.kp T.law_gap.b .nil pass0 (pa_cons (pv 0) (pa_cons pe_str (pa_cons (pe_ix ix_list (pv 2) pe_int (fun _ _ => rfl)) pa_nil))))) (pe_ix ix_list (pv 2) pe_int (fun _ _ => rfl))))) pss_nil)
      (pss_cons (ps_set (i := 3) sc_law_dressed.nd rfl (Or.inl rfl) pe_str)
      (pss_cons (ps_for PassesOwn.never rfl (pi_list (pv 2)) (pg_name (i := 4) sc_law_dressed.nd rfl (Or.inl rfl)) (pss_one (ps_set (i := 3) sc_law_dressed.nd rfl (Or.inl rfl) (pe_op op_add_str (pe_op op_add_str (pv 3) (pe_call (ok_law_gap (P := P) (w := w) (base := base) T) (hr.mono (by decide)) rfl T.law_gap.mg T.law_gap.fn.kp T.law_gap.b .nil pass0 (pa_cons (pv 0) (pa_cons (pv 3) (pa_cons (pv 4) pa_nil))))) (pv 4)))))
      (pss_one (ps_ret (pe_op op_add_str (pe_op op_add_str (pv 3) (pe_call (ok_law_gap (P := P) (w := w) (base := base) T) (hr.mono (by decide)) rfl T.law_gap.mg T.law_gap.fn.kp T.law_gap.b .nil pass0 (pa_cons (pv 0) (pa_cons (pv 3) (pa_cons pe_str pa_nil))))) pe_str)))))), ?_⟩
    try dsimp only [cxOf, Cx.nox]
    walk_at "w"
    refine iteD (fun h1 => ?_) (fun h1 => ?_)
    · have hl2 : ts.length = 2 := by rw [zn] at h1; have := V.int.inj h1; omega
      obtain ⟨t0, t1, rfl⟩ : ∃ x y, ts = [x, y] := by
        match ts, hl2 with
        | [x, y], _ => exact ⟨x, y, rfl⟩
      obtain ⟨d0, d1, rfl⟩ : ∃ x y, ds = [x, y] := by
        match ds, hlen with
        | [x, y], _ => exact ⟨x, y, rfl⟩
      have w1 : (wvs ([t0, t1].map can))[0]? = some (.str (SX.S (can t0))) := rfl
      walk_at "w"
      refine iteD (fun h2 => ?_) (fun h2 => ?_)
      · have e2 : can t0 = quoL := (str_eq S_quote).mp h2
        have e3 := isQ_can (can_isQ e2)
        subst e3
        walk_at "w"
        refine ⟨by decide, by decide, fun d2 H2 a0 a1 hb2 kp2 => ?_⟩
        walk_at "w"
        refine iteD (fun h3 => ?_) (fun h3 => ?_)
        · have hc2 : H2 c = some (.lst (wvs [d0, d1])) := kp2 c _ (by simp [ncb]) hc
          have w3 : (wvs [d0, d1])[1]? = some (.str (SX.S d1)) := rfl
          obtain ⟨t, ht, hdr⟩ := paired_at hP (i := 1) (b := d1) rfl
          cases ht
          have s1 := sumL_at (ws := [d0, d1]) (i := 1) (x := d1) rfl
          walk_at "w"
          refine ⟨b, [39], d1, by rw [← S_ap]; rfl, hb2, by simp, by omega, by decide, hdr.asc, fun g H4 hg hg3 hsep hb4 kp4 => ?_⟩
          have hc4 : H4 c = some (.lst (wvs [d0, d1])) := kp4 c _ (by simp [ncb]) hc2
          rw [S_ap]
          refine ⟨_, _, rfl, rfl, by rw [SX.S_len, SX.S_len]; show _ ≤ 16777216; simp; omega, ?_⟩
          walk_at "w"
          rw [SX.S_cat]
          rw [SX.S_cat]
          refine ⟨by rw [SX.S_len, SX.S_len]; show _ ≤ 16777216; simp; omega, ?_⟩
          refine k _ H4 ?_ ?_ hb4 (kp2.trans kp4)
          · have := Dr.quote hdr hg
            show Dr (quo t1) ([39] ++ g ++ d1)
            rw [List.append_assoc]
            exact this
          · simp; omega
        · exact main H2 hb2 kp2
      · exact main H hb (.refl H)
    · exact main H hb (.refl H)
end
end Wh
set_option Elab.async false
set_option linter.all false
set_option maxRecDepth 100000
set_option maxHeartbeats 1000000
/-! The law's groups. -/
namespace Wh
open PySem L2 PySem.Spec PyProof.Rows
local macro_rules | `(tactic| walk_at "ne") => `(tactic| first | with_reducible assumption | (apply Ne.symm; with_reducible assumption))
local macro_rules | `(tactic| walk_at "hp") => `(tactic| first | with_reducible assumption | with_reducible exact upd_same | ((with_reducible refine (upd_ne ?n).trans ?h); (case n => walk_at "ne"); (case h => walk_at "hp")) | ((with_reducible show upd _ _ _ _ = _); exact upd_same))
local macro_rules | `(tactic| walk_at "cond") => `(tactic| first | with_reducible assumption | exact (rfl : (_ : Bool) = true) | ((try dsimp only) <;> first | with_reducible assumption | decide | omega) | exact ⟨by first | decide | omega | decide +kernel, by first | decide | omega | decide +kernel⟩ | decide +kernel | exact .inr ⟨by decide, by decide⟩ | exact .inl ⟨by decide, by decide⟩)
local macro_rules | `(tactic| walk_at "sq") => `(tactic| first | with_reducible assumption | exact SqL.of (by walk_at "hp"))
local macro_rules | `(tactic| walk_at "sz") => `(tactic| first | with_reducible assumption | (show _ ≤ 16777216; omega))
local macro_rules | `(tactic| walk_at "at") => `(tactic| first | with_reducible assumption | exact atI_nat (by with_reducible assumption) | exact atI_nat (j := 0) (rfl : (_ : Option Nat) = some _) | exact atI_nat (by assumption))
local macro_rules | `(tactic| walk_at "w1") => `(tactic| (fail_if_success with_reducible show @ite _ _ _ _ _); first
  | refine ⟨_, rfl, ?_⟩
  | refine ⟨_, _, (rfl : _ = V.int _), (rfl : _ = V.int _), And.intro (by walk_at "cond") ?_⟩
  | refine ⟨_, _, (rfl : _ = V.int _), (rfl : _ = V.int _), ?_⟩
  | refine ⟨_, _, (rfl : _ = V.str _), (rfl : _ = V.str _), And.intro (by walk_at "sz") ?_⟩
  | refine ⟨_, _, (rfl : _ = V.str _), (rfl : _ = V.str _), ?_⟩
  | refine ⟨_, _, _, _, (rfl : _ = V.ref _), (rfl : _ = V.int _), (by walk_at "sq"), rfl, ?_⟩
  | refine ⟨_, _, _, _, (rfl : _ = V.ref _), (rfl : _ = V.int _), (by walk_at "hp"), rfl, ?_⟩
  | refine ⟨Or.inl ⟨rfl, _, (by walk_at "sq")⟩, ?_⟩
  | refine ⟨_, _, _, (rfl : _ = V.ref _), (rfl : (_ : List V) = _), (by walk_at "hp"), (by with_reducible assumption), ?_⟩
  | refine ⟨_, _, (rfl : (_ : List V) = _), Or.inl ((by walk_at "sq")), ?_⟩
  | refine ⟨_, _, _, _, (rfl : _ = V.ref _), (rfl : _ = V.int _), (by walk_at "sq"), (by walk_at "at"), ?_⟩
  | refine ⟨_, _, _, (rfl : _ = V.str _), (rfl : _ = V.int _), (by walk_at "sz"), (by walk_at "at"), ?_⟩
  | refine ⟨_, _, (rfl : (_ : List V) = [V.str _]), SX.int_S (by assumption) (by simp) (by assumption), (by assumption), ?_⟩
  | refine ⟨_, _, (rfl : (_ : List V) = [_, _]), ?_⟩
  | refine ⟨_, _, (rfl : _ = V.ref _), (by walk_at "sq"), ?_⟩
  | refine ⟨(rfl : (_ : Bool) = true), ?_⟩
  | refine ⟨(rfl : (_ : V) = V.non), ?_⟩
  | refine And.intro (by walk_at "sz") ?_
  | refine ⟨⟨_, (rfl : _ = V.str _)⟩, ?_⟩
  | refine ⟨_, (rfl : _ = V.str _), (rfl : (_ : List V) = _), trivial, ?_⟩
  | refine .inl ⟨_, rfl, ?_⟩)
local macro_rules | `(tactic| walk_at "w") => `(tactic| repeat walk_at "w1")
local macro_rules | `(tactic| walk_at "fld") => `(tactic| (fail_if_success with_reducible show @ite _ _ _ _ _); first
  | refine ⟨_, _, _, _, _, (rfl : _ = V.ref _), (by walk_at "hp"), Txt.cl_Heap _, Txt.nf__shapes _, hz_shapes _, ?_⟩
  | refine ⟨_, _, _, _, _, (rfl : _ = V.ref _), (by walk_at "hp"), Txt.cl_Heap _, Txt.nf__faces _, hz_faces _, ?_⟩
  | refine ⟨_, _, _, _, _, (rfl : _ = V.ref _), (by walk_at "hp"), Txt.cl_Heap _, Txt.nf__firsts _, hz_firsts _, ?_⟩
  | refine ⟨_, _, _, _, _, (rfl : _ = V.ref _), (by walk_at "hp"), Txt.cl_Heap _, Txt.nf__seconds _, hz_seconds _, ?_⟩
  | refine ⟨_, _, _, _, _, (rfl : _ = V.ref _), (by walk_at "hp"), Txt.cl_Heap _, Txt.nf__hefts _, hz_hefts _, ?_⟩
  | refine ⟨_, _, _, _, _, (rfl : _ = V.ref _), (by walk_at "hp"), Txt.cl_Heap _, Txt.nf__numbers _, hz_numbers _, ?_⟩
  | refine ⟨_, _, _, _, _, (rfl : _ = V.ref _), (by walk_at "hp"), Txt.cl_Heap _, Txt.nf__names _, hz_names _, ?_⟩
  | refine ⟨_, _, _, _, _, (rfl : _ = V.ref _), (by walk_at "hp"), Txt.cl_Heap _, Txt.nf__pairs _, hz_pairs _, ?_⟩)
local macro_rules | `(tactic| walk_at "wf") => `(tactic| repeat first | walk_at "w1" | walk_at "fld")
section
variable {P : Program} {w : World} {K : PySem.W.Frag} {mg : Str → Option Value} {base : Heap}
theorem BoxAt.ne_new {H : Hp} {b p : Addr} (h : BoxAt H b) (n : H p = none) : p ≠ b := fun q => by obtain ⟨_, _, _, e⟩ := h; rw [q, e] at n; cases n
theorem cutV_mid (xs : List V) (s m : Nat) (h : s ≤ xs.length) : cutV xs (some (s : Int)) (some ((s : Int) + (m : Int))) = (xs.drop s).take m := by
  unfold cutV
  rw [show ((s : Int) + (m : Int)) = ((s + m : Nat) : Int) from by omega, HT.sIx_nat, HT.sIx_nat, Nat.min_eq_left h]
  by_cases q : s + m ≤ xs.length
  · rw [Nat.min_eq_left q, show s + m - s = m from by omega]
  · rw [Nat.min_eq_right (by omega), List.take_of_length_le (by simp), List.take_of_length_le (by simp; omega)]
theorem cutV_from (xs : List V) (k : Nat) : cutV xs (some (k : Int)) none = xs.drop k := by
  unfold cutV
  rw [HT.sIx_none, HT.sIx_nat]
  by_cases h : k ≤ xs.length
  · rw [Nat.min_eq_left h, List.take_of_length_le (by simp)]
  · rw [Nat.min_eq_right (by omega), List.drop_of_length_le (by omega), List.drop_of_length_le (by omega), List.take_nil]
theorem wvs_take (ws : List (List Nat)) (k : Nat) : (wvs ws).take k = wvs (ws.take k) := by unfold wvs; rw [List.map_take]
theorem wvs_drop (ws : List (List Nat)) (k : Nat) : (wvs ws).drop k = wvs (ws.drop k) := by unfold wvs; rw [List.map_drop]
theorem wvs_app (a b : List (List Nat)) : wvs a ++ wvs b = wvs (a ++ b) := by unfold wvs; rw [List.map_append]
theorem wvs_one (x : List Nat) : [V.str (SX.S x)] = wvs [x] := rfl
theorem paired_take {α β : Type} {F : α → β → Prop} : ∀ {l : List α} {m : List β} (n : Nat), Paired F l m → Paired F (l.take n) (m.take n)
  | _, _, 0, _ => by simpa using Paired.nil
  | _, _, n + 1, .nil => by simpa using Paired.nil
  | _, _, n + 1, .cons h r => by simpa using Paired.cons h (paired_take n r)
theorem paired_drop {α β : Type} {F : α → β → Prop} : ∀ {l : List α} {m : List β} (n : Nat), Paired F l m → Paired F (l.drop n) (m.drop n)
  | _, _, 0, h => by simpa using h
  | _, _, n + 1, .nil => by simpa using Paired.nil
  | _, _, n + 1, .cons h r => by simpa using paired_drop n r
theorem paired_app {α β : Type} {F : α → β → Prop} : ∀ {l l' : List α} {m m' : List β}, Paired F l m → Paired F l' m' → Paired F (l ++ l') (m ++ m')
  | _, _, _, _, .nil, k => k
  | _, _, _, _, .cons h r, k => .cons h (paired_app r k)
theorem BoxAt.kp {H H' : Hp} {c : Addr} (h : BoxAt H c) (k : Kp [] H H') : BoxAt H' c := by
  obtain ⟨x, y, z, e⟩ := h
  exact ⟨x, y, z, k c _ (by simp) e⟩
theorem newL {F : List Addr} {H0 H H' : Hp} {p : Addr} {o : HO} (kp : Kp F H0 H) (n : H p = none) (e : upd H p o = H') : Kp F H0 H' ∧ Kp [] H H' ∧ H' p = some o := by
  subst e
  exact ⟨kp.new' n, (Kp.refl H).new n, upd_same⟩
theorem listedL_len (ws : List (List Nat)) : (listedL ws).length ≤ sumL ws + ws.length + 2 := by
  unfold listedL
  split
  · rename_i h
    obtain ⟨x, y, rfl⟩ : ∃ x y, ws = [x, y] := by
      match ws, h.1 with
      | [x, y], _ => exact ⟨x, y, rfl⟩
    simp [sumL_cons, sumL_nil]; omega
  · have := joinL_len ws
    simp; omega
/-- told and dressed side by side -/
structure Both (ts : List Tr) (ds : List (List Nat)) (n s : Nat) : Prop where
  pd : Paired Dr ts ds
  pr : ∀ t ∈ ts, Pr t
  ln : ds.length ≤ n
  s1 : sumL (ts.map can) ≤ s
  s2 : sumL ds ≤ s
theorem Both.len {ts : List Tr} {ds : List (List Nat)} {n s : Nat} (h : Both ts ds n s) : ts.length = ds.length := paired_len h.pd
theorem Both.len' {ts : List Tr} {ds : List (List Nat)} {n s : Nat} (h : Both ts ds n s) : (ts.map can).length = ds.length := by rw [List.length_map]; exact h.len
/-- the lists after a group -/
theorem Both.group {ts its : List Tr} {ds ods : List (List Nat)} {n s st m : Nat} {d : List Nat} (h : Both ts ds n s) (hp : ∀ t ∈ its, Pr t) (hd : Dr (mkl its) d)
    (l1 : (can (mkl its)).length ≤ sumL (((ts.drop st).take m).map can) + 30) (l2 : d.length ≤ sumL ((ds.drop st).take m) + 30) :
    Both (ts.take st ++ [mkl its] ++ ts.drop (st + m)) (ds.take st ++ [d] ++ ds.drop (st + m)) (n + 1) (s + 30) := by
  have e1 := sumL_app (ds.take st) (ds.drop st)
  rw [List.take_append_drop] at e1
  have e2 := sumL_app ((ds.drop st).take m) ((ds.drop st).drop m)
  rw [List.take_append_drop, List.drop_drop] at e2
  have f1 := sumL_app ((ts.take st).map can) ((ts.drop st).map can)
  rw [← List.map_append, List.take_append_drop] at f1
  have f2 := sumL_app (((ts.drop st).take m).map can) (((ts.drop st).drop m).map can)
  rw [← List.map_append, List.take_append_drop, List.drop_drop] at f2
  have h1 := h.s1
  have h2 := h.s2
  refine ⟨paired_app (paired_app (paired_take _ h.pd) (.cons hd .nil)) (paired_drop _ h.pd), ?_, ?_, ?_, ?_⟩
  · intro t ht
    rcases List.mem_append.mp ht with ht | ht
    · rcases List.mem_append.mp ht with ht | ht
      · exact h.pr t (List.mem_of_mem_take ht)
      · rw [List.mem_singleton.mp ht]; exact mkl_Pr hp
    · exact h.pr t (List.mem_of_mem_drop ht)
  · have := h.ln
    simp only [List.length_append, List.length_take, List.length_drop, List.length_singleton]; omega
  · rw [List.map_append, List.map_append, sumL_app, sumL_app, List.map_cons, List.map_nil, sumL_cons, sumL_nil]; omega
  · rw [sumL_app, sumL_app, sumL_cons, sumL_nil]; omega
def spGrp : Sp := fun vs H Q _ => ∃ (b e a c : Addr) (ts : List Tr) (ds : List (List Nat)) (n s : Nat), vs = [.ref b, .ref e, .ref a, .ref c] ∧ BoxAt H b ∧ BoxAt H e ∧ b ≠ e ∧ H a = some (.lst (wvs (ts.map can))) ∧ H c = some (.lst (wvs ds)) ∧ Both ts ds n s ∧ n ≤ 500 ∧ s ≤ 50000 ∧
  ∀ (r a' c' : Addr) (ts' : List Tr) (ds' : List (List Nat)) (H' : Hp), H' r = some (.lst [.ref a', .ref c']) → H' a' = some (.lst (wvs (ts'.map can))) → H' c' = some (.lst (wvs ds')) → Both ts' ds' (n + 1) (s + 30) → BoxAt H' b → BoxAt H' e → Kp [b, e] H H' → Q (.ref r) H'
theorem ok_law_group (T : Txt K mg) : FnOk P w K mg base CX0 4 T.a_law_group T.d_law_group ["box", "dress", "told", "dressed"] spGrp := by
  refine T.law_group.fn.ok sc_law_group (fun vs H Q E h => ?_) (fun cdv A outer s H vs Q E hr h => ?_)
  · obtain ⟨b, e, a, c, ts, ds, n, s, rfl, _⟩ := h
    rfl
  · obtain ⟨b, e, a, c, ts, ds, n, s, rfl, hb, he, nbe, ha, hc, B, hn, hs, k⟩ := h
    have nab := hb.ne_w ha
    have ncb := hb.ne_w hc
    have nae := he.ne_w ha
    have nce := he.ne_w hc
    have zn : (wvs (ts.map can)).length = ds.length := by rw [wvs_len, B.len']
    have hlen := B.len
    have hln := B.ln
    have main : ∀ (H1 : Hp) (sn wn mn : Nat) (ia oc : Addr) (its : List Tr) (ods : List (List Nat)) (o9 o10 o11 : Option V), BoxAt H1 b → BoxAt H1 e → Kp [b, e] H H1 → sn ≤ ds.length → H1 ia = some (.lst (wvs (its.map can))) → H1 oc = some (.lst (wvs ods)) →
        Paired Dr its ods → (∀ t ∈ its, Pr t) → its.length ≤ 4 → sumL ((its).map can) ≤ 50010 → sumL ods ≤ 50010 → sumL (its.map can) + its.length + 2 ≤ sumL (((ts.drop sn).take mn).map can) + 30 → sumL ods + 3 * its.length + 8 ≤ sumL ((ds.drop sn).take mn) + 30 →
        (tSeq (tAsg (tCall spLst [] E0 (tCons (tVar 7) tNil)) (gName 9))
                                    (tSeq
                                      (tAsg (tCall spDrs [] E0 (tCons (tVar 1) (tCons (tVar 7) (tCons (tVar 8) tNil))))
                                        (gName 10))
                                      (tSeq
                                        (tAsg
                                          (tOp rCat
                                            (tOp rCat (tSl (rSlL K) (tVar 2) tNoPart (tPart (tVar 4)))
                                              (tLst (tCons (tVar 9) tNil)))
                                            (tSl (rSlL K) (tVar 2)
                                              (tPart (tOp (rI0 fun i j => V.int (i + j)) (tVar 4) (tVar 6))) tNoPart))
                                          (gName 11))
                                        (tRet
                                          (tLst
                                            (tCons (tVar 11)
                                              (tCons
                                                (tOp rCat
                                                  (tOp rCat (tSl (rSlL K) (tVar 3) tNoPart (tPart (tVar 4)))
                                                    (tLst (tCons (tVar 10) tNil)))
                                                  (tSl (rSlL K) (tVar 3)
                                                    (tPart (tOp (rI0 fun i j => V.int (i + j)) (tVar 4) (tVar 6)))
                                                    tNoPart))
                                                tNil)))))))
                          { nx := fun x H' => Q V.non H', rt := Q } [some (.ref b), some (.ref e), some (.ref a), some (.ref c), some (.int (sn : Int)), some (.int (wn : Int)), some (.int (mn : Int)), some (.ref ia), some (.ref oc), o9, o10, o11] H1 := by
      intro H1 sn wn mn ia oc its ods o9 o10 o11 hb1 he1 K1 hsn hia hoc hpd hpr hil h5 h6 h7 h8
      have hol := paired_len hpd
      have e12 : ∀ xs : List V, cutV xs (some ((sn : Int) + (mn : Int))) none = xs.drop (sn + mn) := fun xs => by
        rw [show ((sn : Int) + (mn : Int)) = ((sn + mn : Nat) : Int) from by omega, cutV_from]
      have nie := he1.ne_w hia
      walk_at "w"
      refine ⟨ia, _, rfl, hia, by rw [List.length_map]; omega, by omega, ?_⟩
      rw [listed_can]
      walk_at "w"
      refine ⟨e, ia, oc, its, ods, rfl, he1, hia, hoc, hpd, hpr, by omega, by omega, fun d H2 hd hdl he2 kp2 => ?_⟩
      have hb2 : BoxAt H2 b := kp2.box nbe hb1
      have K2 : Kp [b, e] H H2 := K1.trans (kp2.mono (by simp))
      have G := B.group (ods := ods) (st := sn) (m := mn) hpr hd (by
        rw [← listed_can]
        have := listedL_len (its.map can)
        rw [List.length_map] at this; omega) (by omega)
      have ha2 := K2 a _ (by simp [nab, nae]) ha
      have hc2 := K2 c _ (by simp [ncb, nce]) hc
      walk_at "w"
      intro p3 n3
      generalize e3 : upd H2 p3 _ = H3
      obtain ⟨K3, k3, h3⟩ := newL K2 n3 e3
      rw [cutV_to, wvs_take] at h3
      walk_at "w"
      refine ⟨(show 1 ≤ sizeLine by decide), fun p4 n4 => ?_⟩
      generalize e4 : upd H3 p4 _ = H4
      obtain ⟨K4, k4, h4⟩ := newL K3 n4 e4
      rw [wvs_one] at h4
      have h3' := k4 p3 _ (by simp) h3
      refine ⟨p3, p4, _, _, rfl, rfl, h3', h4, by simp only [wvs_len, List.length_take, List.length_map, List.length_singleton]; show _ ≤ 16777216; omega, fun p5 n5 => ?_⟩
      generalize e5 : upd H4 p5 _ = H5
      obtain ⟨K5, k5, h5⟩ := newL K4 n5 e5
      rw [wvs_app] at h5
      have ha5 := K5 a _ (by simp [nab, nae]) ha
      walk_at "w"
      intro p6 n6
      rw [e12]
      generalize e6 : upd H5 p6 _ = H6
      obtain ⟨K6, k6, h6⟩ := newL K5 n6 e6
      rw [wvs_drop] at h6
      have h5' := k6 p5 _ (by simp) h5
      refine ⟨p5, p6, _, _, rfl, rfl, h5', h6, by simp only [wvs_len, List.length_take, List.length_drop, List.length_append, List.length_map, List.length_singleton]; show _ ≤ 16777216; omega, fun p7 n7 => ?_⟩
      generalize e7 : upd H6 p7 _ = H7
      obtain ⟨K7, k7, h7⟩ := newL K6 n7 e7
      rw [wvs_app] at h7
      have hc7 := K7 c _ (by simp [ncb, nce]) hc
      walk_at "w"
      intro p8 n8
      generalize e8 : upd H7 p8 _ = H8
      obtain ⟨K8, k8, h8⟩ := newL K7 n8 e8
      rw [cutV_to, wvs_take] at h8
      walk_at "w"
      refine ⟨(show 1 ≤ sizeLine by decide), fun p9 n9 => ?_⟩
      generalize e9 : upd H8 p9 _ = H9
      obtain ⟨K9, k9, h9⟩ := newL K8 n9 e9
      rw [wvs_one] at h9
      have h8' := k9 p8 _ (by simp) h8
      refine ⟨p8, p9, _, _, rfl, rfl, h8', h9, by simp only [wvs_len, List.length_take, List.length_map, List.length_singleton]; show _ ≤ 16777216; omega, fun p10 n10 => ?_⟩
      generalize e10 : upd H9 p10 _ = H10
      obtain ⟨K10, k10, h10⟩ := newL K9 n10 e10
      rw [wvs_app] at h10
      have hc10 := K10 c _ (by simp [ncb, nce]) hc
      walk_at "w"
      intro p11 n11
      rw [e12]
      generalize e11 : upd H10 p11 _ = H11
      obtain ⟨K11, k11, h11⟩ := newL K10 n11 e11
      rw [wvs_drop] at h11
      have h10' := k11 p10 _ (by simp) h10
      refine ⟨p10, p11, _, _, rfl, rfl, h10', h11, by simp only [wvs_len, List.length_take, List.length_drop, List.length_append, List.length_map, List.length_singleton]; show _ ≤ 16777216; omega, fun p12 n12 => ?_⟩
      generalize e12' : upd H11 p12 _ = H12
      obtain ⟨K12, k12, h12⟩ := newL K11 n12 e12'
      rw [wvs_app] at h12
      walk_at "w"
      refine ⟨(show 2 ≤ sizeLine by decide), fun p13 n13 => ?_⟩
      generalize e13 : upd H12 p13 _ = H13
      obtain ⟨K13, k13, h13⟩ := newL K12 n13 e13
      have all := (((((k8.trans k9).trans k10).trans k11).trans k12).trans k13)
      have all3 := ((((k3.trans k4).trans k5).trans k6).trans k7).trans all
      refine k p13 p7 p12 _ _ H13 h13 ?_ (k13 p12 _ (by simp) h12) G (hb2.kp all3) (he2.kp all3) K13
      rw [all p7 _ (by simp) h7]
      congr 3
      simp only [List.map_append, List.map_take, List.map_drop, List.map_cons, List.map_nil]
    refine ⟨_, (pss_cons (ps_set (i := 4) sc_law_group.nd rfl (Or.inl rfl) (pe_call (ok_law_take (P := P) (w := w) (base := base) T) (hr.mono (by decide)) rfl T.law_take.mg T.law_take.fn.kp T.law_take.b .nil pass0 (pa_cons (pv 0) (pa_cons (pe_op op_add (pe_callB call_len_seq (by rfl) T.b_len (by decide +kernel) (pa_cons (pv 2) pa_nil)) pe_int) pa_nil))))
      (pss_cons (ps_set (i := 5) sc_law_group.nd rfl (Or.inl rfl) (pe_call (ok_law_take (P := P) (w := w) (base := base) T) (hr.mono (by decide)) rfl T.law_take.mg T.law_take.fn.kp T.law_take.b .nil pass0 (pa_cons (pv 0) (pa_cons pe_int pa_nil))))
      (pss_cons (ps_set (i := 6) sc_law_group.nd rfl (Or.inl rfl) (pv 5))
      (pss_cons (ps_set (i := 7) sc_law_group.nd rfl (Or.inl rfl) (pe_slice sl_list (pv 2) (po_some (pv 4)) (po_some (pe_op op_add (pv 4) (pv 6)))))
      (pss_cons (ps_set (i := 8) sc_law_group.nd rfl (Or.inl rfl) (pe_slice sl_list (pv 3) (po_some (pv 4)) (po_some (pe_op op_add (pv 4) (pv 6)))))
      (pss_cons (ps_if (pt_cmpR op_gt (pv 5) pe_int (nomark _)) (pss_cons (ps_set (i := 6) sc_law_group.nd rfl (Or.inl rfl) pe_int)
      (pss_cons (ps_set (i := 7) sc_law_group.nd rfl (Or.inl rfl) (pe_op op_cat (pe_lst (pa_cons pe_str pa_nil)) (pe_slice sl_list (pv 2) (po_some (pv 4)) (po_some (pe_op op_add (pv 4) pe_int)))))
      (pss_one (ps_set (i := 8) sc_law_group.nd rfl (Or.inl rfl) (pe_op op_cat (pe_lst (pa_cons pe_str pa_nil)) (pe_slice sl_list (pv 3) (po_some (pv 4)) (po_some (pe_op op_add (pv 4) pe_int)))))))) pss_nil)
      (pss_cons (ps_set (i := 9) sc_law_group.nd rfl (Or.inl rfl) (pe_call (ok_law_listed (P := P) (w := w) (base := base) T) (hr.mono (by decide)) rfl T.law_listed.mg T.law_listed.fn.kp T.law_listed.b .nil pass0 (pa_cons (pv 7) pa_nil)))
      (pss_cons (ps_set (i := 10) sc_law_group.nd rfl (Or.inl rfl) (pe_call (ok_law_dressed (P := P) (w := w) (base := base) T) (hr.mono (by decide)) rfl T.law_dressed.mg T.law_dressed.fn.kp T.law_dressed.b .nil pass0 (pa_cons (pv 1) (pa_cons (pv 7) (pa_cons (pv 8) pa_nil)))))
      (pss_cons (ps_set (i := 11) sc_law_group.nd rfl (Or.inl rfl) (pe_op op_cat (pe_op op_cat (pe_slice sl_list (pv 2) po_none (po_some (pv 4))) (pe_lst (pa_cons (pv 9) pa_nil))) (pe_slice sl_list (pv 2) (po_some (pe_op op_add (pv 4) (pv 6))) po_none)))
      (pss_one (ps_ret (pe_lst (pa_cons (pv 11) (pa_cons (pe_op op_cat (pe_op op_cat (pe_slice sl_list (pv 3) po_none (po_some (pv 4))) (pe_lst (pa_cons (pv 10) pa_nil))) (pe_slice sl_list (pv 3) (po_some (pe_op op_add (pv 4) (pv 6))) po_none)) pa_nil)))))))))))))), ?_⟩
    try dsimp only [cxOf, Cx.nox]
    walk_at "w"
    refine ⟨by rw [zn]; omega, by rw [zn]; omega, fun st H1 a0 a1 hb1 kp1 => ?_⟩
    obtain ⟨sn, rfl⟩ := Int.eq_ofNat_of_zero_le a0
    rw [zn] at a1
    have he1 : BoxAt H1 e := kp1.box nbe.symm he
    walk_at "w"
    refine ⟨by decide, by decide, fun way H2 b0 b1 hb2 kp2 => ?_⟩
    obtain ⟨wn, rfl⟩ := Int.eq_ofNat_of_zero_le b0
    have he2 : BoxAt H2 e := kp2.box nbe.symm he1
    have K2 : Kp [b, e] H H2 := (kp1.trans kp2).mono (by simp)
    have ha2 := K2 a _ (by simp [nab, nae]) ha
    have hc2 := K2 c _ (by simp [ncb, nce]) hc
    walk_at "w"
    intro p3 n3
    rw [cutV_mid _ _ _ (by rw [zn]; omega)]
    generalize e3 : upd H2 p3 _ = H3
    obtain ⟨K3, k3, h3⟩ := newL K2 n3 e3
    rw [wvs_drop, wvs_take, ← List.map_drop, ← List.map_take] at h3
    have hc3 := k3 c _ (by simp) hc2
    have ha3 := k3 a _ (by simp) ha2
    walk_at "w"
    intro p4 n4
    rw [cutV_mid _ _ _ (by rw [wvs_len]; omega)]
    generalize e4 : upd H3 p4 _ = H4
    obtain ⟨K4, k4, h4⟩ := newL K3 n4 e4
    rw [wvs_drop, wvs_take] at h4
    have hc4 := k4 c _ (by simp) hc3
    have ha4 := k4 a _ (by simp) ha3
    have h3' := k4 p3 _ (by simp) h3
    have t1 : sumL (((ts.drop sn).take wn).map can) ≤ s := by
      have f1 := sumL_take_le ((ts.drop sn).map can) wn
      have f2 := sumL_drop_le (ts.map can) sn
      rw [List.map_take, List.map_drop] at *
      have := B.s1
      omega
    have t2 : sumL ((ds.drop sn).take wn) ≤ s := by
      have f1 := sumL_take_le (ds.drop sn) wn
      have f2 := sumL_drop_le ds sn
      have := B.s2
      omega
    walk_at "w"
    refine iteD (fun h5 => ?_) (fun h5 => ?_)
    · walk_at "w"
      refine ⟨(show 1 ≤ sizeLine by decide), fun p5 n5 => ?_⟩
      generalize e5 : upd H4 p5 _ = H5
      obtain ⟨K5, k5, h5'⟩ := newL K4 n5 e5
      rw [S_quote, wvs_one] at h5'
      have ha5 := k5 a _ (by simp) ha4
      walk_at "w"
      intro p6 n6
      rw [show (1 : Int) = ((1 : Nat) : Int) from rfl, cutV_mid _ _ _ (by rw [zn]; omega)]
      generalize e6 : upd H5 p6 _ = H6
      obtain ⟨K6, k6, h6⟩ := newL K5 n6 e6
      rw [wvs_drop, wvs_take, ← List.map_drop, ← List.map_take] at h6
      have h5'' := k6 p5 _ (by simp) h5'
      refine ⟨p5, p6, _, _, rfl, rfl, h5'', h6, by simp only [wvs_len, List.length_take, List.length_drop, List.length_map, List.length_singleton]; show _ ≤ 16777216; omega, fun p7 n7 => ?_⟩
      generalize e7 : upd H6 p7 _ = H7
      obtain ⟨K7, k7, h7⟩ := newL K6 n7 e7
      rw [wvs_app] at h7
      walk_at "w"
      refine ⟨(show 1 ≤ sizeLine by decide), fun p8 n8 => ?_⟩
      generalize e8 : upd H7 p8 _ = H8
      obtain ⟨K8, k8, h8⟩ := newL K7 n8 e8
      rw [S_quote, wvs_one] at h8
      have hc8 := K8 c _ (by simp [ncb, nce]) hc
      walk_at "w"
      intro p9 n9
      rw [cutV_mid _ _ _ (by rw [wvs_len]; omega)]
      generalize e9 : upd H8 p9 _ = H9
      obtain ⟨K9, k9, h9⟩ := newL K8 n9 e9
      rw [wvs_drop, wvs_take] at h9
      have h8' := k9 p8 _ (by simp) h8
      refine ⟨p8, p9, _, _, rfl, rfl, h8', h9, by simp only [wvs_len, List.length_take, List.length_drop, List.length_map, List.length_singleton]; show _ ≤ 16777216; omega, fun p10 n10 => ?_⟩
      generalize e10 : upd H9 p10 _ = H10
      obtain ⟨K10, k10, h10⟩ := newL K9 n10 e10
      rw [wvs_app] at h10
      have all := ((((((k3.trans k4).trans k5).trans k6).trans k7).trans k8).trans k9).trans k10
      have u1 : sumL (((ts.drop sn).take 1).map can) ≤ s := by
        have f1 := sumL_take_le ((ts.drop sn).map can) 1
        have f2 := sumL_drop_le (ts.map can) sn
        rw [List.map_take, List.map_drop] at *
        have := B.s1
        omega
      have u2 : sumL ((ds.drop sn).take 1) ≤ s := by
        have f1 := sumL_take_le (ds.drop sn) 1
        have f2 := sumL_drop_le ds sn
        have := B.s2
        omega
      have u3 : ((ts.drop sn).take 1).length ≤ 1 := by simp; omega
      have h7' := ((k8.trans k9).trans k10) p7 _ (by simp) h7
      have q5 : quoL.length = 5 := rfl
      have qd : Dr (.nam quoL) quoL := .nam' (by decide)
      refine main H10 sn wn 1 p7 p10 (.nam quoL :: (ts.drop sn).take 1) ([quoL] ++ (ds.drop sn).take 1) none none none (hb2.kp all) (he2.kp all) K10 (by omega) h7' h10 (.cons qd (paired_take _ (paired_drop _ B.pd)))
        (fun t ht => ?_) (by simp only [List.length_cons]; omega) ?_ ?_ ?_ ?_
      · rcases List.mem_cons.mp ht with rfl | ht
        · exact (by decide : nmOk quoL = true)
        · exact B.pr t (List.mem_of_mem_drop (List.mem_of_mem_take ht))
      · rw [List.map_cons, sumL_cons, can_nam]; omega
      · rw [sumL_app, sumL_cons, sumL_nil]; omega
      · rw [List.map_cons, sumL_cons, can_nam, List.length_cons]; omega
      · rw [sumL_app, sumL_cons, sumL_nil, List.length_cons]; omega
    · have hw : wn ≤ 4 := by omega
      refine main H4 sn wn wn p3 p4 _ _ none none none (hb2.kp (k3.trans k4)) (he2.kp (k3.trans k4)) K4 (by omega) h3' h4 (paired_take _ (paired_drop _ B.pd)) (fun t ht => B.pr t (List.mem_of_mem_drop (List.mem_of_mem_take ht))) (by simp; omega) (by omega) (by omega) ?_ ?_
      · have : ((ts.drop sn).take wn).length ≤ wn := by simp; omega
        omega
      · have : ((ts.drop sn).take wn).length ≤ wn := by simp; omega
        omega
end
end Wh
set_option Elab.async false
set_option linter.all false
set_option maxRecDepth 100000
set_option maxHeartbeats 1000000
/-! The law's value. -/
namespace Wh
open PySem L2 PySem.Spec PyProof.Rows
local macro_rules | `(tactic| walk_at "ne") => `(tactic| first | with_reducible assumption | (apply Ne.symm; with_reducible assumption))
local macro_rules | `(tactic| walk_at "hp") => `(tactic| first | with_reducible assumption | with_reducible exact upd_same | ((with_reducible refine (upd_ne ?n).trans ?h); (case n => walk_at "ne"); (case h => walk_at "hp")) | ((with_reducible show upd _ _ _ _ = _); exact upd_same))
local macro_rules | `(tactic| walk_at "cond") => `(tactic| first | with_reducible assumption | exact (rfl : (_ : Bool) = true) | ((try dsimp only) <;> first | with_reducible assumption | decide | omega) | exact ⟨by first | decide | omega | decide +kernel, by first | decide | omega | decide +kernel⟩ | decide +kernel | exact .inr ⟨by decide, by decide⟩ | exact .inl ⟨by decide, by decide⟩)
local macro_rules | `(tactic| walk_at "sq") => `(tactic| first | with_reducible assumption | exact SqL.of (by walk_at "hp"))
local macro_rules | `(tactic| walk_at "sz") => `(tactic| first | with_reducible assumption | (show _ ≤ 16777216; omega))
local macro_rules | `(tactic| walk_at "at") => `(tactic| first | with_reducible assumption | exact atI_nat (by with_reducible assumption) | exact atI_nat (j := 0) (rfl : (_ : Option Nat) = some _) | exact atI_nat (by assumption))
local macro_rules | `(tactic| walk_at "w1") => `(tactic| (fail_if_success with_reducible show @ite _ _ _ _ _); first
  | refine ⟨_, rfl, ?_⟩
  | refine ⟨_, _, (rfl : _ = V.int _), (rfl : _ = V.int _), And.intro (by walk_at "cond") ?_⟩
  | refine ⟨_, _, (rfl : _ = V.int _), (rfl : _ = V.int _), ?_⟩
  | refine ⟨_, _, (rfl : _ = V.str _), (rfl : _ = V.str _), And.intro (by walk_at "sz") ?_⟩
  | refine ⟨_, _, (rfl : _ = V.str _), (rfl : _ = V.str _), ?_⟩
  | refine ⟨_, _, _, _, (rfl : _ = V.ref _), (rfl : _ = V.int _), (by walk_at "sq"), rfl, ?_⟩
  | refine ⟨_, _, _, _, (rfl : _ = V.ref _), (rfl : _ = V.int _), (by walk_at "hp"), rfl, ?_⟩
  | refine ⟨Or.inl ⟨rfl, _, (by walk_at "sq")⟩, ?_⟩
  | refine ⟨_, _, _, (rfl : _ = V.ref _), (rfl : (_ : List V) = _), (by walk_at "hp"), (by with_reducible assumption), ?_⟩
  | refine ⟨_, _, (rfl : (_ : List V) = _), Or.inl ((by walk_at "sq")), ?_⟩
  | refine ⟨_, _, _, _, (rfl : _ = V.ref _), (rfl : _ = V.int _), (by walk_at "sq"), (by walk_at "at"), ?_⟩
  | refine ⟨_, _, _, (rfl : _ = V.str _), (rfl : _ = V.int _), (by walk_at "sz"), (by walk_at "at"), ?_⟩
  | refine ⟨_, _, (rfl : (_ : List V) = [V.str _]), SX.int_S (by assumption) (by simp) (by assumption), (by assumption), ?_⟩
  | refine ⟨_, _, (rfl : (_ : List V) = [_, _]), ?_⟩
  | refine ⟨_, _, (rfl : _ = V.ref _), (by walk_at "sq"), ?_⟩
  | refine ⟨(rfl : (_ : Bool) = true), ?_⟩
  | refine ⟨(rfl : (_ : V) = V.non), ?_⟩
  | refine And.intro (by walk_at "sz") ?_
  | refine ⟨⟨_, (rfl : _ = V.str _)⟩, ?_⟩
  | refine ⟨_, (rfl : _ = V.str _), (rfl : (_ : List V) = _), trivial, ?_⟩
  | refine .inl ⟨_, rfl, ?_⟩)
local macro_rules | `(tactic| walk_at "w") => `(tactic| repeat walk_at "w1")
local macro_rules | `(tactic| walk_at "fld") => `(tactic| (fail_if_success with_reducible show @ite _ _ _ _ _); first
  | refine ⟨_, _, _, _, _, (rfl : _ = V.ref _), (by walk_at "hp"), Txt.cl_Heap _, Txt.nf__shapes _, hz_shapes _, ?_⟩
  | refine ⟨_, _, _, _, _, (rfl : _ = V.ref _), (by walk_at "hp"), Txt.cl_Heap _, Txt.nf__faces _, hz_faces _, ?_⟩
  | refine ⟨_, _, _, _, _, (rfl : _ = V.ref _), (by walk_at "hp"), Txt.cl_Heap _, Txt.nf__firsts _, hz_firsts _, ?_⟩
  | refine ⟨_, _, _, _, _, (rfl : _ = V.ref _), (by walk_at "hp"), Txt.cl_Heap _, Txt.nf__seconds _, hz_seconds _, ?_⟩
  | refine ⟨_, _, _, _, _, (rfl : _ = V.ref _), (by walk_at "hp"), Txt.cl_Heap _, Txt.nf__hefts _, hz_hefts _, ?_⟩
  | refine ⟨_, _, _, _, _, (rfl : _ = V.ref _), (by walk_at "hp"), Txt.cl_Heap _, Txt.nf__numbers _, hz_numbers _, ?_⟩
  | refine ⟨_, _, _, _, _, (rfl : _ = V.ref _), (by walk_at "hp"), Txt.cl_Heap _, Txt.nf__names _, hz_names _, ?_⟩
  | refine ⟨_, _, _, _, _, (rfl : _ = V.ref _), (by walk_at "hp"), Txt.cl_Heap _, Txt.nf__pairs _, hz_pairs _, ?_⟩)
local macro_rules | `(tactic| walk_at "wf") => `(tactic| repeat first | walk_at "w1" | walk_at "fld")
section
variable {P : Program} {w : World} {K : PySem.W.Frag} {mg : Str → Option Value} {base : Heap}
/-- the words drawn: the told list is its own dress -/
theorem Both.words {ws : List (List Nat)} (h : ∀ l ∈ ws, WordOk l) : ∃ ts : List Tr, ts.map can = ws ∧ Both ts ws ws.length (12 * ws.length) := by
  induction ws with
  | nil => exact ⟨[], rfl, .nil, by simp, by simp, by simp [sumL_nil], by simp [sumL_nil]⟩
  | cons x r ih =>
    obtain ⟨ts, e, B⟩ := ih fun l hl => h l (by simp [hl])
    obtain ⟨t, pr, ec, dr, l12, _, _⟩ := h x (by simp)
    refine ⟨t :: ts, by rw [List.map_cons, e, ec], .cons dr B.pd, ?_, by simp, ?_, ?_⟩
    · intro u hu
      rcases List.mem_cons.mp hu with rfl | hu
      · exact pr
      · exact B.pr u hu
    · have := B.s1
      rw [List.map_cons, sumL_cons, ec, List.length_cons]; omega
    · have := B.s2
      rw [sumL_cons, List.length_cons]; omega
/-- what the law has in hand: the text told, the text dressed -/
structure Hand (t d : List Nat) (n : Nat) : Prop where
  tr : ∃ x, Pr x ∧ can x = t ∧ Dr x d
  l1 : t.length ≤ n
  l2 : d.length ≤ n
theorem BoxAt.upd' {H : Hp} {b p : Addr} {o : HO} (h : BoxAt H b) (n : p ≠ b) : BoxAt (upd H p o) b := by
  obtain ⟨x, y, z, e⟩ := h
  exact ⟨x, y, z, (upd_ne n.symm).trans e⟩
def spVal : Sp := fun vs H Q _ => ∃ (b e : Addr), vs = [.ref b, .ref e] ∧ BoxAt H b ∧ BoxAt H e ∧ b ≠ e ∧
  ∀ (r : Addr) (t d : List Nat) (H' : Hp), H' r = some (.lst [.str (SX.S t), .str (SX.S d)]) → Hand t d 3000 → BoxAt H' b → BoxAt H' e → Kp [b, e] H H' → Q (.ref r) H'
theorem ok_law_value (T : Txt K mg) : FnOk P w K mg base CX0 5 T.a_law_value T.d_law_value ["box", "dress"] spVal := by
  refine T.law_value.fn.ok sc_law_value (fun vs H Q E h => ?_) (fun cdv A outer s H vs Q E hr h => ?_)
  · obtain ⟨b, e, rfl, _⟩ := h
    rfl
  · obtain ⟨b, e, rfl, hb, he, nbe, k⟩ := h
    have main : ∀ (H3 : Hp) (wd tn : Int), 0 ≤ wd → wd ≤ 39 → 0 ≤ tn → tn ≤ 40 → BoxAt H3 b → BoxAt H3 e → Kp [b, e] H H3 →
        (tSeq (tAsg (tLc (iRng1 (tCons (tVar 2) tNil)) (gName 4) tYes (tCall spWord [] E0 (tCons (tVar 0) tNil)) (([("k", 4)] : List (Str × Nat)).map (·.2))) (gName 5))
                                    (tSeq
                                        (tAsg
                                          (tCB
                                            (fun xs H Q =>
                                              ∃ p ys,
                                                xs = [V.ref p] ∧
                                                  (SqL K H p ys ∨ SqT K H p ys) ∧
                                                    ∀ (l : Addr), H l = none → Q (V.ref l) (upd H l (HO.lst ys)))
                                            (tCons (tVar 5) tNil))
                                          (gName 6))
                                        (tSeq
                                          (tFor (iRng1 (tCons (tVar 3) tNil)) (gName 4)
                                            (tSeq
                                              (tAsg
                                                (tCall spGrp [] E0
                                                  (tCons (tVar 0)
                                                    (tCons (tVar 1) (tCons (tVar 5) (tCons (tVar 6) tNil)))))
                                                (gName 7))
                                              (tSeq (tAsg (tOp (rIxL K) (tVar 7) (tC (V.int 0))) (gName 5))
                                                (tAsg (tOp (rIxL K) (tVar 7) (tC (V.int 1))) (gName 6)))))
                                          (tSeq
                                            (tIfS
                                              (tOr
                                                (tTest
                                                  (tOp rNe
                                                    (tCB
                                                      (fun xs H Q =>
                                                        ∃ p ys,
                                                          xs = [V.ref p] ∧
                                                            (SqL K H p ys ∨ SqT K H p ys) ∧ Q (V.int ↑ys.length) H)
                                                      (tCons (tVar 5) tNil))
                                                    (tC (V.int 1))))
                                                (tTest
                                                  (tOp rEq
                                                    (tCall spTake [] E0 (tCons (tVar 0) (tCons (tC (V.int 2)) tNil)))
                                                    (tC (V.int 0)))))
                                              (tRet
                                                (tLst
                                                  (tCons (tCall spLst [] E0 (tCons (tVar 5) tNil))
                                                    (tCons
                                                      (tCall spDrs [] E0
                                                        (tCons (tVar 1) (tCons (tVar 5) (tCons (tVar 6) tNil))))
                                                      tNil))))
                                              tNext)
                                            (tRet
                                              (tLst
                                                (tCons (tOp (rIxL K) (tVar 5) (tC (V.int 0)))
                                                  (tCons (tOp (rIxL K) (tVar 6) (tC (V.int 0))) tNil)))))))
                                        { nx := fun x H' => Q V.non H', rt := Q })
          [some (.ref b), some (.ref e), some (.int wd), some (.int tn), none, none, none, none] H3 := by
      intro H3 wd tn hwd0 hwd htn0 htn hb3 he3 K3
      walk_at "w"
      refine ⟨by omega, by omega, fun D nD => ?_⟩
      have nDb := hb3.ne_new nD
      have nDe := he3.ne_new nD
      refine lc_range (fun i H' => ∃ ws : List (List Nat), H' D = some (.lst (wvs ws)) ∧ ws.length = i ∧ (∀ l ∈ ws, WordOk l) ∧ BoxAt H' b ∧ BoxAt H' e ∧ Kp [b, e] H H') ?_ ?_ ?_
      · exact ⟨[], upd_same, rfl, by simp, hb3.new nD, he3.new nD, K3.new' nD⟩
      · rintro i H4 hi ⟨ws, hD, hl, hw, hb4, he4, K4⟩
        have hi' : i < 39 := by omega
        walk_at "w"
        refine ⟨rfl, ?_⟩
        walk_at "w"
        intro l H5 hwl hb5 kp5
        have hD5 := kp5 D _ (by simp [nDb]) hD
        refine ⟨_, hD5, by rw [wvs_len]; show _ < 16777216; omega, ws ++ [l], ?_, by simp [hl], ?_, ?_, ?_, ?_⟩
        · rw [wvs_one, wvs_app]; exact upd_same
        · intro x hx
          rcases List.mem_append.mp hx with hx | hx
          · exact hw x hx
          · rw [List.mem_singleton.mp hx]; exact hwl
        · exact hb5.upd' nDb
        · exact (kp5.box nbe.symm he4).upd' nDe
        · exact (K4.trans (kp5.mono (by simp))).new (K3.none (by simp [nDb, nDe]) nD)
      · rintro H4 ⟨ws, hD, hl, hw, hb4, he4, K4⟩
        obtain ⟨ts, ets, B0⟩ := Both.words hw
        walk_at "w"
        intro p6 n6
        generalize e6 : upd H4 p6 _ = H6
        obtain ⟨K6, k6, h6⟩ := newL K4 n6 e6
        walk_at "w"
        refine ⟨by omega, by omega, for_it walk_range (fun i σ H5 => ∃ (o4 o7 : Option V) (a c : Addr) (ts : List Tr) (ds : List (List Nat)), σ = [some (.ref b), some (.ref e), some (.int wd), some (.int tn), o4, some (.ref a), some (.ref c), o7] ∧
          H5 a = some (.lst (wvs (ts.map can))) ∧ H5 c = some (.lst (wvs ds)) ∧ Both ts ds (39 + i) (468 + 30 * i) ∧ BoxAt H5 b ∧ BoxAt H5 e ∧ Kp [b, e] H H5) ?_ (fun _ _ _ _ _ => trivial) ?_ ?_⟩
        · refine ⟨none, none, D, p6, ts, ws, rfl, ?_, h6, ⟨B0.pd, B0.pr, by omega, ?_, ?_⟩, hb4.kp k6, he4.kp k6, K6⟩
          · rw [ets]; exact k6 D _ (by simp) hD
          · have := B0.s1; omega
          · have := B0.s2; omega
        · rintro i x σ H5 H7 hi ⟨o4, o7, a, c, ts, ds, rfl, ha, hc, B, hb5, he5, K5⟩ ⟨rfl, rfl⟩
          have hi' : i < 40 := by omega
          walk_at "w"
          refine ⟨b, e, a, c, ts, ds, _, _, rfl, hb5, he5, nbe, ha, hc, B, by omega, by omega, fun r a' c' ts' ds' H8 hr8 ha8 hc8 B8 hb8 he8 kp8 => ?_⟩
          walk_at "w"
          exact ⟨_, _, a', c', ts', ds', rfl, ha8, hc8, B8, hb8, he8, K5.trans kp8⟩
        · rintro σ H5 ⟨o4, o7, a, c, ts, ds, rfl, ha, hc, B, hb5, he5, K5⟩
          have htn' : tn.toNat ≤ 40 := by omega
          generalize tn.toNat = tq at B htn'
          have B1 := B.s1
          have B2 := B.s2
          have B3 := B.ln
          have B4 := B.len
          have zn : (wvs (ts.map can)).length = ds.length := by rw [wvs_len, B.len']
          have full : ∀ H7, BoxAt H7 b → BoxAt H7 e → Kp [b, e] H5 H7 → (tRet
                (tLst
                  (tCons (tCall spLst [] E0 (tCons (tVar 5) tNil))
                    (tCons (tCall spDrs [] E0 (tCons (tVar 1) (tCons (tVar 5) (tCons (tVar 6) tNil)))) tNil)))
                { nx := fun x H' => Q V.non H', rt := Q }
                [some (V.ref b), some (V.ref e), some (V.int wd), some (V.int tn), o4, some (V.ref a), some (V.ref c), o7] H7) := by
            intro H7 hb7 he7 kp7
            have ha7 := kp7 a _ (by simp [hb5.ne_w ha, he5.ne_w ha]) ha
            have hc7 := kp7 c _ (by simp [hb5.ne_w hc, he5.ne_w hc]) hc
            have K7 := K5.trans kp7
            walk_at "w"
            refine ⟨a, _, rfl, ha7, by rw [List.length_map]; omega, by omega, ?_⟩
            rw [listed_can]
            walk_at "w"
            refine ⟨e, a, c, ts, ds, rfl, he7, ha7, hc7, B.pd, B.pr, by omega, by omega, fun d H8 hd hdl he8 kp8 => ?_⟩
            have hb8 : BoxAt H8 b := kp8.box nbe hb7
            have K8 : Kp [b, e] H H8 := K7.trans (kp8.mono (by simp))
            walk_at "w"
            refine ⟨(show 2 ≤ sizeLine by decide), fun p9 n9 => ?_⟩
            refine k p9 _ d _ upd_same ⟨⟨mkl ts, mkl_Pr B.pr, rfl, hd⟩, ?_, by omega⟩ (hb8.new n9) (he8.new n9) (K8.new' n9)
            have := listedL_len (ts.map can)
            rw [listed_can, List.length_map] at this
            omega
          walk_at "w"
          refine iteND (fun h1 => ?_) (fun h1 => ?_)
          · exact full H5 hb5 he5 (.refl H5)
          · have hl1 : ts.length = 1 := by rw [zn] at h1; have := V.int.inj h1; omega
            obtain ⟨t, rfl⟩ : ∃ t, ts = [t] := by
              match ts, hl1 with
              | [t], _ => exact ⟨t, rfl⟩
            obtain ⟨d, rfl⟩ : ∃ d, ds = [d] := by
              match ds, B4 with
              | [d], _ => exact ⟨d, rfl⟩
            obtain ⟨t', ht', hdr⟩ := paired_at B.pd (i := 0) (b := d) rfl
            cases ht'
            walk_at "w"
            refine ⟨by decide, by decide, fun d2 H7 f0 f1 hb7 kp7 => ?_⟩
            have he7 := kp7.box nbe.symm he5
            have ha7 := kp7 a _ (by simp [hb5.ne_w ha]) ha
            have hc7 := kp7 c _ (by simp [hb5.ne_w hc]) hc
            have K7 : Kp [b, e] H H7 := K5.trans (kp7.mono (by simp))
            walk_at "w"
            refine iteD (fun h2 => ?_) (fun h2 => ?_)
            · exact full H7 hb7 he7 (kp7.mono (by simp))
            · have w1 : (wvs ([t].map can))[0]? = some (.str (SX.S (can t))) := rfl
              have w2 : (wvs [d])[0]? = some (.str (SX.S d)) := rfl
              walk_at "w"
              refine ⟨(show 2 ≤ sizeLine by decide), fun p9 n9 => ?_⟩
              rw [List.map_cons, sumL_cons] at B1
              rw [sumL_cons] at B2
              exact k p9 (can t) d _ upd_same ⟨⟨t, B.pr t (by simp), rfl, hdr⟩, by omega, by omega⟩ (hb7.new n9) (he7.new n9) (K7.new' n9)
    refine ⟨_, (pss_cons (ps_set (i := 2) sc_law_value.nd rfl (Or.inl rfl) (pe_call (ok_law_take (P := P) (w := w) (base := base) T) (hr.mono (by decide)) rfl T.law_take.mg T.law_take.fn.kp T.law_take.b .nil pass0 (pa_cons (pv 0) (pa_cons pe_int pa_nil))))
      (pss_cons (ps_set (i := 3) sc_law_value.nd rfl (Or.inl rfl) (pe_call (ok_law_take (P := P) (w := w) (base := base) T) (hr.mono (by decide)) rfl T.law_take.mg T.law_take.fn.kp T.law_take.b .nil pass0 (pa_cons (pv 0) (pa_cons pe_int pa_nil))))
      (pss_cons (ps_if (pt_cmpR op_eq (pe_call (ok_law_take (P := P) (w := w) (base := base) T) (hr.mono (by decide)) rfl T.law_take.mg T.law_take.fn.kp T.law_take.b .nil pass0 (pa_cons (pv 0) (pa_cons pe_int pa_nil))) pe_int (nomark _)) (pss_cons (ps_set (i := 2) sc_law_value.nd rfl (Or.inl rfl) (pe_op op_add (pv 2) (pe_call (ok_law_take (P := P) (w := w) (base := base) T) (hr.mono (by decide)) rfl T.law_take.mg T.law_take.fn.kp T.law_take.b .nil pass0 (pa_cons (pv 0) (pa_cons pe_int pa_nil)))))
      (pss_one (ps_set (i := 3) sc_law_value.nd rfl (Or.inl rfl) (pe_op op_add (pv 3) (pe_call (ok_law_take (P := P) (w := w) (base := base) T) (hr.mono (by decide)) rfl T.law_take.mg T.law_take.fn.kp T.law_take.b .nil pass0 (pa_cons (pv 0) (pa_cons pe_int pa_nil))))))) pss_nil)
      (pss_cons (ps_setLc (i := 5) (own := [("k", 4)]) (g := gName 4) (tt := tYes)  rfl sc_law_value.nd rfl rfl (sw_true rfl rfl rfl (by decide +kernel)) (pi_range1 (by rfl) T.b_range (pa_cons (pv 2) pa_nil)) (blkOk_by (own := [("k", 4)]) (N := ["box", "dress", "words", "turns", "k", "told", "dressed", "pair"]) (sc := defScope s_law_value) (by decide +kernel)) (fun _ _ _ _ _ => pg_name (i := 4) sc_law_value.nd rfl (Or.inl rfl)) (fun _ _ _ _ _ => pts_nil) (fun _ _ _ _ _ => (pe_call (ok_law_word (P := P) (w := w) (base := base) T) (hr.mono (by decide)) rfl T.law_word.mg T.law_word.fn.kp T.law_word.b .nil pass0 (pa_cons (pv 0) pa_nil))))
      (pss_cons (ps_set (i := 6) sc_law_value.nd rfl (Or.inl rfl) (pe_callTy call_list_of (by rfl) T.b_list (by decide +kernel) (pa_cons (pv 5) pa_nil)))
      (pss_cons (ps_for PassesOwn.never rfl (pi_range1 (by rfl) T.b_range (pa_cons (pv 3) pa_nil)) (pg_name (i := 4) sc_law_value.nd rfl (Or.inl rfl)) (pss_cons (ps_set (i := 7) sc_law_value.nd rfl (Or.inl rfl) (pe_call (ok_law_group (P := P) (w := w) (base := base) T) (hr.mono (by decide)) rfl T.law_group.mg T.law_group.fn.kp T.law_group.b .nil pass0 (pa_cons (pv 0) (pa_cons (pv 1) (pa_cons (pv 5) (pa_cons (pv 6) pa_nil))))))
      (pss_cons (ps_set (i := 5) sc_law_value.nd rfl (Or.inl rfl) (pe_ix ix_list (pv 7) pe_int (fun _ _ => rfl)))
      (pss_one (ps_set (i := 6) sc_law_value.nd rfl (Or.inl rfl) (pe_ix ix_list (pv 7) pe_int (fun _ _ => rfl)))))))
      (pss_cons (ps_if (PW.pt (pw_or (pt_cmpR op_ne (pe_callB call_len_seq (by rfl) T.b_len (by decide +kernel) (pa_cons (pv 5) pa_nil)) pe_int (nomark _)) (pw_or1 (pt_cmpR op_eq (pe_call (ok_law_take (P := P) (w := w) (base := base) T) (hr.mono (by decide)) rfl T.law_take.mg T.law_take.fn.kp T.law_take.b .nil pass0 (pa_cons (pv 0) (pa_cons pe_int pa_nil))) pe_int (nomark _))))) (pss_one (ps_ret (pe_lst (pa_cons (pe_call (ok_law_listed (P := P) (w := w) (base := base) T) (hr.mono (by decide)) rfl T.law_listed.mg T.law_listed.fn.kp T.law_listed.b .nil pass0 (pa_cons (pv 5) pa_nil)) (pa_cons (pe_call (ok_law_dressed (P := P) (w := w) (base := base) T) (hr.mono (by decide)) rfl T.law_dressed.mg T.law_dressed.fn.kp T.law_dressed.b .nil pass0 (pa_cons (pv 1) (pa_cons (pv 5) (pa_cons (pv 6) pa_nil)))) pa_nil))))) pss_nil)
      (pss_one (ps_ret (pe_lst (pa_cons (pe_ix ix_list (pv 5) pe_int (fun _ _ => rfl)) (pa_cons (pe_ix ix_list (pv 6) pe_int (fun _ _ => rfl)) pa_nil)))))))))))), ?_⟩
    try dsimp only [cxOf, Cx.nox]
    walk_at "w"
    refine ⟨by decide, by decide, fun wd H1 a0 a1 hb1 kp1 => ?_⟩
    walk_at "w"
    refine ⟨by decide, by decide, fun tn H2 b0 b1 hb2 kp2 => ?_⟩
    walk_at "w"
    refine ⟨by decide, by decide, fun d3 H3 c0 c1 hb3 kp3 => ?_⟩
    have he3 := kp3.box nbe.symm (kp2.box nbe.symm (kp1.box nbe.symm he))
    have K3 : Kp [b, e] H H3 := ((kp1.trans kp2).trans kp3).mono (by simp)
    walk_at "w"
    refine iteD (fun h1 => ?_) (fun h1 => ?_)
    · walk_at "w"
      refine ⟨by decide, by decide, fun d4 H4 e0 e1 hb4 kp4 => ?_⟩
      walk_at "w"
      refine ⟨by decide, by decide, fun d5 H5 f0 f1 hb5 kp5 => ?_⟩
      refine ⟨_, _, rfl, rfl, ?_⟩
      exact main H5 (wd + d4) (tn + d5) (by omega) (by omega) (by omega) (by omega) hb5 (kp5.box nbe.symm (kp4.box nbe.symm he3)) (K3.trans ((kp4.trans kp5).mono (by simp)))
    · exact main H3 wd tn (by omega) (by omega) (by omega) (by omega) hb3 he3 K3
end
end Wh
set_option Elab.async false
set_option linter.all false
set_option maxRecDepth 100000
set_option maxHeartbeats 1000000
/-! Values many times wrapped. -/
namespace Wh
open PySem L2 PySem.Spec PyProof.Rows
def repL (n : Nat) (p : List Nat) : List Nat := (List.replicate n p).flatten
theorem repL_zero (p : List Nat) : repL 0 p = [] := rfl
theorem repL_succ (n : Nat) (p : List Nat) : repL (n + 1) p = p ++ repL n p := by
  unfold repL; rw [List.replicate_succ, List.flatten_cons]
theorem repL_succ' (n : Nat) (p : List Nat) : repL (n + 1) p = repL n p ++ p := by
  unfold repL; rw [List.replicate_succ', List.flatten_append]; simp
theorem repL_len (n : Nat) (p : List Nat) : (repL n p).length = n * p.length := by
  induction n with
  | zero => simp [repL_zero]
  | succ n ih => rw [repL_succ, List.length_append, ih, Nat.succ_mul]; omega
theorem fold_app : ∀ (l : List (Array Nat)) (a : Array Nat), (l.foldl (· ++ ·) a).toList = a.toList ++ (l.map Array.toList).flatten
  | [], a => by simp
  | x :: r, a => by rw [List.foldl_cons, fold_app r]; simp
theorem S_ext {a : Str} {l : List Nat} (h : a.cps.toList = l) : a = SX.S l := by
  cases a with
  | mk c => subst h; show _ = Str.mk _; simp
theorem mul_S (p : List Nat) (n : Int) : Txt.mul (SX.S p) n = SX.S (repL n.toNat p) := by
  unfold Txt.mul
  by_cases h1 : n < 1
  · rw [if_pos h1, show n.toNat = 0 from by omega]; rfl
  · rw [if_neg h1]
    by_cases h2 : (n == 1 || (SX.S p).length == 0) = true
    · rw [if_pos h2]
      simp only [Bool.or_eq_true, beq_iff_eq] at h2
      rcases h2 with h2 | h2
      · subst h2
        show SX.S p = SX.S (repL 1 p)
        rw [repL_succ, repL_zero, List.append_nil]
      · rw [SX.S_len] at h2
        have : p = [] := List.length_eq_zero_iff.mp h2
        subst this
        congr 1
        exact (List.length_eq_zero_iff.mp (by rw [repL_len]; simp)).symm
    · rw [if_neg h2]
      refine S_ext ?_
      show (List.foldl (· ++ ·) #[] (List.replicate n.toNat (SX.S p).cps)).toList = _
      rw [fold_app]
      simp only [List.map_replicate]
      rfl
/-- one wrap: on the one form, and on a dress -/
structure Wrap (f : Tr → Tr) (p q p' q' : List Nat) : Prop where
  pr : ∀ x, Pr x → Pr (f x)
  cn : ∀ x, can (f x) = p ++ can x ++ q
  dr : ∀ x d, Dr x d → Dr (f x) (p' ++ d ++ q')
def itF (f : Tr → Tr) : Nat → Tr → Tr
  | 0, x => x
  | n + 1, x => f (itF f n x)
theorem Wrap.many {f : Tr → Tr} {p q p' q' : List Nat} (W : Wrap f p q p' q') (n : Nat) {x : Tr} {d : List Nat} (hp : Pr x) (hd : Dr x d) :
    Pr (itF f n x) ∧ can (itF f n x) = repL n p ++ can x ++ repL n q ∧ Dr (itF f n x) (repL n p' ++ d ++ repL n q') := by
  induction n with
  | zero => exact ⟨hp, by simp [repL_zero, itF], by simpa [repL_zero, itF] using hd⟩
  | succ n ih =>
    obtain ⟨h1, h2, h3⟩ := ih
    refine ⟨W.pr _ h1, ?_, ?_⟩
    · show can (f (itF f n x)) = _
      rw [W.cn, h2, repL_succ n p, repL_succ' n q]
      simp only [List.append_assoc]
    · have := W.dr _ _ h3
      rw [repL_succ n p', repL_succ' n q']
      simpa only [List.append_assoc, itF] using this
theorem can_one (x : Tr) : can (mkl [x]) = 40 :: (can x ++ [41]) := by
  rw [show mkl [x] = Tr.cons x .nil from rfl, can_plain rfl, tail_nil]
theorem wrap0 : Wrap (fun x => mkl [x]) [40] [41] [40] [41] :=
  ⟨fun x h => mkl_Pr (l := [x]) (by simpa using h), fun x => by rw [can_one]; simp, fun x d h => by
    have h1 : DrP ([] ++ [x]) ([40] ++ [] ++ d) := DrP.nil.snoc h rfl (fun _ => sep_left (x := 40) rfl rfl)
    have h2 := h1.close (g := []) rfl
    simpa using h2⟩
theorem wrap1 : Wrap quo [39] [] [39] [] :=
  ⟨fun x h => mkl_Pr (l := [.nam quoL, x]) (by intro t ht; simp at ht; rcases ht with rfl | rfl; exact (by decide : nmOk quoL = true); exact h), fun x => by rw [can_quo]; simp, fun x d h => by
    have := h.quote (g := []) rfl
    simpa using this⟩
theorem qDr : Dr (.nam quoL) quoL := .nam' (by decide)
theorem wrap2 : Wrap quo [39] [] [40, 113, 117, 111, 116, 101, 32] [41] :=
  ⟨wrap1.pr, wrap1.cn, fun x d h => by
    have h1 : DrP ([] ++ [.nam quoL]) ([40] ++ [] ++ quoL) := DrP.nil.snoc qDr rfl (fun _ => sep_left (x := 40) rfl rfl)
    have h2 := h1.snoc (g := [32]) h rfl (fun z => by cases z)
    have h3 := h2.close (g := []) rfl
    simpa [quoL, quo] using h3⟩
theorem wrap3 : Wrap (fun x => mkl [.nam [97], x]) [40, 97, 32] [41] [40, 97, 10] [41] :=
  ⟨fun x h => mkl_Pr (l := [.nam [97], x]) (by intro t ht; simp at ht; rcases ht with rfl | rfl; exact (by decide : nmOk [97] = true); exact h), fun x => by
    have q : quoted (Tr.cons (.nam [97]) (mkl [x])) = none := by
      show (if isQ (.nam [97]) = true then some x else none) = none
      rw [if_neg (by decide)]
    show can (Tr.cons (.nam [97]) (mkl [x])) = _
    rw [can_plain q, tail_mkl]
    simp [can_nam], fun x d h => by
    have h1 : DrP ([] ++ [.nam [97]]) ([40] ++ [] ++ [97]) := DrP.nil.snoc (.nam' (by decide)) rfl (fun _ => sep_left (x := 40) rfl rfl)
    have h2 := h1.snoc (g := [10]) h rfl (fun z => by cases z)
    have h3 := h2.close (g := []) rfl
    simpa using h3⟩
/-- the same value many times -/
theorem can_many {n : Nat} {x : Tr} (h : 3 ≤ n) : can (mkl (List.replicate n x)) = [40] ++ TL.joinL [32] (List.replicate n (can x)) ++ [41] := by
  rw [← listed_can, List.map_replicate]
  unfold listedL
  rw [if_neg (by rw [List.length_replicate]; omega)]
  simp
theorem DrP_many {x : Tr} {d : List Nat} (h : Dr x d) : ∀ (n : Nat), DrP (List.replicate (n + 1) x) ([40] ++ (d ++ repL n ([10] ++ d)))
  | 0 => by
    have h1 : DrP ([] ++ [x]) ([40] ++ [] ++ d) := DrP.nil.snoc h rfl (fun _ => sep_left (x := 40) rfl rfl)
    simpa [repL_zero] using h1
  | n + 1 => by
    have h1 := (DrP_many h n).snoc (g := [10]) h rfl (fun z => by cases z)
    rw [List.replicate_succ', repL_succ']
    simpa only [List.append_assoc] using h1
theorem flat_rep (d : List Nat) (s : List Nat) (n : Nat) : (List.replicate n d).flatMap (fun q => s ++ q) = repL n (s ++ d) := by
  induction n with
  | zero => rfl
  | succ n ih => rw [List.replicate_succ, List.flatMap_cons, ih, repL_succ]
theorem Dr_many {x : Tr} {d : List Nat} (h : Dr x d) {n : Nat} (hn : 1 ≤ n) : Dr (mkl (List.replicate n x)) ([40] ++ TL.joinL [10] (List.replicate n d) ++ [10, 41]) := by
  obtain ⟨m, rfl⟩ : ∃ m, n = m + 1 := ⟨n - 1, by omega⟩
  have := (DrP_many h m).close (g := [10]) rfl
  rw [List.replicate_succ (a := d), joinL_cons, flat_rep]
  simpa [List.append_assoc] using this
theorem joinL_rep_len (s d : List Nat) (hs : s.length = 1) (n : Nat) : (TL.joinL s (List.replicate n d)).length ≤ n * (d.length + 1) := by
  cases n with
  | zero => simp [TL.joinL]
  | succ n =>
    rw [List.replicate_succ, joinL_cons, flat_rep, List.length_append, repL_len, List.length_append, hs, Nat.succ_mul, Nat.add_comm 1]; omega
theorem blanks_all (n : Nat) : (repL n [32]).all isB = true := by
  induction n with
  | zero => rfl
  | succ n ih => rw [repL_succ, List.all_append, ih]; rfl
end Wh
set_option Elab.async false
set_option linter.all false
set_option maxRecDepth 100000
set_option maxHeartbeats 1000000
/-! The law's depth. -/
namespace Wh
open PySem L2 PySem.Spec PyProof.Rows
local macro_rules | `(tactic| walk_at "ne") => `(tactic| first | with_reducible assumption | (apply Ne.symm; with_reducible assumption))
local macro_rules | `(tactic| walk_at "hp") => `(tactic| first | with_reducible assumption | with_reducible exact upd_same | ((with_reducible refine (upd_ne ?n).trans ?h); (case n => walk_at "ne"); (case h => walk_at "hp")) | ((with_reducible show upd _ _ _ _ = _); exact upd_same))
local macro_rules | `(tactic| walk_at "cond") => `(tactic| first | with_reducible assumption | exact (rfl : (_ : Bool) = true) | ((try dsimp only) <;> first | with_reducible assumption | decide | omega) | exact ⟨by first | decide | omega | decide +kernel, by first | decide | omega | decide +kernel⟩ | decide +kernel | exact .inr ⟨by decide, by decide⟩ | exact .inl ⟨by decide, by decide⟩)
local macro_rules | `(tactic| walk_at "sq") => `(tactic| first | with_reducible assumption | exact SqL.of (by walk_at "hp"))
local macro_rules | `(tactic| walk_at "sz") => `(tactic| first | with_reducible assumption | (show _ ≤ 16777216; omega))
local macro_rules | `(tactic| walk_at "at") => `(tactic| first | with_reducible assumption | exact atI_nat (by with_reducible assumption) | exact atI_nat (j := 0) (rfl : (_ : Option Nat) = some _) | exact atI_nat (by assumption))
local macro_rules | `(tactic| walk_at "w1") => `(tactic| (fail_if_success with_reducible show @ite _ _ _ _ _); first
  | refine ⟨_, rfl, ?_⟩
  | refine ⟨_, _, (rfl : _ = V.int _), (rfl : _ = V.int _), And.intro (by walk_at "cond") ?_⟩
  | refine ⟨_, _, (rfl : _ = V.int _), (rfl : _ = V.int _), ?_⟩
  | refine ⟨_, _, (rfl : _ = V.str _), (rfl : _ = V.str _), And.intro (by walk_at "sz") ?_⟩
  | refine ⟨_, _, (rfl : _ = V.str _), (rfl : _ = V.str _), ?_⟩
  | refine ⟨_, _, _, _, (rfl : _ = V.ref _), (rfl : _ = V.int _), (by walk_at "sq"), rfl, ?_⟩
  | refine ⟨_, _, _, _, (rfl : _ = V.ref _), (rfl : _ = V.int _), (by walk_at "hp"), rfl, ?_⟩
  | refine ⟨Or.inl ⟨rfl, _, (by walk_at "sq")⟩, ?_⟩
  | refine ⟨_, _, _, (rfl : _ = V.ref _), (rfl : (_ : List V) = _), (by walk_at "hp"), (by with_reducible assumption), ?_⟩
  | refine ⟨_, _, (rfl : (_ : List V) = _), Or.inl ((by walk_at "sq")), ?_⟩
  | refine ⟨_, _, _, _, (rfl : _ = V.ref _), (rfl : _ = V.int _), (by walk_at "sq"), (by walk_at "at"), ?_⟩
  | refine ⟨_, _, _, (rfl : _ = V.str _), (rfl : _ = V.int _), (by walk_at "sz"), (by walk_at "at"), ?_⟩
  | refine ⟨_, _, (rfl : (_ : List V) = [V.str _]), SX.int_S (by assumption) (by simp) (by assumption), (by assumption), ?_⟩
  | refine ⟨_, _, (rfl : (_ : List V) = [_, _]), ?_⟩
  | refine ⟨_, _, (rfl : _ = V.ref _), (by walk_at "sq"), ?_⟩
  | refine ⟨(rfl : (_ : Bool) = true), ?_⟩
  | refine ⟨(rfl : (_ : V) = V.non), ?_⟩
  | refine And.intro (by walk_at "sz") ?_
  | refine ⟨⟨_, (rfl : _ = V.str _)⟩, ?_⟩
  | refine ⟨_, (rfl : _ = V.str _), (rfl : (_ : List V) = _), trivial, ?_⟩
  | refine .inl ⟨_, rfl, ?_⟩)
local macro_rules | `(tactic| walk_at "w") => `(tactic| repeat walk_at "w1")
local macro_rules | `(tactic| walk_at "fld") => `(tactic| (fail_if_success with_reducible show @ite _ _ _ _ _); first
  | refine ⟨_, _, _, _, _, (rfl : _ = V.ref _), (by walk_at "hp"), Txt.cl_Heap _, Txt.nf__shapes _, hz_shapes _, ?_⟩
  | refine ⟨_, _, _, _, _, (rfl : _ = V.ref _), (by walk_at "hp"), Txt.cl_Heap _, Txt.nf__faces _, hz_faces _, ?_⟩
  | refine ⟨_, _, _, _, _, (rfl : _ = V.ref _), (by walk_at "hp"), Txt.cl_Heap _, Txt.nf__firsts _, hz_firsts _, ?_⟩
  | refine ⟨_, _, _, _, _, (rfl : _ = V.ref _), (by walk_at "hp"), Txt.cl_Heap _, Txt.nf__seconds _, hz_seconds _, ?_⟩
  | refine ⟨_, _, _, _, _, (rfl : _ = V.ref _), (by walk_at "hp"), Txt.cl_Heap _, Txt.nf__hefts _, hz_hefts _, ?_⟩
  | refine ⟨_, _, _, _, _, (rfl : _ = V.ref _), (by walk_at "hp"), Txt.cl_Heap _, Txt.nf__numbers _, hz_numbers _, ?_⟩
  | refine ⟨_, _, _, _, _, (rfl : _ = V.ref _), (by walk_at "hp"), Txt.cl_Heap _, Txt.nf__names _, hz_names _, ?_⟩
  | refine ⟨_, _, _, _, _, (rfl : _ = V.ref _), (by walk_at "hp"), Txt.cl_Heap _, Txt.nf__pairs _, hz_pairs _, ?_⟩)
local macro_rules | `(tactic| walk_at "wf") => `(tactic| repeat first | walk_at "w1" | walk_at "fld")
section
variable {P : Program} {w : World} {K : PySem.W.Frag} {mg : Str → Option Value} {base : Heap}
theorem Hand.mono {t d : List Nat} {n m : Nat} (h : Hand t d n) (l : n ≤ m) : Hand t d m := ⟨h.tr, Nat.le_trans h.l1 l, Nat.le_trans h.l2 l⟩
theorem room_ok {t d m : Int} (t0 : 0 ≤ t) (t1 : t ≤ 3000) (d0 : 0 ≤ d) (d1 : d ≤ 3000) (m1 : 1 ≤ m) :
    3 ≤ 2 + (if 190000 / (1 + if d > t then d else t) < m * 10 then 190000 / (1 + if d > t then d else t) else m * 10) ∧ (2 + (if 190000 / (1 + if d > t then d else t) < m * 10 then 190000 / (1 + if d > t then d else t) else m * 10)) * (1 + t) ≤ 200000 ∧
    (2 + (if 190000 / (1 + if d > t then d else t) < m * 10 then 190000 / (1 + if d > t then d else t) else m * 10)) * (1 + d) ≤ 200000 := by
  obtain ⟨M, hM, e1, e2, e3, e4⟩ : ∃ M : Int, (if d > t then d else t) = M ∧ 0 ≤ M ∧ M ≤ 3000 ∧ t ≤ M ∧ d ≤ M := by
    refine ⟨_, rfl, ?_⟩; split <;> omega
  rw [hM]
  obtain ⟨r, hr, r0, r1⟩ : ∃ r : Int, 190000 / (1 + M) = r ∧ 63 ≤ r ∧ r * (1 + M) ≤ 190000 := by
    refine ⟨_, rfl, ?_, Int.ediv_mul_le _ (by omega)⟩
    rw [Int.le_ediv_iff_mul_le (by omega)]; omega
  rw [hr]
  obtain ⟨mm, hm, m2, m3⟩ : ∃ mm : Int, (2 + if r < m * 10 then r else m * 10) = mm ∧ 3 ≤ mm ∧ mm ≤ 2 + r := by
    refine ⟨_, rfl, ?_⟩; split <;> omega
  rw [hm]
  have g : ∀ x : Int, 0 ≤ x → x ≤ M → mm * (1 + x) ≤ 200000 := fun x x0 x1 => by
    have a1 : mm * (1 + x) ≤ (2 + r) * (1 + x) := Int.mul_le_mul_of_nonneg_right m3 (by omega)
    have a2 : (2 + r) * (1 + x) ≤ (2 + r) * (1 + M) := Int.mul_le_mul_of_nonneg_left (by omega) (by omega)
    have a3 : (2 + r) * (1 + M) = 2 * (1 + M) + r * (1 + M) := Int.add_mul _ _ _
    omega
  exact ⟨m2, g t t0 e3, g d d0 e4⟩
theorem flat_one (n : Nat) (x : V) : (List.replicate n [x]).flatten = List.replicate n x := by
  induction n with
  | zero => rfl
  | succ n ih => rw [List.replicate_succ, List.flatten_cons, ih]; rfl
theorem sum_rep (n a : Nat) : (List.replicate n a).sum = n * a := by
  induction n with
  | zero => simp
  | succ n ih => rw [List.replicate_succ, List.sum_cons, ih, Nat.succ_mul]; omega
theorem S_nlp : Str.ofString "\n)" = SX.S [10, 41] := by decide +kernel
theorem S_nl : Str.ofString "\n" = SX.S [10] := by decide +kernel
theorem S_cat3 (a b c : List Nat) : SX.S a ++ SX.S b ++ SX.S c = SX.S (a ++ b ++ c) := by
  have h1 : SX.S a ++ SX.S b = SX.S (a ++ b) := SX.S_cat _ _
  have h2 : SX.S (a ++ b) ++ SX.S c = SX.S (a ++ b ++ c) := SX.S_cat _ _
  rw [h1, h2]
def spDeep : Sp := fun vs H Q _ => ∃ (b : Addr) (t d : List Nat), vs = [.ref b, .str (SX.S t), .str (SX.S d)] ∧ BoxAt H b ∧ Hand t d 3000 ∧
  ∀ (r : Addr) (t' d' : List Nat) (H' : Hp), H' r = some (.lst [.str (SX.S t'), .str (SX.S d')]) → Hand t' d' 500000 → BoxAt H' b → Kp [b] H H' → Q (.ref r) H'
theorem ok_law_deep (T : Txt K mg) : FnOk P w K mg base CX0 2 T.a_law_deep T.d_law_deep ["box", "told", "dressed"] spDeep := by
  refine T.law_deep.fn.ok sc_law_deep (fun vs H Q E h => ?_) (fun cdv A outer s H vs Q E hr h => ?_)
  · obtain ⟨b, t, d, rfl, _⟩ := h
    rfl
  · obtain ⟨b, t, d, rfl, hb, hand, k⟩ := h
    have fin : ∀ (sz : Int) (t' d' : List Nat) (o4 o5 o6 o7 o8 o9 o10 : Option V) (H4 : Hp), Hand t' d' 250000 → BoxAt H4 b → Kp [b] H H4 →
        (tSeq (tIfS (tTest (tOp rEq (tVar 3) (tC (V.int 15)))) (tAsg (tOp (fun x y H Q => ∃ i j, x = V.str i ∧ y = V.str j ∧ i.length + j.length ≤ sizeLine ∧ Q (V.str (i ++ j)) H) (tVar 2) (tOp (fun x y H Q => ∃ i n, x = V.str i ∧ y = V.int n ∧ n < 2 ^ 24 ∧ -2 ^ 24 < n ∧ (0 ≤ n → ↑i.length * n ≤ 2 ^ 24) ∧ Q (V.str (Txt.mul i n)) H) (tC (V.str (Str.ofString " "))) (tOp (rI0 fun i j => V.int (i - j)) (tC (V.int 200000)) (tCB (fun xs H Q => ∃ z, xs = [V.str z] ∧ z.length ≤ sizeLine ∧ Q (V.int ↑z.length) H) (tCons (tVar 2) tNil))))) (gName 2)) tNext) (tRet (tLst (tCons (tVar 1) (tCons (tVar 2) tNil))))) { nx := fun x H' => Q V.non H', rt := Q } [some (.ref b), some (.str (SX.S t')), some (.str (SX.S d')), some (.int sz), o4, o5, o6, o7, o8, o9, o10] H4 := by
      intro sz t' d' o4 o5 o6 o7 o8 o9 o10 H4 hand' hb4 K4
      obtain ⟨⟨x, px, cx, dx⟩, l1, l2⟩ := hand'
      have zd : (SX.S d').length = d'.length := SX.S_len d'
      walk_at "w"
      refine iteD (fun h1 => ?_) (fun h1 => ?_)
      · walk_at "w"
        rw [zd]
        refine ⟨SX.S [32], _, by rw [← S_space], rfl, by omega, by omega, fun _ => by rw [SX.S_len]; simp; omega, ?_⟩
        rw [mul_S]
        have bl := repL_len (200000 - (d'.length : Int)).toNat [32]
        refine ⟨_, _, rfl, rfl, by rw [zd, SX.S_len, bl]; show _ ≤ 16777216; simp; omega, ?_⟩
        rw [SX.S_cat]
        walk_at "w"
        refine ⟨(show 2 ≤ sizeLine by decide), fun p9 n9 => ?_⟩
        refine k p9 t' _ _ upd_same ⟨⟨x, px, cx, ?_⟩, by omega, by rw [List.length_append, bl]; simp; omega⟩ (hb4.new n9) (K4.new' n9)
        simpa using dx.around (g := []) rfl (blanks_all _)
      · walk_at "w"
        refine ⟨(show 2 ≤ sizeLine by decide), fun p9 n9 => ?_⟩
        exact k p9 t' d' _ upd_same ⟨⟨x, px, cx, dx⟩, by omega, by omega⟩ (hb4.new n9) (K4.new' n9)
    have main : ∀ (sz way m : Int) (H3 : Hp), 0 ≤ way → way < 5 → 1 ≤ m → m ≤ 20000 → BoxAt H3 b → Kp [b] H H3 →
        (tSeq (tIfS (tTest (tOp rEq (tVar 4) (tC (V.int 4)))) (tSeq (tAsg (tOp (rI CDiv fun i j => V.int (i / j)) (tC (V.int 190000)) (tOp (rI0 fun i j => V.int (i + j)) (tC (V.int 1)) (tCB (fun xs H Q => ∃ i j, xs = [V.int i, V.int j] ∧ Q (V.int (if j > i then j else i)) H) (tCons (tCB (fun xs H Q => ∃ z, xs = [V.str z] ∧ z.length ≤ sizeLine ∧ Q (V.int ↑z.length) H) (tCons (tVar 1) tNil)) (tCons (tCB (fun xs H Q => ∃ z, xs = [V.str z] ∧ z.length ≤ sizeLine ∧ Q (V.int ↑z.length) H) (tCons (tVar 2) tNil)) tNil))))) (gName 6)) (tSeq (tAsg (tOp (rI0 fun i j => V.int (i + j)) (tC (V.int 2)) (tCB (fun xs H Q => ∃ i j, xs = [V.int i, V.int j] ∧ Q (V.int (if j < i then j else i)) H) (tCons (tOp (rI CMul fun i j => V.int (i * j)) (tVar 5) (tC (V.int 10))) (tCons (tVar 6) tNil)))) (gName 5)) (tSeq (tAsg (tOp (fun x y H Q => ∃ i j, x = V.str i ∧ y = V.str j ∧ i.length + j.length ≤ sizeLine ∧ Q (V.str (i ++ j)) H) (tOp (fun x y H Q => ∃ i j, x = V.str i ∧ y = V.str j ∧ i.length + j.length ≤ sizeLine ∧ Q (V.str (i ++ j)) H) (tC (V.str (Str.ofString "("))) (tM1 (fun x xs H Q => ∃ a p ys, x = V.str a ∧ xs = [V.ref p] ∧ (SqL K H p (List.map V.str ys) ∨ SqT K H p (List.map V.str ys)) ∧ (List.map (fun x => x.length) ys).sum + ys.length * a.length ≤ 16777216 ∧ Q (V.str (Txt.join a ys)) H) (tC (V.str (Str.ofString " "))) (tOp rRep (tLst (tCons (tVar 1) tNil)) (tVar 5)))) (tC (V.str (Str.ofString ")")))) (gName 1)) (tAsg (tOp (fun x y H Q => ∃ i j, x = V.str i ∧ y = V.str j ∧ i.length + j.length ≤ sizeLine ∧ Q (V.str (i ++ j)) H) (tOp (fun x y H Q => ∃ i j, x = V.str i ∧ y = V.str j ∧ i.length + j.length ≤ sizeLine ∧ Q (V.str (i ++ j)) H) (tC (V.str (Str.ofString "("))) (tM1 (fun x xs H Q => ∃ a p ys, x = V.str a ∧ xs = [V.ref p] ∧ (SqL K H p (List.map V.str ys) ∨ SqT K H p (List.map V.str ys)) ∧ (List.map (fun x => x.length) ys).sum + ys.length * a.length ≤ 16777216 ∧ Q (V.str (Txt.join a ys)) H) (tC (V.str (Str.ofString "\n"))) (tOp rRep (tLst (tCons (tVar 2) tNil)) (tVar 5)))) (tC (V.str (Str.ofString "\n)")))) (gName 2))))) (tSeq (tAsg (tOp (rIxL K) (tLst (tCons (tC (V.str (Str.ofString "("))) (tCons (tC (V.str (Str.ofString "'"))) (tCons (tC (V.str (Str.ofString "'"))) (tCons (tC (V.str (Str.ofString "(a "))) tNil))))) (tVar 4)) (gName 7)) (tSeq (tAsg (tOp (rIxL K) (tLst (tCons (tC (V.str (Str.ofString ")"))) (tCons (tC (V.str (Str.ofString ""))) (tCons (tC (V.str (Str.ofString ""))) (tCons (tC (V.str (Str.ofString ")"))) tNil))))) (tVar 4)) (gName 8)) (tSeq (tAsg (tOp (rIxL K) (tLst (tCons (tC (V.str (Str.ofString "("))) (tCons (tC (V.str (Str.ofString "'"))) (tCons (tC (V.str (Str.ofString "(quote "))) (tCons (tC (V.str (Str.ofString "(a\n"))) tNil))))) (tVar 4)) (gName 9)) (tSeq (tAsg (tOp (rIxL K) (tLst (tCons (tC (V.str (Str.ofString ")"))) (tCons (tC (V.str (Str.ofString ""))) (tCons (tC (V.str (Str.ofString ")"))) (tCons (tC (V.str (Str.ofString ")"))) tNil))))) (tVar 4)) (gName 10)) (tSeq (tAsg (tOp (fun x y H Q => ∃ i j, x = V.str i ∧ y = V.str j ∧ i.length + j.length ≤ sizeLine ∧ Q (V.str (i ++ j)) H) (tOp (fun x y H Q => ∃ i j, x = V.str i ∧ y = V.str j ∧ i.length + j.length ≤ sizeLine ∧ Q (V.str (i ++ j)) H) (tOp (fun x y H Q => ∃ i n, x = V.str i ∧ y = V.int n ∧ n < 2 ^ 24 ∧ -2 ^ 24 < n ∧ (0 ≤ n → ↑i.length * n ≤ 2 ^ 24) ∧ Q (V.str (Txt.mul i n)) H) (tVar 7) (tVar 5)) (tVar 1)) (tOp (fun x y H Q => ∃ i n, x = V.str i ∧ y = V.int n ∧ n < 2 ^ 24 ∧ -2 ^ 24 < n ∧ (0 ≤ n → ↑i.length * n ≤ 2 ^ 24) ∧ Q (V.str (Txt.mul i n)) H) (tVar 8) (tVar 5))) (gName 1)) (tAsg (tOp (fun x y H Q => ∃ i j, x = V.str i ∧ y = V.str j ∧ i.length + j.length ≤ sizeLine ∧ Q (V.str (i ++ j)) H) (tOp (fun x y H Q => ∃ i j, x = V.str i ∧ y = V.str j ∧ i.length + j.length ≤ sizeLine ∧ Q (V.str (i ++ j)) H) (tOp (fun x y H Q => ∃ i n, x = V.str i ∧ y = V.int n ∧ n < 2 ^ 24 ∧ -2 ^ 24 < n ∧ (0 ≤ n → ↑i.length * n ≤ 2 ^ 24) ∧ Q (V.str (Txt.mul i n)) H) (tVar 9) (tVar 5)) (tVar 2)) (tOp (fun x y H Q => ∃ i n, x = V.str i ∧ y = V.int n ∧ n < 2 ^ 24 ∧ -2 ^ 24 < n ∧ (0 ≤ n → ↑i.length * n ≤ 2 ^ 24) ∧ Q (V.str (Txt.mul i n)) H) (tVar 10) (tVar 5))) (gName 2)))))))) (tSeq (tIfS (tTest (tOp rEq (tVar 3) (tC (V.int 15)))) (tAsg (tOp (fun x y H Q => ∃ i j, x = V.str i ∧ y = V.str j ∧ i.length + j.length ≤ sizeLine ∧ Q (V.str (i ++ j)) H) (tVar 2) (tOp (fun x y H Q => ∃ i n, x = V.str i ∧ y = V.int n ∧ n < 2 ^ 24 ∧ -2 ^ 24 < n ∧ (0 ≤ n → ↑i.length * n ≤ 2 ^ 24) ∧ Q (V.str (Txt.mul i n)) H) (tC (V.str (Str.ofString " "))) (tOp (rI0 fun i j => V.int (i - j)) (tC (V.int 200000)) (tCB (fun xs H Q => ∃ z, xs = [V.str z] ∧ z.length ≤ sizeLine ∧ Q (V.int ↑z.length) H) (tCons (tVar 2) tNil))))) (gName 2)) tNext) (tRet (tLst (tCons (tVar 1) (tCons (tVar 2) tNil)))))) { nx := fun x H' => Q V.non H', rt := Q } [some (.ref b), some (.str (SX.S t)), some (.str (SX.S d)), some (.int sz), some (.int way), some (.int m), none, none, none, none, none] H3 := by
      intro sz way m H3 w0 w1 m0 m1 hb3 K3
      obtain ⟨⟨x, px, cx, dx⟩, l1, l2⟩ := hand
      have zt : (SX.S t).length = t.length := SX.S_len t
      have zd : (SX.S d).length = d.length := SX.S_len d
      walk_at "w"
      refine iteD (fun h1 => ?_) (fun h1 => ?_)
      · walk_at "w"
        have R := room_ok (t := t.length) (d := d.length) (m := m) (by omega) (by omega) (by omega) (by omega) m0
        dsimp only
        rw [zt, zd]
        generalize (2 + if 190000 / (1 + if (d.length : Int) > t.length then (d.length : Int) else t.length) < m * 10 then 190000 / (1 + if (d.length : Int) > t.length then (d.length : Int) else t.length) else m * 10) = mm at R ⊢
        obtain ⟨r3, r4, r5⟩ := R
        obtain ⟨mn, rfl⟩ := Int.eq_ofNat_of_zero_le (show 0 ≤ mm by omega)
        have r4' : mn * (1 + t.length) ≤ 200000 := Int.ofNat_le.mp (by rw [Int.natCast_mul, Int.natCast_add]; exact r4)
        have r5' : mn * (1 + d.length) ≤ 200000 := Int.ofNat_le.mp (by rw [Int.natCast_mul, Int.natCast_add]; exact r5)
        have r6 : mn ≤ 200000 := Nat.le_trans (Nat.le_mul_of_pos_right mn (by omega)) r4'
        rw [Nat.mul_add, Nat.mul_one] at r4' r5'
        have jt := joinL_rep_len [32] t rfl mn
        have jd := joinL_rep_len [10] d rfl mn
        rw [Nat.mul_add, Nat.mul_one] at jt jd
        walk_at "w"
        refine ⟨(show 1 ≤ sizeLine by decide), fun p5 n5 => ?_⟩
        walk_at "w"
        refine ⟨p5, (mn : Int), _, rfl, rfl, upd_same, by omega, by omega, by show 1 * _ ≤ 16777216; omega, fun p6 n6 => ?_⟩
        rw [Int.toNat_natCast, flat_one]
        refine ⟨_, _, List.replicate mn (SX.S t), rfl, rfl, .inl (SqL.of (by rw [List.map_replicate]; exact upd_same)), ?_, ?_⟩
        · rw [List.map_replicate, sum_rep, List.length_replicate, zt, show (Str.ofString " ").length = 1 from by decide +kernel]
          omega
        have e1 : Txt.join (Str.ofString " ") (List.replicate mn (SX.S t)) = SX.S (TL.joinL [32] (List.replicate mn t)) := by
          rw [← List.map_replicate, S_space, SX.join_S]
        rw [e1]
        refine ⟨_, _, rfl, rfl, by rw [S_lp, SX.S_len, SX.S_len]; show _ ≤ 16777216; simp; omega, ?_⟩
        refine ⟨_, _, rfl, rfl, by rw [S_lp, S_rp, SX.S_cat, SX.S_len, SX.S_len]; show _ ≤ 16777216; simp; omega, ?_⟩
        rw [S_lp, S_rp, S_cat3]
        walk_at "w"
        refine ⟨(show 1 ≤ sizeLine by decide), fun p7 n7 => ?_⟩
        walk_at "w"
        refine ⟨p7, (mn : Int), _, rfl, rfl, upd_same, by omega, by omega, by show 1 * _ ≤ 16777216; omega, fun p8 n8 => ?_⟩
        rw [Int.toNat_natCast, flat_one]
        refine ⟨_, _, List.replicate mn (SX.S d), rfl, rfl, .inl (SqL.of (by rw [List.map_replicate]; exact upd_same)), ?_, ?_⟩
        · rw [List.map_replicate, sum_rep, List.length_replicate, zd, show (Str.ofString "\n").length = 1 from by decide +kernel]
          omega
        have e2 : Txt.join (Str.ofString "\n") (List.replicate mn (SX.S d)) = SX.S (TL.joinL [10] (List.replicate mn d)) := by
          rw [← List.map_replicate, S_nl, SX.join_S]
        rw [e2]
        refine ⟨_, _, rfl, rfl, by rw [SX.S_len, SX.S_len]; show _ ≤ 16777216; simp; omega, ?_⟩
        refine ⟨_, _, rfl, rfl, by rw [S_nlp, SX.S_cat, SX.S_len, SX.S_len]; show _ ≤ 16777216; simp; omega, ?_⟩
        rw [S_nlp, S_cat3]
        refine fin sz _ _ _ _ _ _ _ _ _ _ ⟨⟨mkl (List.replicate mn x), mkl_Pr (fun u hu => by rw [List.eq_of_mem_replicate hu]; exact px), by rw [can_many (by omega), cx], Dr_many dx (by omega)⟩, by simp; omega, by simp; omega⟩
          ((((hb3.new n5).new n6).new n7).new n8) ((((K3.new' n5).new' n6).new' n7).new' n8)
      · have two : ∀ (f : Tr → Tr) (p q p' q' : List Nat) (H4 : Hp), Wrap f p q p' q' → p.length ≤ 7 → q.length ≤ 1 → p'.length ≤ 7 → q'.length ≤ 1 → BoxAt H4 b → Kp [b] H H4 →
            (tSeq (tAsg (tOp (fun x y H Q => ∃ i j, x = V.str i ∧ y = V.str j ∧ i.length + j.length ≤ sizeLine ∧ Q (V.str (i ++ j)) H) (tOp (fun x y H Q => ∃ i j, x = V.str i ∧ y = V.str j ∧ i.length + j.length ≤ sizeLine ∧ Q (V.str (i ++ j)) H) (tOp (fun x y H Q => ∃ i n, x = V.str i ∧ y = V.int n ∧ n < 2 ^ 24 ∧ -2 ^ 24 < n ∧ (0 ≤ n → ↑i.length * n ≤ 2 ^ 24) ∧ Q (V.str (Txt.mul i n)) H) (tVar 7) (tVar 5)) (tVar 1)) (tOp (fun x y H Q => ∃ i n, x = V.str i ∧ y = V.int n ∧ n < 2 ^ 24 ∧ -2 ^ 24 < n ∧ (0 ≤ n → ↑i.length * n ≤ 2 ^ 24) ∧ Q (V.str (Txt.mul i n)) H) (tVar 8) (tVar 5))) (gName 1)) (tAsg (tOp (fun x y H Q => ∃ i j, x = V.str i ∧ y = V.str j ∧ i.length + j.length ≤ sizeLine ∧ Q (V.str (i ++ j)) H) (tOp (fun x y H Q => ∃ i j, x = V.str i ∧ y = V.str j ∧ i.length + j.length ≤ sizeLine ∧ Q (V.str (i ++ j)) H) (tOp (fun x y H Q => ∃ i n, x = V.str i ∧ y = V.int n ∧ n < 2 ^ 24 ∧ -2 ^ 24 < n ∧ (0 ≤ n → ↑i.length * n ≤ 2 ^ 24) ∧ Q (V.str (Txt.mul i n)) H) (tVar 9) (tVar 5)) (tVar 2)) (tOp (fun x y H Q => ∃ i n, x = V.str i ∧ y = V.int n ∧ n < 2 ^ 24 ∧ -2 ^ 24 < n ∧ (0 ≤ n → ↑i.length * n ≤ 2 ^ 24) ∧ Q (V.str (Txt.mul i n)) H) (tVar 10) (tVar 5))) (gName 2))) { nx := (tSeq (tIfS (tTest (tOp rEq (tVar 3) (tC (V.int 15)))) (tAsg (tOp (fun x y H Q => ∃ i j, x = V.str i ∧ y = V.str j ∧ i.length + j.length ≤ sizeLine ∧ Q (V.str (i ++ j)) H) (tVar 2) (tOp (fun x y H Q => ∃ i n, x = V.str i ∧ y = V.int n ∧ n < 2 ^ 24 ∧ -2 ^ 24 < n ∧ (0 ≤ n → ↑i.length * n ≤ 2 ^ 24) ∧ Q (V.str (Txt.mul i n)) H) (tC (V.str (Str.ofString " "))) (tOp (rI0 fun i j => V.int (i - j)) (tC (V.int 200000)) (tCB (fun xs H Q => ∃ z, xs = [V.str z] ∧ z.length ≤ sizeLine ∧ Q (V.int ↑z.length) H) (tCons (tVar 2) tNil))))) (gName 2)) tNext) (tRet (tLst (tCons (tVar 1) (tCons (tVar 2) tNil))))) { nx := fun x H' => Q V.non H', rt := Q }, rt := Q } [some (.ref b), some (.str (SX.S t)), some (.str (SX.S d)), some (.int sz), some (.int way), some (.int m), none, some (.str (SX.S p)), some (.str (SX.S q)), some (.str (SX.S p')), some (.str (SX.S q'))] H4 := by
          intro f p q p' q' H4 W lp lq lp' lq' hb4 K4
          obtain ⟨mn, rfl⟩ := Int.eq_ofNat_of_zero_le (show 0 ≤ m by omega)
          have hmn : mn ≤ 20000 := by omega
          have pl : ∀ z : List Nat, z.length ≤ 7 → (0 ≤ (mn : Int) → ((SX.S z).length : Int) * (mn : Int) ≤ 2 ^ 24) ∧ (repL mn z).length ≤ 140000 := fun z hz => by
            have h1 : z.length * mn ≤ 7 * 20000 := Nat.mul_le_mul hz hmn
            refine ⟨fun _ => ?_, by rw [repL_len, Nat.mul_comm]; exact h1⟩
            rw [SX.S_len, ← Int.natCast_mul]; omega
          obtain ⟨P1, P2⟩ := pl p lp
          obtain ⟨Q1, Q2⟩ := pl q (by omega)
          obtain ⟨P3, P4⟩ := pl p' lp'
          obtain ⟨Q3, Q4⟩ := pl q' (by omega)
          have ql : ∀ z : List Nat, z.length ≤ 1 → (repL mn z).length ≤ 20000 := fun z hz => by
            have h1 : z.length * mn ≤ 1 * 20000 := Nat.mul_le_mul hz hmn
            rw [repL_len, Nat.mul_comm]; omega
          have Q5 := ql q lq
          have Q6 := ql q' lq'
          obtain ⟨w1, w2, w3⟩ := W.many mn px dx
          rw [cx] at w2
          walk_at "w"
          refine ⟨_, _, rfl, rfl, by omega, by omega, P1, ?_⟩
          rw [mul_S, Int.toNat_natCast]
          walk_at "w"
          refine ⟨by rw [SX.S_len, SX.S_len]; show _ ≤ 16777216; omega, ?_⟩
          walk_at "w"
          refine ⟨_, _, rfl, rfl, by omega, by omega, Q1, ?_⟩
          rw [mul_S, Int.toNat_natCast]
          refine ⟨_, _, rfl, rfl, by rw [SX.S_cat, SX.S_len, SX.S_len, List.length_append]; show _ ≤ 16777216; omega, ?_⟩
          rw [S_cat3]
          walk_at "w"
          refine ⟨_, _, rfl, rfl, by omega, by omega, P3, ?_⟩
          rw [mul_S, Int.toNat_natCast]
          walk_at "w"
          refine ⟨by rw [SX.S_len, SX.S_len]; show _ ≤ 16777216; omega, ?_⟩
          walk_at "w"
          refine ⟨_, _, rfl, rfl, by omega, by omega, Q3, ?_⟩
          rw [mul_S, Int.toNat_natCast]
          refine ⟨_, _, rfl, rfl, by rw [SX.S_cat, SX.S_len, SX.S_len, List.length_append]; show _ ≤ 16777216; omega, ?_⟩
          rw [S_cat3]
          exact fin sz _ _ _ _ _ _ _ _ _ H4 ⟨⟨_, w1, w2, w3⟩, by rw [List.length_append, List.length_append]; omega, by rw [List.length_append, List.length_append]; omega⟩ hb4 K4
        have w4 : way = 0 ∨ way = 1 ∨ way = 2 ∨ way = 3 := by
          have : way ≠ 4 := fun q => h1 (by rw [q])
          omega
        rcases w4 with rfl | rfl | rfl | rfl
        · walk_at "w"
          refine ⟨(show 4 ≤ sizeLine by decide), fun p3 n3 => ?_⟩
          generalize e4 : upd H3 p3 _ = H4
          obtain ⟨K4, k4, h4⟩ := newL K3 n3 e4
          walk_at "w"
          refine ⟨(show 4 ≤ sizeLine by decide), fun p4 n4 => ?_⟩
          generalize e5 : upd H4 p4 _ = H5
          obtain ⟨K5, k5, h5⟩ := newL K4 n4 e5
          walk_at "w"
          refine ⟨(show 4 ≤ sizeLine by decide), fun p5 n5 => ?_⟩
          generalize e6 : upd H5 p5 _ = H6
          obtain ⟨K6, k6, h6⟩ := newL K5 n5 e6
          walk_at "w"
          refine ⟨(show 4 ≤ sizeLine by decide), fun p6 n6 => ?_⟩
          generalize e7 : upd H6 p6 _ = H7
          obtain ⟨K7, k7, h7⟩ := newL K6 n6 e7
          have fi := two _ [40] [41] [40] [41] H7 wrap0 (by decide) (by decide) (by decide) (by decide) (hb3.kp (((k4.trans k5).trans k6).trans k7)) K7
          rw [show SX.S [40] = Str.ofString "(" from by decide +kernel, show SX.S [41] = Str.ofString ")" from by decide +kernel] at fi
          refine ⟨_, rfl, _, _, _, _, rfl, rfl, SqL.of h7, rfl, ?_⟩
          exact fi
        · walk_at "w"
          refine ⟨(show 4 ≤ sizeLine by decide), fun p3 n3 => ?_⟩
          generalize e4 : upd H3 p3 _ = H4
          obtain ⟨K4, k4, h4⟩ := newL K3 n3 e4
          walk_at "w"
          refine ⟨(show 4 ≤ sizeLine by decide), fun p4 n4 => ?_⟩
          generalize e5 : upd H4 p4 _ = H5
          obtain ⟨K5, k5, h5⟩ := newL K4 n4 e5
          walk_at "w"
          refine ⟨(show 4 ≤ sizeLine by decide), fun p5 n5 => ?_⟩
          generalize e6 : upd H5 p5 _ = H6
          obtain ⟨K6, k6, h6⟩ := newL K5 n5 e6
          walk_at "w"
          refine ⟨(show 4 ≤ sizeLine by decide), fun p6 n6 => ?_⟩
          generalize e7 : upd H6 p6 _ = H7
          obtain ⟨K7, k7, h7⟩ := newL K6 n6 e7
          have fi := two _ [39] [] [39] [] H7 wrap1 (by decide) (by decide) (by decide) (by decide) (hb3.kp (((k4.trans k5).trans k6).trans k7)) K7
          rw [show SX.S [39] = Str.ofString "'" from by decide +kernel, show SX.S [] = Str.ofString "" from by decide +kernel] at fi
          refine ⟨_, rfl, _, _, _, _, rfl, rfl, SqL.of h7, rfl, ?_⟩
          exact fi
        · walk_at "w"
          refine ⟨(show 4 ≤ sizeLine by decide), fun p3 n3 => ?_⟩
          generalize e4 : upd H3 p3 _ = H4
          obtain ⟨K4, k4, h4⟩ := newL K3 n3 e4
          walk_at "w"
          refine ⟨(show 4 ≤ sizeLine by decide), fun p4 n4 => ?_⟩
          generalize e5 : upd H4 p4 _ = H5
          obtain ⟨K5, k5, h5⟩ := newL K4 n4 e5
          walk_at "w"
          refine ⟨(show 4 ≤ sizeLine by decide), fun p5 n5 => ?_⟩
          generalize e6 : upd H5 p5 _ = H6
          obtain ⟨K6, k6, h6⟩ := newL K5 n5 e6
          walk_at "w"
          refine ⟨(show 4 ≤ sizeLine by decide), fun p6 n6 => ?_⟩
          generalize e7 : upd H6 p6 _ = H7
          obtain ⟨K7, k7, h7⟩ := newL K6 n6 e7
          have fi := two _ [39] [] [40, 113, 117, 111, 116, 101, 32] [41] H7 wrap2 (by decide) (by decide) (by decide) (by decide) (hb3.kp (((k4.trans k5).trans k6).trans k7)) K7
          rw [show SX.S [39] = Str.ofString "'" from by decide +kernel, show SX.S [] = Str.ofString "" from by decide +kernel, show SX.S [40, 113, 117, 111, 116, 101, 32] = Str.ofString "(quote " from by decide +kernel, show SX.S [41] = Str.ofString ")" from by decide +kernel] at fi
          refine ⟨_, rfl, _, _, _, _, rfl, rfl, SqL.of h7, rfl, ?_⟩
          exact fi
        · walk_at "w"
          refine ⟨(show 4 ≤ sizeLine by decide), fun p3 n3 => ?_⟩
          generalize e4 : upd H3 p3 _ = H4
          obtain ⟨K4, k4, h4⟩ := newL K3 n3 e4
          walk_at "w"
          refine ⟨(show 4 ≤ sizeLine by decide), fun p4 n4 => ?_⟩
          generalize e5 : upd H4 p4 _ = H5
          obtain ⟨K5, k5, h5⟩ := newL K4 n4 e5
          walk_at "w"
          refine ⟨(show 4 ≤ sizeLine by decide), fun p5 n5 => ?_⟩
          generalize e6 : upd H5 p5 _ = H6
          obtain ⟨K6, k6, h6⟩ := newL K5 n5 e6
          walk_at "w"
          refine ⟨(show 4 ≤ sizeLine by decide), fun p6 n6 => ?_⟩
          generalize e7 : upd H6 p6 _ = H7
          obtain ⟨K7, k7, h7⟩ := newL K6 n6 e7
          have fi := two _ [40, 97, 32] [41] [40, 97, 10] [41] H7 wrap3 (by decide) (by decide) (by decide) (by decide) (hb3.kp (((k4.trans k5).trans k6).trans k7)) K7
          rw [show SX.S [40, 97, 32] = Str.ofString "(a " from by decide +kernel, show SX.S [41] = Str.ofString ")" from by decide +kernel, show SX.S [40, 97, 10] = Str.ofString "(a\n" from by decide +kernel] at fi
          refine ⟨_, rfl, _, _, _, _, rfl, rfl, SqL.of h7, rfl, ?_⟩
          exact fi
    refine ⟨_, (pss_cons (ps_set (i := 3) sc_law_deep.nd rfl (Or.inl rfl) (pe_call (ok_law_take (P := P) (w := w) (base := base) T) (hr.mono (by decide)) rfl T.law_take.mg T.law_take.fn.kp T.law_take.b .nil pass0 (pa_cons (pv 0) (pa_cons pe_int pa_nil))))
      (pss_cons (ps_set (i := 4) sc_law_deep.nd rfl (Or.inl rfl) (pe_call (ok_law_take (P := P) (w := w) (base := base) T) (hr.mono (by decide)) rfl T.law_take.mg T.law_take.fn.kp T.law_take.b .nil pass0 (pa_cons (pv 0) (pa_cons pe_int pa_nil))))
      (pss_cons (ps_set (i := 5) sc_law_deep.nd rfl (Or.inl rfl) (pe_op op_add pe_int (pe_call (ok_law_take (P := P) (w := w) (base := base) T) (hr.mono (by decide)) rfl T.law_take.mg T.law_take.fn.kp T.law_take.b .nil pass0 (pa_cons (pv 0) (pa_cons pe_int pa_nil)))))
      (pss_cons (ps_if (pt_cmpR op_gt (pv 3) pe_int (nomark _)) (pss_one (ps_ret (pe_lst (pa_cons (pv 1) (pa_cons (pv 2) pa_nil))))) pss_nil)
      (pss_cons (ps_if (pt_cmpR op_lt (pv 3) pe_int (nomark _)) (pss_one (ps_set (i := 5) sc_law_deep.nd rfl (Or.inl rfl) (pe_op op_add pe_int (pe_call (ok_law_take (P := P) (w := w) (base := base) T) (hr.mono (by decide)) rfl T.law_take.mg T.law_take.fn.kp T.law_take.b .nil pass0 (pa_cons (pv 0) (pa_cons pe_int pa_nil)))))) pss_nil)
      (pss_cons (ps_if (pt_cmpR op_eq (pv 3) pe_int (nomark _)) (pss_one (ps_set (i := 5) sc_law_deep.nd rfl (Or.inl rfl) pe_int)) pss_nil)
      (pss_cons (ps_if (pt_cmpR op_eq (pv 4) pe_int (nomark _)) (pss_cons (ps_set (i := 6) sc_law_deep.nd rfl (Or.inl rfl) (pe_op op_fdiv pe_int (pe_op op_add pe_int (pe_callB (call_max2 rfl) (by rfl) T.b_max (by decide +kernel) (pa_cons (pe_callB call_len_str (by rfl) T.b_len (by decide +kernel) (pa_cons (pv 1) pa_nil)) (pa_cons (pe_callB call_len_str (by rfl) T.b_len (by decide +kernel) (pa_cons (pv 2) pa_nil)) pa_nil))))))
      (pss_cons (ps_set (i := 5) sc_law_deep.nd rfl (Or.inl rfl) (pe_op op_add pe_int (pe_callB (call_min2 rfl) (by rfl) T.b_min (by decide +kernel) (pa_cons (pe_op op_mul (pv 5) pe_int) (pa_cons (pv 6) pa_nil)))))
      (pss_cons (ps_set (i := 1) sc_law_deep.nd rfl (Or.inl rfl) (pe_op op_add_str (pe_op op_add_str pe_str (pe_join pe_str (pe_op op_rep (pe_lst (pa_cons (pv 1) pa_nil)) (pv 5)))) pe_str))
      (pss_one (ps_set (i := 2) sc_law_deep.nd rfl (Or.inl rfl) (pe_op op_add_str (pe_op op_add_str pe_str (pe_join pe_str (pe_op op_rep (pe_lst (pa_cons (pv 2) pa_nil)) (pv 5)))) pe_str)))))) (pss_cons (ps_set (i := 7) sc_law_deep.nd rfl (Or.inl rfl) (pe_ix ix_list (pe_lst (pa_cons pe_str (pa_cons pe_str (pa_cons pe_str (pa_cons pe_str pa_nil))))) (pv 4) (fun _ _ => rfl)))
      (pss_cons (ps_set (i := 8) sc_law_deep.nd rfl (Or.inl rfl) (pe_ix ix_list (pe_lst (pa_cons pe_str (pa_cons pe_str (pa_cons pe_str (pa_cons pe_str pa_nil))))) (pv 4) (fun _ _ => rfl)))
      (pss_cons (ps_set (i := 9) sc_law_deep.nd rfl (Or.inl rfl) (pe_ix ix_list (pe_lst (pa_cons pe_str (pa_cons pe_str (pa_cons pe_str (pa_cons pe_str pa_nil))))) (pv 4) (fun _ _ => rfl)))
      (pss_cons (ps_set (i := 10) sc_law_deep.nd rfl (Or.inl rfl) (pe_ix ix_list (pe_lst (pa_cons pe_str (pa_cons pe_str (pa_cons pe_str (pa_cons pe_str pa_nil))))) (pv 4) (fun _ _ => rfl)))
      (pss_cons (ps_set (i := 1) sc_law_deep.nd rfl (Or.inl rfl) (pe_op op_add_str (pe_op op_add_str (pe_op op_mul_str (pv 7) (pv 5)) (pv 1)) (pe_op op_mul_str (pv 8) (pv 5))))
      (pss_one (ps_set (i := 2) sc_law_deep.nd rfl (Or.inl rfl) (pe_op op_add_str (pe_op op_add_str (pe_op op_mul_str (pv 9) (pv 5)) (pv 2)) (pe_op op_mul_str (pv 10) (pv 5)))))))))))
      (pss_cons (ps_if (pt_cmpR op_eq (pv 3) pe_int (nomark _)) (pss_one (ps_set (i := 2) sc_law_deep.nd rfl (Or.inl rfl) (pe_op op_add_str (pv 2) (pe_op op_mul_str pe_str (pe_op op_sub pe_int (pe_callB call_len_str (by rfl) T.b_len (by decide +kernel) (pa_cons (pv 2) pa_nil))))))) pss_nil)
      (pss_one (ps_ret (pe_lst (pa_cons (pv 1) (pa_cons (pv 2) pa_nil))))))))))))), ?_⟩
    try dsimp only [cxOf, Cx.nox]
    walk_at "w"
    refine ⟨by decide, by decide, fun sz H1 a0 a1 hb1 kp1 => ?_⟩
    walk_at "w"
    refine ⟨by decide, by decide, fun way H2 b0 b1 hb2 kp2 => ?_⟩
    walk_at "w"
    refine ⟨by decide, by decide, fun m3 H3 c0 c1 hb3 kp3 => ?_⟩
    have K3 := (kp1.trans kp2).trans kp3
    walk_at "w"
    refine iteD (fun h1 => ?_) (fun h1 => ?_)
    · walk_at "w"
      refine ⟨(show 2 ≤ sizeLine by decide), fun p9 n9 => ?_⟩
      exact k p9 t d _ upd_same (hand.mono (by decide)) (hb3.new n9) (K3.new' n9)
    · walk_at "w"
      refine iteD (fun h2 => ?_) (fun h2 => ?_)
      · walk_at "w"
        refine ⟨by decide, by decide, fun m4 H4 e0 e1 hb4 kp4 => ?_⟩
        walk_at "w"
        refine iteD (fun h3 => ?_) (fun h3 => ?_)
        · exact main sz way 20000 H4 b0 b1 (by omega) (by omega) hb4 (K3.trans kp4)
        · exact main sz way (1 + m4) H4 b0 b1 (by omega) (by omega) hb4 (K3.trans kp4)
      · walk_at "w"
        refine iteD (fun h3 => ?_) (fun h3 => ?_)
        · exact main sz way 20000 H3 b0 b1 (by omega) (by omega) hb3 K3
        · exact main sz way (1 + m3) H3 b0 b1 (by omega) (by omega) hb3 K3
end
end Wh
set_option Elab.async false
set_option linter.all false
set_option maxRecDepth 100000
set_option maxHeartbeats 1000000
/-! The law. -/
namespace Wh
open PySem L2 PySem.Spec PyProof.Rows
local macro_rules | `(tactic| walk_at "ne") => `(tactic| first | with_reducible assumption | (apply Ne.symm; with_reducible assumption))
local macro_rules | `(tactic| walk_at "hp") => `(tactic| first | with_reducible assumption | with_reducible exact upd_same | ((with_reducible refine (upd_ne ?n).trans ?h); (case n => walk_at "ne"); (case h => walk_at "hp")) | ((with_reducible show upd _ _ _ _ = _); exact upd_same))
local macro_rules | `(tactic| walk_at "cond") => `(tactic| first | with_reducible assumption | exact (rfl : (_ : Bool) = true) | ((try dsimp only) <;> first | with_reducible assumption | decide | omega) | exact ⟨by first | decide | omega | decide +kernel, by first | decide | omega | decide +kernel⟩ | decide +kernel | exact .inr ⟨by decide, by decide⟩ | exact .inl ⟨by decide, by decide⟩)
local macro_rules | `(tactic| walk_at "sq") => `(tactic| first | with_reducible assumption | exact SqL.of (by walk_at "hp"))
local macro_rules | `(tactic| walk_at "sz") => `(tactic| first | with_reducible assumption | (show _ ≤ 16777216; omega))
local macro_rules | `(tactic| walk_at "at") => `(tactic| first | with_reducible assumption | exact atI_nat (by with_reducible assumption) | exact atI_nat (j := 0) (rfl : (_ : Option Nat) = some _) | exact atI_nat (by assumption))
local macro_rules | `(tactic| walk_at "w1") => `(tactic| (fail_if_success with_reducible show @ite _ _ _ _ _); first
  | refine ⟨_, rfl, ?_⟩
  | refine ⟨_, _, (rfl : _ = V.int _), (rfl : _ = V.int _), And.intro (by walk_at "cond") ?_⟩
  | refine ⟨_, _, (rfl : _ = V.int _), (rfl : _ = V.int _), ?_⟩
  | refine ⟨_, _, (rfl : _ = V.str _), (rfl : _ = V.str _), And.intro (by walk_at "sz") ?_⟩
  | refine ⟨_, _, (rfl : _ = V.str _), (rfl : _ = V.str _), ?_⟩
  | refine ⟨_, _, _, _, (rfl : _ = V.ref _), (rfl : _ = V.int _), (by walk_at "sq"), rfl, ?_⟩
  | refine ⟨_, _, _, _, (rfl : _ = V.ref _), (rfl : _ = V.int _), (by walk_at "hp"), rfl, ?_⟩
  | refine ⟨Or.inl ⟨rfl, _, (by walk_at "sq")⟩, ?_⟩
  | refine ⟨_, _, _, (rfl : _ = V.ref _), (rfl : (_ : List V) = _), (by walk_at "hp"), (by with_reducible assumption), ?_⟩
  | refine ⟨_, _, (rfl : (_ : List V) = _), Or.inl ((by walk_at "sq")), ?_⟩
  | refine ⟨_, _, _, _, (rfl : _ = V.ref _), (rfl : _ = V.int _), (by walk_at "sq"), (by walk_at "at"), ?_⟩
  | refine ⟨_, _, _, (rfl : _ = V.str _), (rfl : _ = V.int _), (by walk_at "sz"), (by walk_at "at"), ?_⟩
  | refine ⟨_, _, (rfl : (_ : List V) = [V.str _]), SX.int_S (by assumption) (by simp) (by assumption), (by assumption), ?_⟩
  | refine ⟨_, _, (rfl : (_ : List V) = [_, _]), ?_⟩
  | refine ⟨_, _, (rfl : _ = V.ref _), (by walk_at "sq"), ?_⟩
  | refine ⟨(rfl : (_ : Bool) = true), ?_⟩
  | refine ⟨(rfl : (_ : V) = V.non), ?_⟩
  | refine And.intro (by walk_at "sz") ?_
  | refine ⟨⟨_, (rfl : _ = V.str _)⟩, ?_⟩
  | refine ⟨_, (rfl : _ = V.str _), (rfl : (_ : List V) = _), trivial, ?_⟩
  | refine .inl ⟨_, rfl, ?_⟩)
local macro_rules | `(tactic| walk_at "w") => `(tactic| repeat walk_at "w1")
local macro_rules | `(tactic| walk_at "fld") => `(tactic| (fail_if_success with_reducible show @ite _ _ _ _ _); first
  | refine ⟨_, _, _, _, _, (rfl : _ = V.ref _), (by walk_at "hp"), Txt.cl_Heap _, Txt.nf__shapes _, hz_shapes _, ?_⟩
  | refine ⟨_, _, _, _, _, (rfl : _ = V.ref _), (by walk_at "hp"), Txt.cl_Heap _, Txt.nf__faces _, hz_faces _, ?_⟩
  | refine ⟨_, _, _, _, _, (rfl : _ = V.ref _), (by walk_at "hp"), Txt.cl_Heap _, Txt.nf__firsts _, hz_firsts _, ?_⟩
  | refine ⟨_, _, _, _, _, (rfl : _ = V.ref _), (by walk_at "hp"), Txt.cl_Heap _, Txt.nf__seconds _, hz_seconds _, ?_⟩
  | refine ⟨_, _, _, _, _, (rfl : _ = V.ref _), (by walk_at "hp"), Txt.cl_Heap _, Txt.nf__hefts _, hz_hefts _, ?_⟩
  | refine ⟨_, _, _, _, _, (rfl : _ = V.ref _), (by walk_at "hp"), Txt.cl_Heap _, Txt.nf__numbers _, hz_numbers _, ?_⟩
  | refine ⟨_, _, _, _, _, (rfl : _ = V.ref _), (by walk_at "hp"), Txt.cl_Heap _, Txt.nf__names _, hz_names _, ?_⟩
  | refine ⟨_, _, _, _, _, (rfl : _ = V.ref _), (by walk_at "hp"), Txt.cl_Heap _, Txt.nf__pairs _, hz_pairs _, ?_⟩)
local macro_rules | `(tactic| walk_at "wf") => `(tactic| repeat first | walk_at "w1" | walk_at "fld")
section
variable {P : Program} {w : World} {K : PySem.W.Frag} {mg : Str → Option Value} {base : Heap}
theorem sq_kp {F : List Addr} {H H' : Hp} {a : Addr} {xs : List V} (h : SqL K H a xs) (kp : Kp F H H') (n : ∀ x ∈ F, H x = none) : SqL K H' a xs := by
  rcases h with (h | ⟨o, h⟩) | h
  · exact .inl (.inl (kp a _ (fun z => by rw [n a z] at h; cases h) h))
  · exact .inl (.inr ⟨o, kp a _ (fun z => by rw [n a z] at h; cases h) h⟩)
  · exact .inr h
def spLaw (K : PySem.W.Frag) : Sp := fun vs H Q _ => ∃ (a : Addr) (ns : List Int), vs = [.ref a] ∧ SqL K H a (ns.map V.int) ∧ ns.length ≤ 63 ∧ ∀ H', Q (.bl true) H'
theorem ok_law (T : Txt K mg) : FnOk P w K mg base CX0 8 T.a_law T.d_law ["script"] (spLaw K) := by
  refine T.law.fn.ok sc_law (fun vs H Q E h => ?_) (fun cdv A outer s H vs Q E hr h => ?_)
  · obtain ⟨a, ns, rfl, _⟩ := h
    rfl
  · obtain ⟨a, ns, rfl, hS, hlen, k⟩ := h
    refine ⟨_, (pss_cons (ps_set (i := 1) sc_law.nd rfl (Or.inl rfl) (pe_call (ok_law_box (P := P) (w := w) (base := base) T) (hr.mono (by decide)) rfl T.law_box.mg T.law_box.fn.kp T.law_box.b .nil pass0 (pa_cons (pv 0) (pa_cons pe_int pa_nil))))
      (pss_cons (ps_set (i := 2) sc_law.nd rfl (Or.inl rfl) (pe_call (ok_law_value (P := P) (w := w) (base := base) T) (hr.mono (by decide)) rfl T.law_value.mg T.law_value.fn.kp T.law_value.b .nil pass0 (pa_cons (pe_call (ok_law_box (P := P) (w := w) (base := base) T) (hr.mono (by decide)) rfl T.law_box.mg T.law_box.fn.kp T.law_box.b .nil pass0 (pa_cons (pv 0) (pa_cons pe_int pa_nil))) (pa_cons (pv 1) pa_nil))))
      (pss_cons (ps_set (i := 2) sc_law.nd rfl (Or.inl rfl) (pe_call (ok_law_deep (P := P) (w := w) (base := base) T) (hr.mono (by decide)) rfl T.law_deep.mg T.law_deep.fn.kp T.law_deep.b .nil pass0 (pa_cons (pe_call (ok_law_box (P := P) (w := w) (base := base) T) (hr.mono (by decide)) rfl T.law_box.mg T.law_box.fn.kp T.law_box.b .nil pass0 (pa_cons (pv 0) (pa_cons pe_int pa_nil))) (pa_cons (pe_ix ix_list (pv 2) pe_int (fun _ _ => rfl)) (pa_cons (pe_ix ix_list (pv 2) pe_int (fun _ _ => rfl)) pa_nil)))))
      (pss_cons (ps_set (i := 3) sc_law.nd rfl (Or.inl rfl) (pe_ix ix_list (pv 2) pe_int (fun _ _ => rfl)))
      (pss_cons (ps_set (i := 4) sc_law.nd rfl (Or.inl rfl) (pe_ix ix_list (pv 2) pe_int (fun _ _ => rfl)))
      (pss_cons (ps_if (pt_cmpR op_lt (pe_callB call_len_str (by rfl) T.b_len (by decide +kernel) (pa_cons (pv 4) pa_nil)) pe_int (nomark _)) (pss_cons (ps_set (i := 4) sc_law.nd rfl (Or.inl rfl) (pe_op op_add_str (pe_call (ok_law_gap (P := P) (w := w) (base := base) T) (hr.mono (by decide)) rfl T.law_gap.mg T.law_gap.fn.kp T.law_gap.b .nil pass0 (pa_cons (pv 1) (pa_cons pe_str (pa_cons (pv 4) pa_nil)))) (pv 4)))
      (pss_one (ps_set (i := 4) sc_law.nd rfl (Or.inl rfl) (pe_op op_add_str (pv 4) (pe_call (ok_law_gap (P := P) (w := w) (base := base) T) (hr.mono (by decide)) rfl T.law_gap.mg T.law_gap.fn.kp T.law_gap.b .nil pass0 (pa_cons (pv 1) (pa_cons (pv 4) (pa_cons pe_str pa_nil)))))))) pss_nil)
      (pss_cons (ps_set (i := 5) sc_law.nd rfl (Or.inl rfl) (pe_call (ok_plain (P := P) (w := w) (base := base) T) (hr.mono (by decide)) rfl T.plain.mg T.plain.fn.kp T.plain.b .nil pass0 (pa_cons (pv 4) pa_nil)))
      (pss_cons (ps_if (PW.pt (pw_or (pt_not (pt_val (pe_callB call_isi (by rfl) T.b_isinstance (by decide +kernel) (pa_cons (pv 5) (pa_cons (pe_bltn (v := .ty "str") (u := .type "str") (by rfl) T.b_str (by decide +kernel) rfl) pa_nil))))) (pw_or1 (pt_cmpR op_ne (pv 5) (pv 3) (nomark _))))) (pss_one (ps_ret pe_bl)) pss_nil)
      (pss_one (ps_ret (pe_cmpR op_eq (pe_call (ok_plain (P := P) (w := w) (base := base) T) (hr.mono (by decide)) rfl T.plain.mg T.plain.fn.kp T.plain.b .nil pass0 (pa_cons (pv 3) pa_nil)) (pv 3) (nomark _)))))))))))), ?_⟩
    try dsimp only [cxOf, Cx.nox]
    walk_at "w"
    refine ⟨a, ns, 1, rfl, hS, fun e H1 n1 he1 kp1 => ?_⟩
    have hS1 := sq_kp hS kp1 (by simp)
    walk_at "w"
    refine ⟨a, ns, 0, rfl, hS1, fun b H2 n2 hb2 kp2 => ?_⟩
    have nbe : b ≠ e := he1.ne_new n2
    have hS2 := sq_kp hS1 kp2 (by simp)
    have he2 := he1.kp kp2
    walk_at "w"
    intro r t d H3 hr3 hand hb3 he3 kp3
    have K3 : Kp [b, e] H H3 := ((kp1.mono (by simp)).trans (kp2.mono (by simp))).trans kp3
    have hS3 := sq_kp hS K3 (by
      intro x hx
      simp at hx
      rcases hx with rfl | rfl
      · exact kp1.none (by simp) n2
      · exact n1)
    walk_at "w"
    refine ⟨a, ns, 2, rfl, hS3, fun c H4 n4 hc4 kp4 => ?_⟩
    have he4 := he3.kp kp4
    have nce : e ≠ c := fun q => by subst q; exact he3.ne_new n4 rfl
    have hr4 := kp4 r _ (by simp) hr3
    walk_at "w"
    refine ⟨c, t, d, rfl, hc4, hand, fun r2 t2 d2 H5 hr5 hand5 hc5 kp5 => ?_⟩
    have he5 := kp5.box nce he4
    obtain ⟨⟨x, px, cx, dx⟩, l1, l2⟩ := hand5
    have z1 : (SX.S d2).length ≤ sizeLine := by rw [SX.S_len]; show _ ≤ 16777216; omega
    have K5 : Kp [e, c] H3 H5 := (kp4.mono (by simp)).trans (kp5.mono (by simp))
    refine ⟨_, rfl, _, _, _, _, rfl, rfl, SqL.of hr5, rfl, ?_⟩
    refine ⟨_, rfl, _, _, _, _, rfl, rfl, SqL.of hr5, rfl, ?_⟩
    have zt2 : can x = t2 := cx
    have fin : ∀ (d6 : List Nat) (H6 : Hp), Dr x d6 → d6.length ≤ 1000000 → (tSeq (tAsg (tCall spPlain [] E0 (tCons (tVar 4) tNil)) (gName 5))
                (tSeq
                  (tIfS
                    (tOr (tNot (tB (tCB (rIsi K) (tCons (tVar 5) (tCons (tC (V.ty "str")) tNil)))))
                      (tTest (tOp rNe (tVar 5) (tVar 3))))
                    (tRet (tC (V.bl false))) tNext)
                  (tRet (tOp rEq (tCall spPlain [] E0 (tCons (tVar 3) tNil)) (tVar 3)))))
                { nx := fun x H' => Q V.non H', rt := Q } [some (.ref a), some (.ref e), some (.ref r2), some (.str (SX.S t2)), some (.str (SX.S d6)), none] H6 := by
      intro d6 H6 hd6 hl6
      walk_at "w"
      refine ⟨d6, x, rfl, hl6, hd6.rd.run, px, by rw [cx]; omega, fun H7 s7 => ?_⟩
      rw [cx]
      walk_at "w"
      refine ⟨_, _, _, _, true, rfl, .ty _, .base (.str _), L2.kit_ty (by decide +kernel), ?_⟩
      refine ⟨_, (rfl : _ = V.bl _), ?_⟩
      refine iteF ?_
      walk_at "w"
      refine iteNS rfl ?_
      walk_at "w"
      refine ⟨t2, x, rfl, by omega, ?_, px, by rw [cx]; omega, fun H8 s8 => ?_⟩
      · rw [← cx]; exact (can_Dr x px).1.rd.run
      rw [cx]
      walk_at "w"
      rw [decide_eq_true rfl]
      exact k H8
    refine ⟨_, rfl, ?_⟩
    refine ⟨_, rfl, z1, ?_⟩
    refine ⟨_, _, (rfl : _ = V.int _), (rfl : _ = V.int _), ?_⟩
    refine ⟨_, (rfl : _ = V.bl _), ?_⟩
    generalize (decide (((SX.S d2).length : Int) < 199000)) = cb
    refine iteB (fun _ => ?_) (fun _ => ?_)
    · walk_at "w"
      refine ⟨e, [], d2, by rw [S_nil]; rfl, he5, by simp, by omega, by simp, dx.asc, fun g H6 hg hg3 _ he6 kp6 => ?_⟩
      have z2 : (SX.S g).length + (SX.S d2).length ≤ sizeLine := by rw [SX.S_len, SX.S_len]; show _ ≤ 16777216; omega
      have dx6 : Dr x (g ++ d2) := by simpa using dx.around hg (k := []) rfl
      walk_at "w"
      rw [SX.S_cat]
      walk_at "w"
      refine ⟨e, g ++ d2, [], by rw [S_nil]; rfl, he6, by rw [List.length_append]; omega, by simp, dx6.asc, by simp, fun g2 H7 hg2 hg4 _ he7 kp7 => ?_⟩
      have z3 : (SX.S (g ++ d2)).length + (SX.S g2).length ≤ sizeLine := by rw [SX.S_len, SX.S_len, List.length_append]; show _ ≤ 16777216; omega
      refine ⟨_, _, rfl, rfl, z3, ?_⟩
      rw [SX.S_cat]
      exact fin (g ++ d2 ++ g2) H7 (by simpa using dx6.around (g := []) rfl hg2) (by rw [List.length_append, List.length_append]; omega)
    · exact fin d2 H5 dx (by omega)
end
end Wh
set_option Elab.async false
set_option linter.all false
set_option maxRecDepth 100000
set_option maxHeartbeats 4000000
/-! The end. -/
namespace Wh
open PySem L2 PySem.Spec PyProof.Rows
theorem all_mk {l : PySem.W.OpenLaw} {w : World} {K : PySem.W.Frag} {h : Heap} {mg : Str → Option Value} {fa : Addr} (X : K.In h) (G : h.Ns mainGlobals mg) (hfa : mg "law" = some (.ref fa))
    {C_Heap : Addr}
    {f_wall : Addr} {od_wall an_wall : Option Addr} {sl_wall : Array (Option Value)} {oc_wall kV_wall dc_wall pm_wall cd_wall ct_wall : Value}
    {f_Heap__init : Addr} {od_Heap__init an_Heap__init : Option Addr} {sl_Heap__init : Array (Option Value)} {oc_Heap__init kV_Heap__init dc_Heap__init pm_Heap__init cd_Heap__init ct_Heap__init : Value}
    {f_Heap_copy : Addr} {od_Heap_copy an_Heap_copy : Option Addr} {sl_Heap_copy : Array (Option Value)} {oc_Heap_copy kV_Heap_copy dc_Heap_copy pm_Heap_copy cd_Heap_copy ct_Heap_copy : Value}
    {f_Heap_new : Addr} {od_Heap_new an_Heap_new : Option Addr} {sl_Heap_new : Array (Option Value)} {oc_Heap_new kV_Heap_new dc_Heap_new pm_Heap_new cd_Heap_new ct_Heap_new : Value}
    {f_Heap_number : Addr} {od_Heap_number an_Heap_number : Option Addr} {sl_Heap_number : Array (Option Value)} {oc_Heap_number kV_Heap_number dc_Heap_number pm_Heap_number cd_Heap_number ct_Heap_number : Value}
    {f_Heap_name : Addr} {od_Heap_name an_Heap_name : Option Addr} {sl_Heap_name : Array (Option Value)} {oc_Heap_name kV_Heap_name dc_Heap_name pm_Heap_name cd_Heap_name ct_Heap_name : Value}
    {f_Heap_pair : Addr} {od_Heap_pair an_Heap_pair : Option Addr} {sl_Heap_pair : Array (Option Value)} {oc_Heap_pair kV_Heap_pair dc_Heap_pair pm_Heap_pair cd_Heap_pair ct_Heap_pair : Value}
    {f_Heap_shape : Addr} {od_Heap_shape an_Heap_shape : Option Addr} {sl_Heap_shape : Array (Option Value)} {oc_Heap_shape kV_Heap_shape dc_Heap_shape pm_Heap_shape cd_Heap_shape ct_Heap_shape : Value}
    {f_Heap_face : Addr} {od_Heap_face an_Heap_face : Option Addr} {sl_Heap_face : Array (Option Value)} {oc_Heap_face kV_Heap_face dc_Heap_face pm_Heap_face cd_Heap_face ct_Heap_face : Value}
    {f_Heap_first : Addr} {od_Heap_first an_Heap_first : Option Addr} {sl_Heap_first : Array (Option Value)} {oc_Heap_first kV_Heap_first dc_Heap_first pm_Heap_first cd_Heap_first ct_Heap_first : Value}
    {f_Heap_second : Addr} {od_Heap_second an_Heap_second : Option Addr} {sl_Heap_second : Array (Option Value)} {oc_Heap_second kV_Heap_second dc_Heap_second pm_Heap_second cd_Heap_second ct_Heap_second : Value}
    {f_Heap_heft : Addr} {od_Heap_heft an_Heap_heft : Option Addr} {sl_Heap_heft : Array (Option Value)} {oc_Heap_heft kV_Heap_heft dc_Heap_heft pm_Heap_heft cd_Heap_heft ct_Heap_heft : Value}
    {f_Heap_listed : Addr} {od_Heap_listed an_Heap_listed : Option Addr} {sl_Heap_listed : Array (Option Value)} {oc_Heap_listed kV_Heap_listed dc_Heap_listed pm_Heap_listed cd_Heap_listed ct_Heap_listed : Value}
    {f_Heap_spread : Addr} {od_Heap_spread an_Heap_spread : Option Addr} {sl_Heap_spread : Array (Option Value)} {oc_Heap_spread kV_Heap_spread dc_Heap_spread pm_Heap_spread cd_Heap_spread ct_Heap_spread : Value}
    {f_consists_of : Addr} {od_consists_of an_consists_of : Option Addr} {sl_consists_of : Array (Option Value)} {oc_consists_of kV_consists_of dc_consists_of pm_consists_of cd_consists_of ct_consists_of : Value}
    {f_atom : Addr} {od_atom an_atom : Option Addr} {sl_atom : Array (Option Value)} {oc_atom kV_atom dc_atom pm_atom cd_atom ct_atom : Value}
    {f_settle : Addr} {od_settle an_settle : Option Addr} {sl_settle : Array (Option Value)} {oc_settle kV_settle dc_settle pm_settle cd_settle ct_settle : Value}
    {f_take : Addr} {od_take an_take : Option Addr} {sl_take : Array (Option Value)} {oc_take kV_take dc_take pm_take cd_take ct_take : Value}
    {f_end_of_part : Addr} {od_end_of_part an_end_of_part : Option Addr} {sl_end_of_part : Array (Option Value)} {oc_end_of_part kV_end_of_part dc_end_of_part pm_end_of_part cd_end_of_part ct_end_of_part : Value}
    {f_read : Addr} {od_read an_read : Option Addr} {sl_read : Array (Option Value)} {oc_read kV_read dc_read pm_read cd_read ct_read : Value}
    {f_quoted : Addr} {od_quoted an_quoted : Option Addr} {sl_quoted : Array (Option Value)} {oc_quoted kV_quoted dc_quoted pm_quoted cd_quoted ct_quoted : Value}
    {f_write : Addr} {od_write an_write : Option Addr} {sl_write : Array (Option Value)} {oc_write kV_write dc_write pm_write cd_write ct_write : Value}
    {f_put_members : Addr} {od_put_members an_put_members : Option Addr} {sl_put_members : Array (Option Value)} {oc_put_members kV_put_members dc_put_members pm_put_members cd_put_members ct_put_members : Value}
    {f_plain : Addr} {od_plain an_plain : Option Addr} {sl_plain : Array (Option Value)} {oc_plain kV_plain dc_plain pm_plain cd_plain ct_plain : Value}
    {f_law_box : Addr} {od_law_box an_law_box : Option Addr} {sl_law_box : Array (Option Value)} {oc_law_box kV_law_box dc_law_box pm_law_box cd_law_box ct_law_box : Value}
    {f_law_take : Addr} {od_law_take an_law_take : Option Addr} {sl_law_take : Array (Option Value)} {oc_law_take kV_law_take dc_law_take pm_law_take cd_law_take ct_law_take : Value}
    {f_law_word : Addr} {od_law_word an_law_word : Option Addr} {sl_law_word : Array (Option Value)} {oc_law_word kV_law_word dc_law_word pm_law_word cd_law_word ct_law_word : Value}
    {f_law_gap : Addr} {od_law_gap an_law_gap : Option Addr} {sl_law_gap : Array (Option Value)} {oc_law_gap kV_law_gap dc_law_gap pm_law_gap cd_law_gap ct_law_gap : Value}
    {f_law_listed : Addr} {od_law_listed an_law_listed : Option Addr} {sl_law_listed : Array (Option Value)} {oc_law_listed kV_law_listed dc_law_listed pm_law_listed cd_law_listed ct_law_listed : Value}
    {f_law_dressed : Addr} {od_law_dressed an_law_dressed : Option Addr} {sl_law_dressed : Array (Option Value)} {oc_law_dressed kV_law_dressed dc_law_dressed pm_law_dressed cd_law_dressed ct_law_dressed : Value}
    {f_law_group : Addr} {od_law_group an_law_group : Option Addr} {sl_law_group : Array (Option Value)} {oc_law_group kV_law_group dc_law_group pm_law_group cd_law_group ct_law_group : Value}
    {f_law_value : Addr} {od_law_value an_law_value : Option Addr} {sl_law_value : Array (Option Value)} {oc_law_value kV_law_value dc_law_value pm_law_value cd_law_value ct_law_value : Value}
    {f_law_deep : Addr} {od_law_deep an_law_deep : Option Addr} {sl_law_deep : Array (Option Value)} {oc_law_deep kV_law_deep dc_law_deep pm_law_deep cd_law_deep ct_law_deep : Value}
    {f_law : Addr} {od_law an_law : Option Addr} {sl_law : Array (Option Value)} {oc_law kV_law dc_law pm_law cd_law ct_law : Value}
    {t_NIL : Tok}
    {t_EMPTY : Tok}
    {t_NUMBER : Tok}
    {t_NAME : Tok}
    {t_PAIR : Tok}
    {t_HEAVY : Tok}
    {t_BLANKS : Tok}
    {t_DIGITS : Tok}
    {t_LOWER : Tok}
    {t_NAME_SIGNS : Tok}
    {t_WORD_SIGNS : Tok}
    {t_LONGEST_NUMBER : Tok}
    {t_LONGEST_NAME : Tok}
    (aC_Heap : PySem.W.nsIn K mainGlobals "Heap" = some (some (.ref C_Heap)))
    (pg_Heap : PySem.W.plainGet K C_Heap Str.empty = true)
    (hd_Heap : PySem.W.hasDictIn K C_Heap = true)
    (po_Heap : PySem.W.plainOver K C_Heap = true)
    (sa_Heap : PySem.W.findIn K (.ref C_Heap) "__setattr__" = some (some (.builtin "object.__setattr__")))
    (mk_Heap : PySem.W.makesIn K C_Heap = true)
    (kc_Heap : PySem.W.keepIn K (.ref C_Heap) = true)
    (nf__shapes : PySem.W.findIn K (.ref C_Heap) "_shapes" = some none)
    (nf__faces : PySem.W.findIn K (.ref C_Heap) "_faces" = some none)
    (nf__firsts : PySem.W.findIn K (.ref C_Heap) "_firsts" = some none)
    (nf__seconds : PySem.W.findIn K (.ref C_Heap) "_seconds" = some none)
    (nf__hefts : PySem.W.findIn K (.ref C_Heap) "_hefts" = some none)
    (nf__numbers : PySem.W.findIn K (.ref C_Heap) "_numbers" = some none)
    (nf__names : PySem.W.findIn K (.ref C_Heap) "_names" = some none)
    (nf__pairs : PySem.W.findIn K (.ref C_Heap) "_pairs" = some none)
    (a_wall : PySem.W.nsIn K mainGlobals "_wall" = some (some (.ref f_wall)))
    (l_wall : K.lookup f_wall = some ⟨oc_wall, od_wall, .func (PySem.W.fnOf "_wall" "_wall" (defArgs s_wall) (defBody s_wall) (defScope s_wall) .none kV_wall dc_wall pm_wall an_wall cd_wall ct_wall), sl_wall⟩)
    (c_wall : PySem.W.codeIn K cd_wall "_wall" = true)
    (k_wall : PySem.W.keepIn K (.ref f_wall) = true)
    (a_Heap__init : PySem.W.findIn K (.ref C_Heap) "__init__" = some (some (.ref f_Heap__init)))
    (i_Heap__init : PySem.W.isFn K (.ref f_Heap__init) = true)
    (l_Heap__init : K.lookup f_Heap__init = some ⟨oc_Heap__init, od_Heap__init, .func (PySem.W.fnOf "__init__" "Heap.__init__" (defArgs s_Heap__init) (defBody s_Heap__init) (defScope s_Heap__init) .none kV_Heap__init dc_Heap__init pm_Heap__init an_Heap__init cd_Heap__init ct_Heap__init), sl_Heap__init⟩)
    (c_Heap__init : PySem.W.codeIn K cd_Heap__init "Heap.__init__" = true)
    (k_Heap__init : PySem.W.keepIn K (.ref f_Heap__init) = true)
    (a_Heap_copy : PySem.W.findIn K (.ref C_Heap) "copy" = some (some (.ref f_Heap_copy)))
    (i_Heap_copy : PySem.W.isFn K (.ref f_Heap_copy) = true)
    (l_Heap_copy : K.lookup f_Heap_copy = some ⟨oc_Heap_copy, od_Heap_copy, .func (PySem.W.fnOf "copy" "Heap.copy" (defArgs s_Heap_copy) (defBody s_Heap_copy) (defScope s_Heap_copy) .none kV_Heap_copy dc_Heap_copy pm_Heap_copy an_Heap_copy cd_Heap_copy ct_Heap_copy), sl_Heap_copy⟩)
    (c_Heap_copy : PySem.W.codeIn K cd_Heap_copy "Heap.copy" = true)
    (k_Heap_copy : PySem.W.keepIn K (.ref f_Heap_copy) = true)
    (a_Heap_new : PySem.W.findIn K (.ref C_Heap) "_new" = some (some (.ref f_Heap_new)))
    (i_Heap_new : PySem.W.isFn K (.ref f_Heap_new) = true)
    (l_Heap_new : K.lookup f_Heap_new = some ⟨oc_Heap_new, od_Heap_new, .func (PySem.W.fnOf "_new" "Heap._new" (defArgs s_Heap_new) (defBody s_Heap_new) (defScope s_Heap_new) .none kV_Heap_new dc_Heap_new pm_Heap_new an_Heap_new cd_Heap_new ct_Heap_new), sl_Heap_new⟩)
    (c_Heap_new : PySem.W.codeIn K cd_Heap_new "Heap._new" = true)
    (k_Heap_new : PySem.W.keepIn K (.ref f_Heap_new) = true)
    (a_Heap_number : PySem.W.findIn K (.ref C_Heap) "number" = some (some (.ref f_Heap_number)))
    (i_Heap_number : PySem.W.isFn K (.ref f_Heap_number) = true)
    (l_Heap_number : K.lookup f_Heap_number = some ⟨oc_Heap_number, od_Heap_number, .func (PySem.W.fnOf "number" "Heap.number" (defArgs s_Heap_number) (defBody s_Heap_number) (defScope s_Heap_number) .none kV_Heap_number dc_Heap_number pm_Heap_number an_Heap_number cd_Heap_number ct_Heap_number), sl_Heap_number⟩)
    (c_Heap_number : PySem.W.codeIn K cd_Heap_number "Heap.number" = true)
    (k_Heap_number : PySem.W.keepIn K (.ref f_Heap_number) = true)
    (a_Heap_name : PySem.W.findIn K (.ref C_Heap) "name" = some (some (.ref f_Heap_name)))
    (i_Heap_name : PySem.W.isFn K (.ref f_Heap_name) = true)
    (l_Heap_name : K.lookup f_Heap_name = some ⟨oc_Heap_name, od_Heap_name, .func (PySem.W.fnOf "name" "Heap.name" (defArgs s_Heap_name) (defBody s_Heap_name) (defScope s_Heap_name) .none kV_Heap_name dc_Heap_name pm_Heap_name an_Heap_name cd_Heap_name ct_Heap_name), sl_Heap_name⟩)
    (c_Heap_name : PySem.W.codeIn K cd_Heap_name "Heap.name" = true)
    (k_Heap_name : PySem.W.keepIn K (.ref f_Heap_name) = true)
    (a_Heap_pair : PySem.W.findIn K (.ref C_Heap) "pair" = some (some (.ref f_Heap_pair)))
    (i_Heap_pair : PySem.W.isFn K (.ref f_Heap_pair) = true)
    (l_Heap_pair : K.lookup f_Heap_pair = some ⟨oc_Heap_pair, od_Heap_pair, .func (PySem.W.fnOf "pair" "Heap.pair" (defArgs s_Heap_pair) (defBody s_Heap_pair) (defScope s_Heap_pair) .none kV_Heap_pair dc_Heap_pair pm_Heap_pair an_Heap_pair cd_Heap_pair ct_Heap_pair), sl_Heap_pair⟩)
    (c_Heap_pair : PySem.W.codeIn K cd_Heap_pair "Heap.pair" = true)
    (k_Heap_pair : PySem.W.keepIn K (.ref f_Heap_pair) = true)
    (a_Heap_shape : PySem.W.findIn K (.ref C_Heap) "shape" = some (some (.ref f_Heap_shape)))
    (i_Heap_shape : PySem.W.isFn K (.ref f_Heap_shape) = true)
    (l_Heap_shape : K.lookup f_Heap_shape = some ⟨oc_Heap_shape, od_Heap_shape, .func (PySem.W.fnOf "shape" "Heap.shape" (defArgs s_Heap_shape) (defBody s_Heap_shape) (defScope s_Heap_shape) .none kV_Heap_shape dc_Heap_shape pm_Heap_shape an_Heap_shape cd_Heap_shape ct_Heap_shape), sl_Heap_shape⟩)
    (c_Heap_shape : PySem.W.codeIn K cd_Heap_shape "Heap.shape" = true)
    (k_Heap_shape : PySem.W.keepIn K (.ref f_Heap_shape) = true)
    (a_Heap_face : PySem.W.findIn K (.ref C_Heap) "face" = some (some (.ref f_Heap_face)))
    (i_Heap_face : PySem.W.isFn K (.ref f_Heap_face) = true)
    (l_Heap_face : K.lookup f_Heap_face = some ⟨oc_Heap_face, od_Heap_face, .func (PySem.W.fnOf "face" "Heap.face" (defArgs s_Heap_face) (defBody s_Heap_face) (defScope s_Heap_face) .none kV_Heap_face dc_Heap_face pm_Heap_face an_Heap_face cd_Heap_face ct_Heap_face), sl_Heap_face⟩)
    (c_Heap_face : PySem.W.codeIn K cd_Heap_face "Heap.face" = true)
    (k_Heap_face : PySem.W.keepIn K (.ref f_Heap_face) = true)
    (a_Heap_first : PySem.W.findIn K (.ref C_Heap) "first" = some (some (.ref f_Heap_first)))
    (i_Heap_first : PySem.W.isFn K (.ref f_Heap_first) = true)
    (l_Heap_first : K.lookup f_Heap_first = some ⟨oc_Heap_first, od_Heap_first, .func (PySem.W.fnOf "first" "Heap.first" (defArgs s_Heap_first) (defBody s_Heap_first) (defScope s_Heap_first) .none kV_Heap_first dc_Heap_first pm_Heap_first an_Heap_first cd_Heap_first ct_Heap_first), sl_Heap_first⟩)
    (c_Heap_first : PySem.W.codeIn K cd_Heap_first "Heap.first" = true)
    (k_Heap_first : PySem.W.keepIn K (.ref f_Heap_first) = true)
    (a_Heap_second : PySem.W.findIn K (.ref C_Heap) "second" = some (some (.ref f_Heap_second)))
    (i_Heap_second : PySem.W.isFn K (.ref f_Heap_second) = true)
    (l_Heap_second : K.lookup f_Heap_second = some ⟨oc_Heap_second, od_Heap_second, .func (PySem.W.fnOf "second" "Heap.second" (defArgs s_Heap_second) (defBody s_Heap_second) (defScope s_Heap_second) .none kV_Heap_second dc_Heap_second pm_Heap_second an_Heap_second cd_Heap_second ct_Heap_second), sl_Heap_second⟩)
    (c_Heap_second : PySem.W.codeIn K cd_Heap_second "Heap.second" = true)
    (k_Heap_second : PySem.W.keepIn K (.ref f_Heap_second) = true)
    (a_Heap_heft : PySem.W.findIn K (.ref C_Heap) "heft" = some (some (.ref f_Heap_heft)))
    (i_Heap_heft : PySem.W.isFn K (.ref f_Heap_heft) = true)
    (l_Heap_heft : K.lookup f_Heap_heft = some ⟨oc_Heap_heft, od_Heap_heft, .func (PySem.W.fnOf "heft" "Heap.heft" (defArgs s_Heap_heft) (defBody s_Heap_heft) (defScope s_Heap_heft) .none kV_Heap_heft dc_Heap_heft pm_Heap_heft an_Heap_heft cd_Heap_heft ct_Heap_heft), sl_Heap_heft⟩)
    (c_Heap_heft : PySem.W.codeIn K cd_Heap_heft "Heap.heft" = true)
    (k_Heap_heft : PySem.W.keepIn K (.ref f_Heap_heft) = true)
    (a_Heap_listed : PySem.W.findIn K (.ref C_Heap) "listed" = some (some (.ref f_Heap_listed)))
    (i_Heap_listed : PySem.W.isFn K (.ref f_Heap_listed) = true)
    (l_Heap_listed : K.lookup f_Heap_listed = some ⟨oc_Heap_listed, od_Heap_listed, .func (PySem.W.fnOf "listed" "Heap.listed" (defArgs s_Heap_listed) (defBody s_Heap_listed) (defScope s_Heap_listed) .none kV_Heap_listed dc_Heap_listed pm_Heap_listed an_Heap_listed cd_Heap_listed ct_Heap_listed), sl_Heap_listed⟩)
    (c_Heap_listed : PySem.W.codeIn K cd_Heap_listed "Heap.listed" = true)
    (k_Heap_listed : PySem.W.keepIn K (.ref f_Heap_listed) = true)
    (a_Heap_spread : PySem.W.findIn K (.ref C_Heap) "spread" = some (some (.ref f_Heap_spread)))
    (i_Heap_spread : PySem.W.isFn K (.ref f_Heap_spread) = true)
    (l_Heap_spread : K.lookup f_Heap_spread = some ⟨oc_Heap_spread, od_Heap_spread, .func (PySem.W.fnOf "spread" "Heap.spread" (defArgs s_Heap_spread) (defBody s_Heap_spread) (defScope s_Heap_spread) .none kV_Heap_spread dc_Heap_spread pm_Heap_spread an_Heap_spread cd_Heap_spread ct_Heap_spread), sl_Heap_spread⟩)
    (c_Heap_spread : PySem.W.codeIn K cd_Heap_spread "Heap.spread" = true)
    (k_Heap_spread : PySem.W.keepIn K (.ref f_Heap_spread) = true)
    (a_consists_of : PySem.W.nsIn K mainGlobals "_consists_of" = some (some (.ref f_consists_of)))
    (l_consists_of : K.lookup f_consists_of = some ⟨oc_consists_of, od_consists_of, .func (PySem.W.fnOf "_consists_of" "_consists_of" (defArgs s_consists_of) (defBody s_consists_of) (defScope s_consists_of) .none kV_consists_of dc_consists_of pm_consists_of an_consists_of cd_consists_of ct_consists_of), sl_consists_of⟩)
    (c_consists_of : PySem.W.codeIn K cd_consists_of "_consists_of" = true)
    (k_consists_of : PySem.W.keepIn K (.ref f_consists_of) = true)
    (a_atom : PySem.W.nsIn K mainGlobals "_atom" = some (some (.ref f_atom)))
    (l_atom : K.lookup f_atom = some ⟨oc_atom, od_atom, .func (PySem.W.fnOf "_atom" "_atom" (defArgs s_atom) (defBody s_atom) (defScope s_atom) .none kV_atom dc_atom pm_atom an_atom cd_atom ct_atom), sl_atom⟩)
    (c_atom : PySem.W.codeIn K cd_atom "_atom" = true)
    (k_atom : PySem.W.keepIn K (.ref f_atom) = true)
    (a_settle : PySem.W.nsIn K mainGlobals "_settle" = some (some (.ref f_settle)))
    (l_settle : K.lookup f_settle = some ⟨oc_settle, od_settle, .func (PySem.W.fnOf "_settle" "_settle" (defArgs s_settle) (defBody s_settle) (defScope s_settle) .none kV_settle dc_settle pm_settle an_settle cd_settle ct_settle), sl_settle⟩)
    (c_settle : PySem.W.codeIn K cd_settle "_settle" = true)
    (k_settle : PySem.W.keepIn K (.ref f_settle) = true)
    (a_take : PySem.W.nsIn K mainGlobals "_take" = some (some (.ref f_take)))
    (l_take : K.lookup f_take = some ⟨oc_take, od_take, .func (PySem.W.fnOf "_take" "_take" (defArgs s_take) (defBody s_take) (defScope s_take) .none kV_take dc_take pm_take an_take cd_take ct_take), sl_take⟩)
    (c_take : PySem.W.codeIn K cd_take "_take" = true)
    (k_take : PySem.W.keepIn K (.ref f_take) = true)
    (a_end_of_part : PySem.W.nsIn K mainGlobals "_end_of_part" = some (some (.ref f_end_of_part)))
    (l_end_of_part : K.lookup f_end_of_part = some ⟨oc_end_of_part, od_end_of_part, .func (PySem.W.fnOf "_end_of_part" "_end_of_part" (defArgs s_end_of_part) (defBody s_end_of_part) (defScope s_end_of_part) .none kV_end_of_part dc_end_of_part pm_end_of_part an_end_of_part cd_end_of_part ct_end_of_part), sl_end_of_part⟩)
    (c_end_of_part : PySem.W.codeIn K cd_end_of_part "_end_of_part" = true)
    (k_end_of_part : PySem.W.keepIn K (.ref f_end_of_part) = true)
    (a_read : PySem.W.nsIn K mainGlobals "read" = some (some (.ref f_read)))
    (l_read : K.lookup f_read = some ⟨oc_read, od_read, .func (PySem.W.fnOf "read" "read" (defArgs s_read) (defBody s_read) (defScope s_read) .none kV_read dc_read pm_read an_read cd_read ct_read), sl_read⟩)
    (c_read : PySem.W.codeIn K cd_read "read" = true)
    (k_read : PySem.W.keepIn K (.ref f_read) = true)
    (a_quoted : PySem.W.nsIn K mainGlobals "_quoted" = some (some (.ref f_quoted)))
    (l_quoted : K.lookup f_quoted = some ⟨oc_quoted, od_quoted, .func (PySem.W.fnOf "_quoted" "_quoted" (defArgs s_quoted) (defBody s_quoted) (defScope s_quoted) .none kV_quoted dc_quoted pm_quoted an_quoted cd_quoted ct_quoted), sl_quoted⟩)
    (c_quoted : PySem.W.codeIn K cd_quoted "_quoted" = true)
    (k_quoted : PySem.W.keepIn K (.ref f_quoted) = true)
    (a_write : PySem.W.nsIn K mainGlobals "write" = some (some (.ref f_write)))
    (l_write : K.lookup f_write = some ⟨oc_write, od_write, .func (PySem.W.fnOf "write" "write" (defArgs s_write) (defBody s_write) (defScope s_write) .none kV_write dc_write pm_write an_write cd_write ct_write), sl_write⟩)
    (c_write : PySem.W.codeIn K cd_write "write" = true)
    (k_write : PySem.W.keepIn K (.ref f_write) = true)
    (a_put_members : PySem.W.nsIn K mainGlobals "_put_members" = some (some (.ref f_put_members)))
    (l_put_members : K.lookup f_put_members = some ⟨oc_put_members, od_put_members, .func (PySem.W.fnOf "_put_members" "_put_members" (defArgs s_put_members) (defBody s_put_members) (defScope s_put_members) .none kV_put_members dc_put_members pm_put_members an_put_members cd_put_members ct_put_members), sl_put_members⟩)
    (c_put_members : PySem.W.codeIn K cd_put_members "_put_members" = true)
    (k_put_members : PySem.W.keepIn K (.ref f_put_members) = true)
    (a_plain : PySem.W.nsIn K mainGlobals "plain" = some (some (.ref f_plain)))
    (l_plain : K.lookup f_plain = some ⟨oc_plain, od_plain, .func (PySem.W.fnOf "plain" "plain" (defArgs s_plain) (defBody s_plain) (defScope s_plain) .none kV_plain dc_plain pm_plain an_plain cd_plain ct_plain), sl_plain⟩)
    (c_plain : PySem.W.codeIn K cd_plain "plain" = true)
    (k_plain : PySem.W.keepIn K (.ref f_plain) = true)
    (a_law_box : PySem.W.nsIn K mainGlobals "_law_box" = some (some (.ref f_law_box)))
    (l_law_box : K.lookup f_law_box = some ⟨oc_law_box, od_law_box, .func (PySem.W.fnOf "_law_box" "_law_box" (defArgs s_law_box) (defBody s_law_box) (defScope s_law_box) .none kV_law_box dc_law_box pm_law_box an_law_box cd_law_box ct_law_box), sl_law_box⟩)
    (c_law_box : PySem.W.codeIn K cd_law_box "_law_box" = true)
    (k_law_box : PySem.W.keepIn K (.ref f_law_box) = true)
    (a_law_take : PySem.W.nsIn K mainGlobals "_law_take" = some (some (.ref f_law_take)))
    (l_law_take : K.lookup f_law_take = some ⟨oc_law_take, od_law_take, .func (PySem.W.fnOf "_law_take" "_law_take" (defArgs s_law_take) (defBody s_law_take) (defScope s_law_take) .none kV_law_take dc_law_take pm_law_take an_law_take cd_law_take ct_law_take), sl_law_take⟩)
    (c_law_take : PySem.W.codeIn K cd_law_take "_law_take" = true)
    (k_law_take : PySem.W.keepIn K (.ref f_law_take) = true)
    (a_law_word : PySem.W.nsIn K mainGlobals "_law_word" = some (some (.ref f_law_word)))
    (l_law_word : K.lookup f_law_word = some ⟨oc_law_word, od_law_word, .func (PySem.W.fnOf "_law_word" "_law_word" (defArgs s_law_word) (defBody s_law_word) (defScope s_law_word) .none kV_law_word dc_law_word pm_law_word an_law_word cd_law_word ct_law_word), sl_law_word⟩)
    (c_law_word : PySem.W.codeIn K cd_law_word "_law_word" = true)
    (k_law_word : PySem.W.keepIn K (.ref f_law_word) = true)
    (a_law_gap : PySem.W.nsIn K mainGlobals "_law_gap" = some (some (.ref f_law_gap)))
    (l_law_gap : K.lookup f_law_gap = some ⟨oc_law_gap, od_law_gap, .func (PySem.W.fnOf "_law_gap" "_law_gap" (defArgs s_law_gap) (defBody s_law_gap) (defScope s_law_gap) .none kV_law_gap dc_law_gap pm_law_gap an_law_gap cd_law_gap ct_law_gap), sl_law_gap⟩)
    (c_law_gap : PySem.W.codeIn K cd_law_gap "_law_gap" = true)
    (k_law_gap : PySem.W.keepIn K (.ref f_law_gap) = true)
    (a_law_listed : PySem.W.nsIn K mainGlobals "_law_listed" = some (some (.ref f_law_listed)))
    (l_law_listed : K.lookup f_law_listed = some ⟨oc_law_listed, od_law_listed, .func (PySem.W.fnOf "_law_listed" "_law_listed" (defArgs s_law_listed) (defBody s_law_listed) (defScope s_law_listed) .none kV_law_listed dc_law_listed pm_law_listed an_law_listed cd_law_listed ct_law_listed), sl_law_listed⟩)
    (c_law_listed : PySem.W.codeIn K cd_law_listed "_law_listed" = true)
    (k_law_listed : PySem.W.keepIn K (.ref f_law_listed) = true)
    (a_law_dressed : PySem.W.nsIn K mainGlobals "_law_dressed" = some (some (.ref f_law_dressed)))
    (l_law_dressed : K.lookup f_law_dressed = some ⟨oc_law_dressed, od_law_dressed, .func (PySem.W.fnOf "_law_dressed" "_law_dressed" (defArgs s_law_dressed) (defBody s_law_dressed) (defScope s_law_dressed) .none kV_law_dressed dc_law_dressed pm_law_dressed an_law_dressed cd_law_dressed ct_law_dressed), sl_law_dressed⟩)
    (c_law_dressed : PySem.W.codeIn K cd_law_dressed "_law_dressed" = true)
    (k_law_dressed : PySem.W.keepIn K (.ref f_law_dressed) = true)
    (a_law_group : PySem.W.nsIn K mainGlobals "_law_group" = some (some (.ref f_law_group)))
    (l_law_group : K.lookup f_law_group = some ⟨oc_law_group, od_law_group, .func (PySem.W.fnOf "_law_group" "_law_group" (defArgs s_law_group) (defBody s_law_group) (defScope s_law_group) .none kV_law_group dc_law_group pm_law_group an_law_group cd_law_group ct_law_group), sl_law_group⟩)
    (c_law_group : PySem.W.codeIn K cd_law_group "_law_group" = true)
    (k_law_group : PySem.W.keepIn K (.ref f_law_group) = true)
    (a_law_value : PySem.W.nsIn K mainGlobals "_law_value" = some (some (.ref f_law_value)))
    (l_law_value : K.lookup f_law_value = some ⟨oc_law_value, od_law_value, .func (PySem.W.fnOf "_law_value" "_law_value" (defArgs s_law_value) (defBody s_law_value) (defScope s_law_value) .none kV_law_value dc_law_value pm_law_value an_law_value cd_law_value ct_law_value), sl_law_value⟩)
    (c_law_value : PySem.W.codeIn K cd_law_value "_law_value" = true)
    (k_law_value : PySem.W.keepIn K (.ref f_law_value) = true)
    (a_law_deep : PySem.W.nsIn K mainGlobals "_law_deep" = some (some (.ref f_law_deep)))
    (l_law_deep : K.lookup f_law_deep = some ⟨oc_law_deep, od_law_deep, .func (PySem.W.fnOf "_law_deep" "_law_deep" (defArgs s_law_deep) (defBody s_law_deep) (defScope s_law_deep) .none kV_law_deep dc_law_deep pm_law_deep an_law_deep cd_law_deep ct_law_deep), sl_law_deep⟩)
    (c_law_deep : PySem.W.codeIn K cd_law_deep "_law_deep" = true)
    (k_law_deep : PySem.W.keepIn K (.ref f_law_deep) = true)
    (a_law : PySem.W.nsIn K mainGlobals "law" = some (some (.ref f_law)))
    (l_law : K.lookup f_law = some ⟨oc_law, od_law, .func (PySem.W.fnOf "law" "law" (defArgs s_law) (defBody s_law) (defScope s_law) .none kV_law dc_law pm_law an_law cd_law ct_law), sl_law⟩)
    (c_law : PySem.W.codeIn K cd_law "law" = true)
    (k_law : PySem.W.keepIn K (.ref f_law) = true)
    (v_NIL : PySem.W.nsIn K mainGlobals "NIL" = some (some (.int 0 t_NIL)))
    (v_EMPTY : PySem.W.nsIn K mainGlobals "EMPTY" = some (some (.int 0 t_EMPTY)))
    (v_NUMBER : PySem.W.nsIn K mainGlobals "NUMBER" = some (some (.int 1 t_NUMBER)))
    (v_NAME : PySem.W.nsIn K mainGlobals "NAME" = some (some (.int 2 t_NAME)))
    (v_PAIR : PySem.W.nsIn K mainGlobals "PAIR" = some (some (.int 3 t_PAIR)))
    (v_HEAVY : PySem.W.nsIn K mainGlobals "HEAVY" = some (some (.int 100001 t_HEAVY)))
    (v_BLANKS : PySem.W.nsIn K mainGlobals "BLANKS" = some (some (.str " \n" t_BLANKS)))
    (v_DIGITS : PySem.W.nsIn K mainGlobals "DIGITS" = some (some (.str "0123456789" t_DIGITS)))
    (v_LOWER : PySem.W.nsIn K mainGlobals "LOWER" = some (some (.str "abcdefghijklmnopqrstuvwxyz" t_LOWER)))
    (v_NAME_SIGNS : PySem.W.nsIn K mainGlobals "NAME_SIGNS" = some (some (.str "abcdefghijklmnopqrstuvwxyz0123456789" t_NAME_SIGNS)))
    (v_WORD_SIGNS : PySem.W.nsIn K mainGlobals "WORD_SIGNS" = some (some (.str "abcdefghijklmnopqrstuvwxyzABCDEFGHIJKLMNOPQRSTUVWXYZ0123456789" t_WORD_SIGNS)))
    (v_LONGEST_NUMBER : PySem.W.nsIn K mainGlobals "LONGEST_NUMBER" = some (some (.int 4 t_LONGEST_NUMBER)))
    (v_LONGEST_NAME : PySem.W.nsIn K mainGlobals "LONGEST_NAME" = some (some (.int 12 t_LONGEST_NAME)))
    (z_int : PySem.W.nsIn K mainGlobals "int" = some none)
    (z_isinstance : PySem.W.nsIn K mainGlobals "isinstance" = some none)
    (z_len : PySem.W.nsIn K mainGlobals "len" = some none)
    (z_list : PySem.W.nsIn K mainGlobals "list" = some none)
    (z_max : PySem.W.nsIn K mainGlobals "max" = some none)
    (z_min : PySem.W.nsIn K mainGlobals "min" = some none)
    (z_range : PySem.W.nsIn K mainGlobals "range" = some none)
    (z_reversed : PySem.W.nsIn K mainGlobals "reversed" = some none)
    (z_str : PySem.W.nsIn K mainGlobals "str" = some none)
    (z_sum : PySem.W.nsIn K mainGlobals "sum" = some none)
    : ∃ fd : FuncData, (∀ (s : Shared) (v : Value), BindsTo s fd ⟨[v], []⟩ [("script", v)]) ∧ ∀ base : Heap, K.In base → base.Ns mainGlobals mg → FnOk l.prog w K mg base CX0 8 fa fd ["script"] (spLaw K) := by
  have e := hfa.symm.trans (PySem.W.mg_of X G a_law)
  cases e
  have F_wall := fun_mk (st := s_wall) l_wall c_wall k_wall
  have b_wall := F_wall.binds (ps := ["k"]) fun _ _ _ _ _ _ us hl => match us, hl with | [_], _ => rfl
  have F_Heap__init := fun_mk (st := s_Heap__init) l_Heap__init c_Heap__init k_Heap__init
  have b_Heap__init := F_Heap__init.binds (ps := ["self"]) fun _ _ _ _ _ _ us hl => match us, hl with | [_], _ => rfl
  have F_Heap_copy := fun_mk (st := s_Heap_copy) l_Heap_copy c_Heap_copy k_Heap_copy
  have b_Heap_copy := F_Heap_copy.binds (ps := ["self"]) fun _ _ _ _ _ _ us hl => match us, hl with | [_], _ => rfl
  have F_Heap_new := fun_mk (st := s_Heap_new) l_Heap_new c_Heap_new k_Heap_new
  have b_Heap_new := F_Heap_new.binds (ps := ["self", "shape", "face", "first", "second", "heft"]) fun _ _ _ _ _ _ us hl => match us, hl with | [_, _, _, _, _, _], _ => rfl
  have F_Heap_number := fun_mk (st := s_Heap_number) l_Heap_number c_Heap_number k_Heap_number
  have b_Heap_number := F_Heap_number.binds (ps := ["self", "n"]) fun _ _ _ _ _ _ us hl => match us, hl with | [_, _], _ => rfl
  have F_Heap_name := fun_mk (st := s_Heap_name) l_Heap_name c_Heap_name k_Heap_name
  have b_Heap_name := F_Heap_name.binds (ps := ["self", "text"]) fun _ _ _ _ _ _ us hl => match us, hl with | [_, _], _ => rfl
  have F_Heap_pair := fun_mk (st := s_Heap_pair) l_Heap_pair c_Heap_pair k_Heap_pair
  have b_Heap_pair := F_Heap_pair.binds (ps := ["self", "first", "second"]) fun _ _ _ _ _ _ us hl => match us, hl with | [_, _, _], _ => rfl
  have F_Heap_shape := fun_mk (st := s_Heap_shape) l_Heap_shape c_Heap_shape k_Heap_shape
  have b_Heap_shape := F_Heap_shape.binds (ps := ["self", "value"]) fun _ _ _ _ _ _ us hl => match us, hl with | [_, _], _ => rfl
  have F_Heap_face := fun_mk (st := s_Heap_face) l_Heap_face c_Heap_face k_Heap_face
  have b_Heap_face := F_Heap_face.binds (ps := ["self", "value"]) fun _ _ _ _ _ _ us hl => match us, hl with | [_, _], _ => rfl
  have F_Heap_first := fun_mk (st := s_Heap_first) l_Heap_first c_Heap_first k_Heap_first
  have b_Heap_first := F_Heap_first.binds (ps := ["self", "value"]) fun _ _ _ _ _ _ us hl => match us, hl with | [_, _], _ => rfl
  have F_Heap_second := fun_mk (st := s_Heap_second) l_Heap_second c_Heap_second k_Heap_second
  have b_Heap_second := F_Heap_second.binds (ps := ["self", "value"]) fun _ _ _ _ _ _ us hl => match us, hl with | [_, _], _ => rfl
  have F_Heap_heft := fun_mk (st := s_Heap_heft) l_Heap_heft c_Heap_heft k_Heap_heft
  have b_Heap_heft := F_Heap_heft.binds (ps := ["self", "value"]) fun _ _ _ _ _ _ us hl => match us, hl with | [_, _], _ => rfl
  have F_Heap_listed := fun_mk (st := s_Heap_listed) l_Heap_listed c_Heap_listed k_Heap_listed
  have b_Heap_listed := F_Heap_listed.binds (ps := ["self", "ids"]) fun _ _ _ _ _ _ us hl => match us, hl with | [_, _], _ => rfl
  have F_Heap_spread := fun_mk (st := s_Heap_spread) l_Heap_spread c_Heap_spread k_Heap_spread
  have b_Heap_spread := F_Heap_spread.binds (ps := ["self", "value"]) fun _ _ _ _ _ _ us hl => match us, hl with | [_, _], _ => rfl
  have F_consists_of := fun_mk (st := s_consists_of) l_consists_of c_consists_of k_consists_of
  have b_consists_of := F_consists_of.binds (ps := ["word", "signs"]) fun _ _ _ _ _ _ us hl => match us, hl with | [_, _], _ => rfl
  have F_atom := fun_mk (st := s_atom) l_atom c_atom k_atom
  have b_atom := F_atom.binds (ps := ["heap", "word"]) fun _ _ _ _ _ _ us hl => match us, hl with | [_, _], _ => rfl
  have F_settle := fun_mk (st := s_settle) l_settle c_settle k_settle
  have b_settle := F_settle.binds (ps := ["heap", "waiting", "value"]) fun _ _ _ _ _ _ us hl => match us, hl with | [_, _, _], _ => rfl
  have F_take := fun_mk (st := s_take) l_take c_take k_take
  have b_take := F_take.binds (ps := ["heap", "waiting", "part", "at"]) fun _ _ _ _ _ _ us hl => match us, hl with | [_, _, _, _], _ => rfl
  have F_end_of_part := fun_mk (st := s_end_of_part) l_end_of_part c_end_of_part k_end_of_part
  have b_end_of_part := F_end_of_part.binds (ps := ["text", "at"]) fun _ _ _ _ _ _ us hl => match us, hl with | [_, _], _ => rfl
  have F_read := fun_mk (st := s_read) l_read c_read k_read
  have b_read := F_read.binds (ps := ["heap", "text"]) fun _ _ _ _ _ _ us hl => match us, hl with | [_, _], _ => rfl
  have F_quoted := fun_mk (st := s_quoted) l_quoted c_quoted k_quoted
  have b_quoted := F_quoted.binds (ps := ["heap", "value"]) fun _ _ _ _ _ _ us hl => match us, hl with | [_, _], _ => rfl
  have F_write := fun_mk (st := s_write) l_write c_write k_write
  have b_write := F_write.binds (ps := ["heap", "value"]) fun _ _ _ _ _ _ us hl => match us, hl with | [_, _], _ => rfl
  have F_put_members := fun_mk (st := s_put_members) l_put_members c_put_members k_put_members
  have b_put_members := F_put_members.binds (ps := ["ids", "todo"]) fun _ _ _ _ _ _ us hl => match us, hl with | [_, _], _ => rfl
  have F_plain := fun_mk (st := s_plain) l_plain c_plain k_plain
  have b_plain := F_plain.binds (ps := ["text"]) fun _ _ _ _ _ _ us hl => match us, hl with | [_], _ => rfl
  have F_law_box := fun_mk (st := s_law_box) l_law_box c_law_box k_law_box
  have b_law_box := F_law_box.binds (ps := ["script", "place"]) fun _ _ _ _ _ _ us hl => match us, hl with | [_, _], _ => rfl
  have F_law_take := fun_mk (st := s_law_take) l_law_take c_law_take k_law_take
  have b_law_take := F_law_take.binds (ps := ["box", "size"]) fun _ _ _ _ _ _ us hl => match us, hl with | [_, _], _ => rfl
  have F_law_word := fun_mk (st := s_law_word) l_law_word c_law_word k_law_word
  have b_law_word := F_law_word.binds (ps := ["box"]) fun _ _ _ _ _ _ us hl => match us, hl with | [_], _ => rfl
  have F_law_gap := fun_mk (st := s_law_gap) l_law_gap c_law_gap k_law_gap
  have b_law_gap := F_law_gap.binds (ps := ["dress", "before", "after"]) fun _ _ _ _ _ _ us hl => match us, hl with | [_, _, _], _ => rfl
  have F_law_listed := fun_mk (st := s_law_listed) l_law_listed c_law_listed k_law_listed
  have b_law_listed := F_law_listed.binds (ps := ["told"]) fun _ _ _ _ _ _ us hl => match us, hl with | [_], _ => rfl
  have F_law_dressed := fun_mk (st := s_law_dressed) l_law_dressed c_law_dressed k_law_dressed
  have b_law_dressed := F_law_dressed.binds (ps := ["dress", "told", "dressed"]) fun _ _ _ _ _ _ us hl => match us, hl with | [_, _, _], _ => rfl
  have F_law_group := fun_mk (st := s_law_group) l_law_group c_law_group k_law_group
  have b_law_group := F_law_group.binds (ps := ["box", "dress", "told", "dressed"]) fun _ _ _ _ _ _ us hl => match us, hl with | [_, _, _, _], _ => rfl
  have F_law_value := fun_mk (st := s_law_value) l_law_value c_law_value k_law_value
  have b_law_value := F_law_value.binds (ps := ["box", "dress"]) fun _ _ _ _ _ _ us hl => match us, hl with | [_, _], _ => rfl
  have F_law_deep := fun_mk (st := s_law_deep) l_law_deep c_law_deep k_law_deep
  have b_law_deep := F_law_deep.binds (ps := ["box", "told", "dressed"]) fun _ _ _ _ _ _ us hl => match us, hl with | [_, _, _], _ => rfl
  have F_law := fun_mk (st := s_law) l_law c_law k_law
  have b_law := F_law.binds (ps := ["script"]) fun _ _ _ _ _ _ us hl => match us, hl with | [_], _ => rfl
  let T : Txt K mg := {
    C_Heap := C_Heap,
    cl_Heap := ⟨pg_Heap, hd_Heap, po_Heap, sa_Heap⟩,
    m_Heap := PySem.W.mg_of X G aC_Heap,
    nf__shapes := nf__shapes,
    nf__faces := nf__faces,
    nf__firsts := nf__firsts,
    nf__seconds := nf__seconds,
    nf__hefts := nf__hefts,
    nf__numbers := nf__numbers,
    nf__names := nf__names,
    nf__pairs := nf__pairs,
    a_wall := f_wall,
    d_wall := _,
    wall := ⟨PySem.W.mg_of X G a_wall, F_wall, b_wall⟩,
    a_Heap__init := f_Heap__init,
    d_Heap__init := _,
    Heap__init := ⟨⟨a_Heap__init, i_Heap__init, k_Heap__init⟩, F_Heap__init, b_Heap__init⟩,
    mk_Heap := ⟨mk_Heap, a_Heap__init, i_Heap__init, kc_Heap⟩,
    a_Heap_copy := f_Heap_copy,
    d_Heap_copy := _,
    Heap_copy := ⟨⟨a_Heap_copy, i_Heap_copy, k_Heap_copy⟩, F_Heap_copy, b_Heap_copy⟩,
    a_Heap_new := f_Heap_new,
    d_Heap_new := _,
    Heap_new := ⟨⟨a_Heap_new, i_Heap_new, k_Heap_new⟩, F_Heap_new, b_Heap_new⟩,
    a_Heap_number := f_Heap_number,
    d_Heap_number := _,
    Heap_number := ⟨⟨a_Heap_number, i_Heap_number, k_Heap_number⟩, F_Heap_number, b_Heap_number⟩,
    a_Heap_name := f_Heap_name,
    d_Heap_name := _,
    Heap_name := ⟨⟨a_Heap_name, i_Heap_name, k_Heap_name⟩, F_Heap_name, b_Heap_name⟩,
    a_Heap_pair := f_Heap_pair,
    d_Heap_pair := _,
    Heap_pair := ⟨⟨a_Heap_pair, i_Heap_pair, k_Heap_pair⟩, F_Heap_pair, b_Heap_pair⟩,
    a_Heap_shape := f_Heap_shape,
    d_Heap_shape := _,
    Heap_shape := ⟨⟨a_Heap_shape, i_Heap_shape, k_Heap_shape⟩, F_Heap_shape, b_Heap_shape⟩,
    a_Heap_face := f_Heap_face,
    d_Heap_face := _,
    Heap_face := ⟨⟨a_Heap_face, i_Heap_face, k_Heap_face⟩, F_Heap_face, b_Heap_face⟩,
    a_Heap_first := f_Heap_first,
    d_Heap_first := _,
    Heap_first := ⟨⟨a_Heap_first, i_Heap_first, k_Heap_first⟩, F_Heap_first, b_Heap_first⟩,
    a_Heap_second := f_Heap_second,
    d_Heap_second := _,
    Heap_second := ⟨⟨a_Heap_second, i_Heap_second, k_Heap_second⟩, F_Heap_second, b_Heap_second⟩,
    a_Heap_heft := f_Heap_heft,
    d_Heap_heft := _,
    Heap_heft := ⟨⟨a_Heap_heft, i_Heap_heft, k_Heap_heft⟩, F_Heap_heft, b_Heap_heft⟩,
    a_Heap_listed := f_Heap_listed,
    d_Heap_listed := _,
    Heap_listed := ⟨⟨a_Heap_listed, i_Heap_listed, k_Heap_listed⟩, F_Heap_listed, b_Heap_listed⟩,
    a_Heap_spread := f_Heap_spread,
    d_Heap_spread := _,
    Heap_spread := ⟨⟨a_Heap_spread, i_Heap_spread, k_Heap_spread⟩, F_Heap_spread, b_Heap_spread⟩,
    a_consists_of := f_consists_of,
    d_consists_of := _,
    consists_of := ⟨PySem.W.mg_of X G a_consists_of, F_consists_of, b_consists_of⟩,
    a_atom := f_atom,
    d_atom := _,
    atom := ⟨PySem.W.mg_of X G a_atom, F_atom, b_atom⟩,
    a_settle := f_settle,
    d_settle := _,
    settle := ⟨PySem.W.mg_of X G a_settle, F_settle, b_settle⟩,
    a_take := f_take,
    d_take := _,
    take := ⟨PySem.W.mg_of X G a_take, F_take, b_take⟩,
    a_end_of_part := f_end_of_part,
    d_end_of_part := _,
    end_of_part := ⟨PySem.W.mg_of X G a_end_of_part, F_end_of_part, b_end_of_part⟩,
    a_read := f_read,
    d_read := _,
    read := ⟨PySem.W.mg_of X G a_read, F_read, b_read⟩,
    a_quoted := f_quoted,
    d_quoted := _,
    quoted := ⟨PySem.W.mg_of X G a_quoted, F_quoted, b_quoted⟩,
    a_write := f_write,
    d_write := _,
    write := ⟨PySem.W.mg_of X G a_write, F_write, b_write⟩,
    a_put_members := f_put_members,
    d_put_members := _,
    put_members := ⟨PySem.W.mg_of X G a_put_members, F_put_members, b_put_members⟩,
    a_plain := f_plain,
    d_plain := _,
    plain := ⟨PySem.W.mg_of X G a_plain, F_plain, b_plain⟩,
    a_law_box := f_law_box,
    d_law_box := _,
    law_box := ⟨PySem.W.mg_of X G a_law_box, F_law_box, b_law_box⟩,
    a_law_take := f_law_take,
    d_law_take := _,
    law_take := ⟨PySem.W.mg_of X G a_law_take, F_law_take, b_law_take⟩,
    a_law_word := f_law_word,
    d_law_word := _,
    law_word := ⟨PySem.W.mg_of X G a_law_word, F_law_word, b_law_word⟩,
    a_law_gap := f_law_gap,
    d_law_gap := _,
    law_gap := ⟨PySem.W.mg_of X G a_law_gap, F_law_gap, b_law_gap⟩,
    a_law_listed := f_law_listed,
    d_law_listed := _,
    law_listed := ⟨PySem.W.mg_of X G a_law_listed, F_law_listed, b_law_listed⟩,
    a_law_dressed := f_law_dressed,
    d_law_dressed := _,
    law_dressed := ⟨PySem.W.mg_of X G a_law_dressed, F_law_dressed, b_law_dressed⟩,
    a_law_group := f_law_group,
    d_law_group := _,
    law_group := ⟨PySem.W.mg_of X G a_law_group, F_law_group, b_law_group⟩,
    a_law_value := f_law_value,
    d_law_value := _,
    law_value := ⟨PySem.W.mg_of X G a_law_value, F_law_value, b_law_value⟩,
    a_law_deep := f_law_deep,
    d_law_deep := _,
    law_deep := ⟨PySem.W.mg_of X G a_law_deep, F_law_deep, b_law_deep⟩,
    a_law := fa,
    d_law := _,
    law := ⟨PySem.W.mg_of X G a_law, F_law, b_law⟩,
    t_NIL := t_NIL,
    c_NIL := PySem.W.mg_of X G v_NIL,
    t_EMPTY := t_EMPTY,
    c_EMPTY := PySem.W.mg_of X G v_EMPTY,
    t_NUMBER := t_NUMBER,
    c_NUMBER := PySem.W.mg_of X G v_NUMBER,
    t_NAME := t_NAME,
    c_NAME := PySem.W.mg_of X G v_NAME,
    t_PAIR := t_PAIR,
    c_PAIR := PySem.W.mg_of X G v_PAIR,
    t_HEAVY := t_HEAVY,
    c_HEAVY := PySem.W.mg_of X G v_HEAVY,
    t_BLANKS := t_BLANKS,
    c_BLANKS := PySem.W.mg_of X G v_BLANKS,
    t_DIGITS := t_DIGITS,
    c_DIGITS := PySem.W.mg_of X G v_DIGITS,
    t_LOWER := t_LOWER,
    c_LOWER := PySem.W.mg_of X G v_LOWER,
    t_NAME_SIGNS := t_NAME_SIGNS,
    c_NAME_SIGNS := PySem.W.mg_of X G v_NAME_SIGNS,
    t_WORD_SIGNS := t_WORD_SIGNS,
    c_WORD_SIGNS := PySem.W.mg_of X G v_WORD_SIGNS,
    t_LONGEST_NUMBER := t_LONGEST_NUMBER,
    c_LONGEST_NUMBER := PySem.W.mg_of X G v_LONGEST_NUMBER,
    t_LONGEST_NAME := t_LONGEST_NAME,
    c_LONGEST_NAME := PySem.W.mg_of X G v_LONGEST_NAME,
    b_int := PySem.W.mg_none_of X G z_int,
    b_isinstance := PySem.W.mg_none_of X G z_isinstance,
    b_len := PySem.W.mg_none_of X G z_len,
    b_list := PySem.W.mg_none_of X G z_list,
    b_max := PySem.W.mg_none_of X G z_max,
    b_min := PySem.W.mg_none_of X G z_min,
    b_range := PySem.W.mg_none_of X G z_range,
    b_reversed := PySem.W.mg_none_of X G z_reversed,
    b_str := PySem.W.mg_none_of X G z_str,
    b_sum := PySem.W.mg_none_of X G z_sum }
  exact ⟨_, fun s v => .of_eq rfl, fun base _ _ => ok_law T⟩
theorem walk {l : PySem.W.OpenLaw} {q : Program} {loose : List Str} {XP : (Str → Option Value) → Heap → Prop} {YP : World → Heap → Prop} {d : DefRec} {K : Params → PySem.W.Frag} (hn : l.most = some 63) (hdf : d.params.defaults = [])
    (hY : ∀ (w : World) (h : Heap), YP w h → (K w.params).In h)
    (F : ∀ (w : World) (mg : Str → Option Value) (fa : Addr) (h : Heap), (K w.params).In h → h.Ns mainGlobals mg → mg d.name = some (.ref fa) →
      ∃ fd : FuncData, (∀ (s : Shared) (u : Value), BindsTo s fd ⟨[u], []⟩ [("script", u)]) ∧ ∀ base : Heap, (K w.params).In base → base.Ns mainGlobals mg → FnOk l.prog w (K w.params) mg base CX0 8 fa fd ["script"] (spLaw (K w.params))) :
    PySem.W.WalkO q loose XP YP l.row.toRowW d [] (fun f vs => PySem.call f vs) :=
  L2.walk_of (n := 63) (k := 8) (x := "script") (CX := fun _ => CX0) (sp := fun w => spLaw (K w.params)) hn (by decide) hdf ⟨rfl, by decide, by decide⟩ hY F (fun _ _ a ns hl _ hS => ⟨a, ns, rfl, hS, hl, fun _ => rfl⟩) fun _ _ _ _ _ z => z
end Wh
open PySem PySem.W PyProof.Rows
set_option maxRecDepth 100000 in
set_option maxHeartbeats 0 in
theorem PySem.Challenge.cw_whittle_k00_plain_of_every_dress_holds : PySem.Challenge.rw_whittle_k00_plain_of_every_dress.Holds := by
  w_on; o_law; k_head; (case hw => w_witness2)
  k_fill
  refine Wh.walk (l := PySem.Challenge.rw_whittle_k00_plain_of_every_dress) rfl rfl (fun w h Y => PySem.W.kIn_of Y) ?F
  case F =>
    intro w mg fa h KX G hmg
    refine' Wh.all_mk KX G hmg ?aC_Heap ?pg_Heap ?hd_Heap ?po_Heap ?sa_Heap ?mk_Heap ?kc_Heap ?nf__shapes ?nf__faces ?nf__firsts ?nf__seconds ?nf__hefts ?nf__numbers ?nf__names ?nf__pairs ?a_wall ?l_wall ?c_wall ?k_wall ?a_Heap__init ?i_Heap__init ?l_Heap__init ?c_Heap__init ?k_Heap__init ?a_Heap_copy ?i_Heap_copy ?l_Heap_copy ?c_Heap_copy ?k_Heap_copy ?a_Heap_new ?i_Heap_new ?l_Heap_new ?c_Heap_new ?k_Heap_new ?a_Heap_number ?i_Heap_number ?l_Heap_number ?c_Heap_number ?k_Heap_number ?a_Heap_name ?i_Heap_name ?l_Heap_name ?c_Heap_name ?k_Heap_name ?a_Heap_pair ?i_Heap_pair ?l_Heap_pair ?c_Heap_pair ?k_Heap_pair ?a_Heap_shape ?i_Heap_shape ?l_Heap_shape ?c_Heap_shape ?k_Heap_shape ?a_Heap_face ?i_Heap_face ?l_Heap_face ?c_Heap_face ?k_Heap_face ?a_Heap_first ?i_Heap_first ?l_Heap_first ?c_Heap_first ?k_Heap_first ?a_Heap_second ?i_Heap_second ?l_Heap_second ?c_Heap_second ?k_Heap_second ?a_Heap_heft ?i_Heap_heft ?l_Heap_heft ?c_Heap_heft ?k_Heap_heft ?a_Heap_listed ?i_Heap_listed ?l_Heap_listed ?c_Heap_listed ?k_Heap_listed ?a_Heap_spread ?i_Heap_spread ?l_Heap_spread ?c_Heap_spread ?k_Heap_spread ?a_consists_of ?l_consists_of ?c_consists_of ?k_consists_of ?a_atom ?l_atom ?c_atom ?k_atom ?a_settle ?l_settle ?c_settle ?k_settle ?a_take ?l_take ?c_take ?k_take ?a_end_of_part ?l_end_of_part ?c_end_of_part ?k_end_of_part ?a_read ?l_read ?c_read ?k_read ?a_quoted ?l_quoted ?c_quoted ?k_quoted ?a_write ?l_write ?c_write ?k_write ?a_put_members ?l_put_members ?c_put_members ?k_put_members ?a_plain ?l_plain ?c_plain ?k_plain ?a_law_box ?l_law_box ?c_law_box ?k_law_box ?a_law_take ?l_law_take ?c_law_take ?k_law_take ?a_law_word ?l_law_word ?c_law_word ?k_law_word ?a_law_gap ?l_law_gap ?c_law_gap ?k_law_gap ?a_law_listed ?l_law_listed ?c_law_listed ?k_law_listed ?a_law_dressed ?l_law_dressed ?c_law_dressed ?k_law_dressed ?a_law_group ?l_law_group ?c_law_group ?k_law_group ?a_law_value ?l_law_value ?c_law_value ?k_law_value ?a_law_deep ?l_law_deep ?c_law_deep ?k_law_deep ?a_law ?l_law ?c_law ?k_law ?v_NIL ?v_EMPTY ?v_NUMBER ?v_NAME ?v_PAIR ?v_HEAVY ?v_BLANKS ?v_DIGITS ?v_LOWER ?v_NAME_SIGNS ?v_WORD_SIGNS ?v_LONGEST_NUMBER ?v_LONGEST_NAME ?z_int ?z_isinstance ?z_len ?z_list ?z_max ?z_min ?z_range ?z_reversed ?z_str ?z_sum
    (case aC_Heap => k_is)
    (case pg_Heap => k_is)
    (case hd_Heap => k_is)
    (case po_Heap => k_is)
    (case sa_Heap => k_is)
    (case mk_Heap => k_is)
    (case kc_Heap => k_is)
    (case nf__shapes => k_is)
    (case nf__faces => k_is)
    (case nf__firsts => k_is)
    (case nf__seconds => k_is)
    (case nf__hefts => k_is)
    (case nf__numbers => k_is)
    (case nf__names => k_is)
    (case nf__pairs => k_is)
    (case a_wall => k_is)
    (case l_wall => k_is)
    (case c_wall => k_is)
    (case k_wall => k_is)
    (case a_Heap__init => k_is)
    (case i_Heap__init => k_is)
    (case l_Heap__init => k_is)
    (case c_Heap__init => k_is)
    (case k_Heap__init => k_is)
    (case a_Heap_copy => k_is)
    (case i_Heap_copy => k_is)
    (case l_Heap_copy => k_is)
    (case c_Heap_copy => k_is)
    (case k_Heap_copy => k_is)
    (case a_Heap_new => k_is)
    (case i_Heap_new => k_is)
    (case l_Heap_new => k_is)
    (case c_Heap_new => k_is)
    (case k_Heap_new => k_is)
    (case a_Heap_number => k_is)
    (case i_Heap_number => k_is)
    (case l_Heap_number => k_is)
    (case c_Heap_number => k_is)
    (case k_Heap_number => k_is)
    (case a_Heap_name => k_is)
    (case i_Heap_name => k_is)
    (case l_Heap_name => k_is)
    (case c_Heap_name => k_is)
    (case k_Heap_name => k_is)
    (case a_Heap_pair => k_is)
    (case i_Heap_pair => k_is)
    (case l_Heap_pair => k_is)
    (case c_Heap_pair => k_is)
    (case k_Heap_pair => k_is)
    (case a_Heap_shape => k_is)
    (case i_Heap_shape => k_is)
    (case l_Heap_shape => k_is)
    (case c_Heap_shape => k_is)
    (case k_Heap_shape => k_is)
    (case a_Heap_face => k_is)
    (case i_Heap_face => k_is)
    (case l_Heap_face => k_is)
    (case c_Heap_face => k_is)
    (case k_Heap_face => k_is)
    (case a_Heap_first => k_is)
    (case i_Heap_first => k_is)
    (case l_Heap_first => k_is)
    (case c_Heap_first => k_is)
    (case k_Heap_first => k_is)
    (case a_Heap_second => k_is)
    (case i_Heap_second => k_is)
    (case l_Heap_second => k_is)
    (case c_Heap_second => k_is)
    (case k_Heap_second => k_is)
    (case a_Heap_heft => k_is)
    (case i_Heap_heft => k_is)
    (case l_Heap_heft => k_is)
    (case c_Heap_heft => k_is)
    (case k_Heap_heft => k_is)
    (case a_Heap_listed => k_is)
    (case i_Heap_listed => k_is)
    (case l_Heap_listed => k_is)
    (case c_Heap_listed => k_is)
    (case k_Heap_listed => k_is)
    (case a_Heap_spread => k_is)
    (case i_Heap_spread => k_is)
    (case l_Heap_spread => k_is)
    (case c_Heap_spread => k_is)
    (case k_Heap_spread => k_is)
    (case a_consists_of => k_is)
    (case l_consists_of => k_is)
    (case c_consists_of => k_is)
    (case k_consists_of => k_is)
    (case a_atom => k_is)
    (case l_atom => k_is)
    (case c_atom => k_is)
    (case k_atom => k_is)
    (case a_settle => k_is)
    (case l_settle => k_is)
    (case c_settle => k_is)
    (case k_settle => k_is)
    (case a_take => k_is)
    (case l_take => k_is)
    (case c_take => k_is)
    (case k_take => k_is)
    (case a_end_of_part => k_is)
    (case l_end_of_part => k_is)
    (case c_end_of_part => k_is)
    (case k_end_of_part => k_is)
    (case a_read => k_is)
    (case l_read => k_is)
    (case c_read => k_is)
    (case k_read => k_is)
    (case a_quoted => k_is)
    (case l_quoted => k_is)
    (case c_quoted => k_is)
    (case k_quoted => k_is)
    (case a_write => k_is)
    (case l_write => k_is)
    (case c_write => k_is)
    (case k_write => k_is)
    (case a_put_members => k_is)
    (case l_put_members => k_is)
    (case c_put_members => k_is)
    (case k_put_members => k_is)
    (case a_plain => k_is)
    (case l_plain => k_is)
    (case c_plain => k_is)
    (case k_plain => k_is)
    (case a_law_box => k_is)
    (case l_law_box => k_is)
    (case c_law_box => k_is)
    (case k_law_box => k_is)
    (case a_law_take => k_is)
    (case l_law_take => k_is)
    (case c_law_take => k_is)
    (case k_law_take => k_is)
    (case a_law_word => k_is)
    (case l_law_word => k_is)
    (case c_law_word => k_is)
    (case k_law_word => k_is)
    (case a_law_gap => k_is)
    (case l_law_gap => k_is)
    (case c_law_gap => k_is)
    (case k_law_gap => k_is)
    (case a_law_listed => k_is)
    (case l_law_listed => k_is)
    (case c_law_listed => k_is)
    (case k_law_listed => k_is)
    (case a_law_dressed => k_is)
    (case l_law_dressed => k_is)
    (case c_law_dressed => k_is)
    (case k_law_dressed => k_is)
    (case a_law_group => k_is)
    (case l_law_group => k_is)
    (case c_law_group => k_is)
    (case k_law_group => k_is)
    (case a_law_value => k_is)
    (case l_law_value => k_is)
    (case c_law_value => k_is)
    (case k_law_value => k_is)
    (case a_law_deep => k_is)
    (case l_law_deep => k_is)
    (case c_law_deep => k_is)
    (case k_law_deep => k_is)
    (case a_law => k_is)
    (case l_law => k_is)
    (case c_law => k_is)
    (case k_law => k_is)
    (case v_NIL => k_is)
    (case v_EMPTY => k_is)
    (case v_NUMBER => k_is)
    (case v_NAME => k_is)
    (case v_PAIR => k_is)
    (case v_HEAVY => k_is)
    (case v_BLANKS => k_is)
    (case v_DIGITS => k_is)
    (case v_LOWER => k_is)
    (case v_NAME_SIGNS => k_is)
    (case v_WORD_SIGNS => k_is)
    (case v_LONGEST_NUMBER => k_is)
    (case v_LONGEST_NAME => k_is)
    (case z_int => k_is)
    (case z_isinstance => k_is)
    (case z_len => k_is)
    (case z_list => k_is)
    (case z_max => k_is)
    (case z_min => k_is)
    (case z_range => k_is)
    (case z_reversed => k_is)
    (case z_str => k_is)
    (case z_sum => k_is)
