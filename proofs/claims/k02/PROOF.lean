import PyProof.Rows.All
import Wide.All
import OpenK.AllK
import Wide.FinOn
import HandS.ForMost
import HandS.Flow
import HandS.Wide
import HandS.IsInst
import HandS.StrMore
import HandS.RevRange
import PySem.Challenge.RW_whittle_k02_weights_sizes_members
import HandS.Codes
import HandS.Rev
import HandS.Walk
set_option Elab.async false
set_option linter.all false
set_option maxRecDepth 100000
set_option maxHeartbeats 4000000
/-! Whittle, the base: further rules over the hand layer, the frame, what a def is in the text. -/
namespace Wh
open PySem L2 PySem.Spec PyProof.Rows

section
variable {X : Cx}
/-- a text times a number -/
theorem op_mul_str : OpR X (binaryOp .Mult) (fun x y H Q => ∃ i n, x = .str i ∧ y = .int n ∧ n < 2 ^ 24 ∧ -(2 ^ 24) < n ∧ (0 ≤ n → (i.length : Int) * n ≤ 2 ^ 24) ∧ Q (.str (Txt.mul i n)) H) := by
  intro pins s σ H x y v u Q I rx ry h
  obtain ⟨i, n, rfl, rfl, hz, hz2, hl, q⟩ := h
  obtain ⟨t, rfl⟩ := rx
  obtain ⟨t', rfl⟩ := ry
  refine SB.mul ⟨?_, ?_, ?_⟩ fun t' k => ⟨.str (Txt.mul i n), H, I.tok _, ⟨_, rfl⟩, q⟩
  · rw [decide_eq_false (by omega), decide_eq_false (by omega)]; rfl
  · intro h1 h2 h3
    have hn : 0 < n := by omega
    have := hl (by omega)
    have e : (i.length : Int) ≤ (2 ^ 63 - 1) / n := by
      rw [Int.le_ediv_iff_mul_le hn]
      omega
    omega
  · intro h1 h2
    have h3 := hl (by omega)
    unfold Builtin.Str.tooLong
    have e : ((i.length * n.toNat : Nat) : Int) = (i.length : Int) * n := by
      rw [Int.natCast_mul, Int.toNat_of_nonneg (by omega)]
    have e2 : i.length * n.toNat ≤ 2 ^ 24 := by omega
    simp [sizeLine]
    omega
/-- a power of a wide base -/
theorem op_powW : OpR X (binaryOp .Pow) (rI (fun i j => 0 ≤ j ∧ (Builtin.Int.intBits i : Int) * j ≤ 2 ^ 27) fun i j => .int (i ^ j.toNat)) :=
  opI fun _ _ _ _ _ _ _ hc q => pow_int hc.1 hc.2 q
end

/-- all that was tracked, but at F, is as it was -/
def Kp (F : List Addr) (H H' : Hp) : Prop := ∀ b o, b ∉ F → H b = some o → H' b = some o
theorem Kp.refl {F : List Addr} (H : Hp) : Kp F H H := fun _ _ _ h => h
theorem Kp.trans {F : List Addr} {H H1 H2 : Hp} (a : Kp F H H1) (b : Kp F H1 H2) : Kp F H H2 := fun c o h e => b c o h (a c o h e)
theorem Kp.of_same {F : List Addr} {H H' : Hp} (s : Same H H') : Kp F H H' := fun b o _ h => s b o h
theorem Kp.mono {F G : List Addr} {H H' : Hp} (a : Kp F H H') (h : ∀ b ∈ F, b ∈ G) : Kp G H H' := fun b o n e => a b o (fun z => n (h b z)) e
theorem Kp.new {F : List Addr} {H H' : Hp} {p : Addr} {o : HO} (a : Kp F H H') (h : H p = none) : Kp F H (upd H' p o) := fun b u n e => by
  rw [upd_ne (ne_of_none e h)]
  exact a b u n e
theorem Kp.new' {F : List Addr} {H H' : Hp} {p : Addr} {o : HO} (a : Kp F H H') (h : H' p = none) : Kp F H (upd H' p o) := fun b u n e => by
  rw [upd_ne (ne_of_none (a b u n e) h)]
  exact a b u n e
theorem Kp.at {F : List Addr} {H H' : Hp} {p : Addr} {o : HO} (a : Kp F H H') (h : p ∈ F) : Kp F H (upd H' p o) := fun b u n e => by
  rw [upd_ne (fun z => n (by rw [z]; exact h))]
  exact a b u n e
theorem Kp.same {H H' : Hp} (a : Kp [] H H') : Same H H' := fun b o e => a b o (by simp) e
theorem Kp.none {F : List Addr} {H H' : Hp} (a : Kp F H H') {p : Addr} (h : p ∉ F) (e : H' p = Option.none) : H p = Option.none := by
  cases q : H p with
  | none => rfl
  | some o => rw [a p o h q] at e; cases e

/-- a def of the text as the top has left it -/
structure DefAt (K : PySem.W.Frag) (mg : Str → Option Value) (name : Str) (st : Stmt) (ps : List Str) (f : Addr) (fd : FuncData) : Prop where
  mg : mg name = some (.ref f)
  fn : Fun K name name st f fd
  b : Binds K fd ps []
structure MethAt (K : PySem.W.Frag) (C : Addr) (name qual : Str) (st : Stmt) (ps : List Str) (f : Addr) (fd : FuncData) : Prop where
  me : Meth K C name f
  fn : Fun K name qual st f fd
  b : Binds K fd ps []
end Wh
set_option Elab.async false
set_option linter.all false
set_option maxRecDepth 100000
set_option maxHeartbeats 4000000
/-! The text by places. -/
namespace Wh
open PySem L2 PySem.Spec PyProof.Rows
def top (i : Nat) : Stmt := PySem.Challenge.pw_whittle_k02_weights_sizes_members.main.body.getD i (.Pass ⟨0, 0, 0, 0⟩)
abbrev s_wall : Stmt := top 0
abbrev s_Heap__init : Stmt := inClass (top 8) 0
abbrev s_Heap_copy : Stmt := inClass (top 8) 1
abbrev s_Heap_new : Stmt := inClass (top 8) 2
abbrev s_Heap_number : Stmt := inClass (top 8) 3
abbrev s_Heap_name : Stmt := inClass (top 8) 4
abbrev s_Heap_pair : Stmt := inClass (top 8) 5
abbrev s_Heap_shape : Stmt := inClass (top 8) 6
abbrev s_Heap_face : Stmt := inClass (top 8) 7
abbrev s_Heap_first : Stmt := inClass (top 8) 8
abbrev s_Heap_second : Stmt := inClass (top 8) 9
abbrev s_Heap_heft : Stmt := inClass (top 8) 10
abbrev s_Heap_listed : Stmt := inClass (top 8) 11
abbrev s_Heap_spread : Stmt := inClass (top 8) 12
abbrev s_BadText__init : Stmt := inClass (top 11) 0
abbrev s_consists_of : Stmt := top 20
abbrev s_atom : Stmt := top 21
abbrev s_settle : Stmt := top 22
abbrev s_take : Stmt := top 23
abbrev s_end_of_part : Stmt := top 24
abbrev s_read : Stmt := top 25
abbrev s_quoted : Stmt := top 26
abbrev s_write : Stmt := top 27
abbrev s_put_members : Stmt := top 28
abbrev s_weight_of : Stmt := top 30
abbrev s_size_of : Stmt := top 31
abbrev s_members : Stmt := top 32
abbrev s_list_text : Stmt := top 33
abbrev s_law_box : Stmt := top 35
abbrev s_law_take : Stmt := top 36
abbrev s_law_name : Stmt := top 37
abbrev s_law_word : Stmt := top 38
abbrev s_law_gap : Stmt := top 39
abbrev s_law_listed : Stmt := top 40
abbrev s_law_dressed : Stmt := top 41
abbrev s_law_joined : Stmt := top 42
abbrev s_law_rows : Stmt := top 43
abbrev s_law_inside : Stmt := top 44
abbrev s_law_great : Stmt := top 45
abbrev s_law_whole : Stmt := top 46
abbrev s_law_right : Stmt := top 47
abbrev s_law : Stmt := top 48
/-- what the top has left: where each def, class and constant stands -/
structure Txt (K : PySem.W.Frag) (mg : Str → Option Value) where
  C_Heap : Addr
  a_wall : Addr
  d_wall : FuncData
  wall : DefAt K mg "_wall" s_wall ["k"] a_wall d_wall
  a_Heap__init : Addr
  d_Heap__init : FuncData
  Heap__init : MethAt K C_Heap "__init__" "Heap.__init__" s_Heap__init ["self"] a_Heap__init d_Heap__init
  a_Heap_copy : Addr
  d_Heap_copy : FuncData
  Heap_copy : MethAt K C_Heap "copy" "Heap.copy" s_Heap_copy ["self"] a_Heap_copy d_Heap_copy
  a_Heap_new : Addr
  d_Heap_new : FuncData
  Heap_new : MethAt K C_Heap "_new" "Heap._new" s_Heap_new ["self", "shape", "face", "first", "second", "heft"] a_Heap_new d_Heap_new
  a_Heap_number : Addr
  d_Heap_number : FuncData
  Heap_number : MethAt K C_Heap "number" "Heap.number" s_Heap_number ["self", "n"] a_Heap_number d_Heap_number
  a_Heap_name : Addr
  d_Heap_name : FuncData
  Heap_name : MethAt K C_Heap "name" "Heap.name" s_Heap_name ["self", "text"] a_Heap_name d_Heap_name
  a_Heap_pair : Addr
  d_Heap_pair : FuncData
  Heap_pair : MethAt K C_Heap "pair" "Heap.pair" s_Heap_pair ["self", "first", "second"] a_Heap_pair d_Heap_pair
  a_Heap_shape : Addr
  d_Heap_shape : FuncData
  Heap_shape : MethAt K C_Heap "shape" "Heap.shape" s_Heap_shape ["self", "value"] a_Heap_shape d_Heap_shape
  a_Heap_face : Addr
  d_Heap_face : FuncData
  Heap_face : MethAt K C_Heap "face" "Heap.face" s_Heap_face ["self", "value"] a_Heap_face d_Heap_face
  a_Heap_first : Addr
  d_Heap_first : FuncData
  Heap_first : MethAt K C_Heap "first" "Heap.first" s_Heap_first ["self", "value"] a_Heap_first d_Heap_first
  a_Heap_second : Addr
  d_Heap_second : FuncData
  Heap_second : MethAt K C_Heap "second" "Heap.second" s_Heap_second ["self", "value"] a_Heap_second d_Heap_second
  a_Heap_heft : Addr
  d_Heap_heft : FuncData
  Heap_heft : MethAt K C_Heap "heft" "Heap.heft" s_Heap_heft ["self", "value"] a_Heap_heft d_Heap_heft
  a_Heap_listed : Addr
  d_Heap_listed : FuncData
  Heap_listed : MethAt K C_Heap "listed" "Heap.listed" s_Heap_listed ["self", "ids"] a_Heap_listed d_Heap_listed
  a_Heap_spread : Addr
  d_Heap_spread : FuncData
  Heap_spread : MethAt K C_Heap "spread" "Heap.spread" s_Heap_spread ["self", "value"] a_Heap_spread d_Heap_spread
  a_consists_of : Addr
  d_consists_of : FuncData
  consists_of : DefAt K mg "_consists_of" s_consists_of ["word", "signs"] a_consists_of d_consists_of
  a_atom : Addr
  d_atom : FuncData
  atom : DefAt K mg "_atom" s_atom ["heap", "word"] a_atom d_atom
  a_settle : Addr
  d_settle : FuncData
  settle : DefAt K mg "_settle" s_settle ["heap", "waiting", "value"] a_settle d_settle
  a_take : Addr
  d_take : FuncData
  take : DefAt K mg "_take" s_take ["heap", "waiting", "part", "at"] a_take d_take
  a_end_of_part : Addr
  d_end_of_part : FuncData
  end_of_part : DefAt K mg "_end_of_part" s_end_of_part ["text", "at"] a_end_of_part d_end_of_part
  a_read : Addr
  d_read : FuncData
  read : DefAt K mg "read" s_read ["heap", "text"] a_read d_read
  a_quoted : Addr
  d_quoted : FuncData
  quoted : DefAt K mg "_quoted" s_quoted ["heap", "value"] a_quoted d_quoted
  a_write : Addr
  d_write : FuncData
  write : DefAt K mg "write" s_write ["heap", "value"] a_write d_write
  a_put_members : Addr
  d_put_members : FuncData
  put_members : DefAt K mg "_put_members" s_put_members ["ids", "todo"] a_put_members d_put_members
  a_weight_of : Addr
  d_weight_of : FuncData
  weight_of : DefAt K mg "weight_of" s_weight_of ["text"] a_weight_of d_weight_of
  a_size_of : Addr
  d_size_of : FuncData
  size_of : DefAt K mg "size_of" s_size_of ["text"] a_size_of d_size_of
  a_members : Addr
  d_members : FuncData
  members : DefAt K mg "members" s_members ["text"] a_members d_members
  a_list_text : Addr
  d_list_text : FuncData
  list_text : DefAt K mg "list_text" s_list_text ["texts"] a_list_text d_list_text
  a_law_box : Addr
  d_law_box : FuncData
  law_box : DefAt K mg "_law_box" s_law_box ["script", "place"] a_law_box d_law_box
  a_law_take : Addr
  d_law_take : FuncData
  law_take : DefAt K mg "_law_take" s_law_take ["box", "size"] a_law_take d_law_take
  a_law_name : Addr
  d_law_name : FuncData
  law_name : DefAt K mg "_law_name" s_law_name ["box"] a_law_name d_law_name
  a_law_word : Addr
  d_law_word : FuncData
  law_word : DefAt K mg "_law_word" s_law_word ["box"] a_law_word d_law_word
  a_law_gap : Addr
  d_law_gap : FuncData
  law_gap : DefAt K mg "_law_gap" s_law_gap ["dress", "before", "after"] a_law_gap d_law_gap
  a_law_listed : Addr
  d_law_listed : FuncData
  law_listed : DefAt K mg "_law_listed" s_law_listed ["told"] a_law_listed d_law_listed
  a_law_dressed : Addr
  d_law_dressed : FuncData
  law_dressed : DefAt K mg "_law_dressed" s_law_dressed ["dress", "told", "dressed"] a_law_dressed d_law_dressed
  a_law_joined : Addr
  d_law_joined : FuncData
  law_joined : DefAt K mg "_law_joined" s_law_joined ["dress", "rows"] a_law_joined d_law_joined
  a_law_rows : Addr
  d_law_rows : FuncData
  law_rows : DefAt K mg "_law_rows" s_law_rows ["box", "dress"] a_law_rows d_law_rows
  a_law_inside : Addr
  d_law_inside : FuncData
  law_inside : DefAt K mg "_law_inside" s_law_inside ["row", "way", "many"] a_law_inside d_law_inside
  a_law_great : Addr
  d_law_great : FuncData
  law_great : DefAt K mg "_law_great" s_law_great ["box", "rows"] a_law_great d_law_great
  a_law_whole : Addr
  d_law_whole : FuncData
  law_whole : DefAt K mg "_law_whole" s_law_whole ["number"] a_law_whole d_law_whole
  a_law_right : Addr
  d_law_right : FuncData
  law_right : DefAt K mg "_law_right" s_law_right ["row"] a_law_right d_law_right
  a_law : Addr
  d_law : FuncData
  law : DefAt K mg "law" s_law ["script"] a_law d_law
  cl_Heap : Cls K C_Heap
  mk_Heap : Mk K C_Heap a_Heap__init
  m_Heap : mg "Heap" = some (.ref C_Heap)
  nf__shapes : NoAttr K C_Heap "_shapes"
  nf__faces : NoAttr K C_Heap "_faces"
  nf__firsts : NoAttr K C_Heap "_firsts"
  nf__seconds : NoAttr K C_Heap "_seconds"
  nf__hefts : NoAttr K C_Heap "_hefts"
  nf__numbers : NoAttr K C_Heap "_numbers"
  nf__names : NoAttr K C_Heap "_names"
  nf__pairs : NoAttr K C_Heap "_pairs"
  t_NIL : Tok
  c_NIL : mg "NIL" = some (.int 0 t_NIL)
  t_EMPTY : Tok
  c_EMPTY : mg "EMPTY" = some (.int 0 t_EMPTY)
  t_NUMBER : Tok
  c_NUMBER : mg "NUMBER" = some (.int 1 t_NUMBER)
  t_NAME : Tok
  c_NAME : mg "NAME" = some (.int 2 t_NAME)
  t_PAIR : Tok
  c_PAIR : mg "PAIR" = some (.int 3 t_PAIR)
  t_HEAVY : Tok
  c_HEAVY : mg "HEAVY" = some (.int 100001 t_HEAVY)
  t_BLANKS : Tok
  c_BLANKS : mg "BLANKS" = some (.str " \n" t_BLANKS)
  t_DIGITS : Tok
  c_DIGITS : mg "DIGITS" = some (.str "0123456789" t_DIGITS)
  t_LOWER : Tok
  c_LOWER : mg "LOWER" = some (.str "abcdefghijklmnopqrstuvwxyz" t_LOWER)
  t_NAME_SIGNS : Tok
  c_NAME_SIGNS : mg "NAME_SIGNS" = some (.str "abcdefghijklmnopqrstuvwxyz0123456789" t_NAME_SIGNS)
  t_WORD_SIGNS : Tok
  c_WORD_SIGNS : mg "WORD_SIGNS" = some (.str "abcdefghijklmnopqrstuvwxyzABCDEFGHIJKLMNOPQRSTUVWXYZ0123456789" t_WORD_SIGNS)
  t_LONGEST_NUMBER : Tok
  c_LONGEST_NUMBER : mg "LONGEST_NUMBER" = some (.int 4 t_LONGEST_NUMBER)
  t_LONGEST_NAME : Tok
  c_LONGEST_NAME : mg "LONGEST_NAME" = some (.int 12 t_LONGEST_NAME)
  b_bool : mg "bool" = none
  b_int : mg "int" = none
  b_isinstance : mg "isinstance" = none
  b_len : mg "len" = none
  b_list : mg "list" = none
  b_min : mg "min" = none
  b_range : mg "range" = none
  b_reversed : mg "reversed" = none
  b_str : mg "str" = none
  b_sum : mg "sum" = none
theorem sc_wall : FnScope ["k"] ["k"] (defScope s_wall) := ⟨rfl, rfl, rfl, by decide +kernel, rfl, by decide +kernel, by decide +kernel⟩
theorem sc_Heap__init : FnScope ["self"] ["self"] (defScope s_Heap__init) := ⟨rfl, rfl, rfl, by decide +kernel, rfl, by decide +kernel, by decide +kernel⟩
theorem sc_Heap_copy : FnScope ["self"] ["self"] (defScope s_Heap_copy) := ⟨rfl, rfl, rfl, by decide +kernel, rfl, by decide +kernel, by decide +kernel⟩
theorem sc_Heap_new : FnScope ["self", "shape", "face", "first", "second", "heft", "value"] ["self", "shape", "face", "first", "second", "heft"] (defScope s_Heap_new) := ⟨rfl, rfl, rfl, by decide +kernel, rfl, by decide +kernel, by decide +kernel⟩
theorem sc_Heap_number : FnScope ["self", "n", "value"] ["self", "n"] (defScope s_Heap_number) := ⟨rfl, rfl, rfl, by decide +kernel, rfl, by decide +kernel, by decide +kernel⟩
theorem sc_Heap_name : FnScope ["self", "text", "value"] ["self", "text"] (defScope s_Heap_name) := ⟨rfl, rfl, rfl, by decide +kernel, rfl, by decide +kernel, by decide +kernel⟩
theorem sc_Heap_pair : FnScope ["self", "first", "second", "key", "value", "heft"] ["self", "first", "second"] (defScope s_Heap_pair) := ⟨rfl, rfl, rfl, by decide +kernel, rfl, by decide +kernel, by decide +kernel⟩
theorem sc_Heap_shape : FnScope ["self", "value"] ["self", "value"] (defScope s_Heap_shape) := ⟨rfl, rfl, rfl, by decide +kernel, rfl, by decide +kernel, by decide +kernel⟩
theorem sc_Heap_face : FnScope ["self", "value"] ["self", "value"] (defScope s_Heap_face) := ⟨rfl, rfl, rfl, by decide +kernel, rfl, by decide +kernel, by decide +kernel⟩
theorem sc_Heap_first : FnScope ["self", "value"] ["self", "value"] (defScope s_Heap_first) := ⟨rfl, rfl, rfl, by decide +kernel, rfl, by decide +kernel, by decide +kernel⟩
theorem sc_Heap_second : FnScope ["self", "value"] ["self", "value"] (defScope s_Heap_second) := ⟨rfl, rfl, rfl, by decide +kernel, rfl, by decide +kernel, by decide +kernel⟩
theorem sc_Heap_heft : FnScope ["self", "value"] ["self", "value"] (defScope s_Heap_heft) := ⟨rfl, rfl, rfl, by decide +kernel, rfl, by decide +kernel, by decide +kernel⟩
theorem sc_Heap_listed : FnScope ["self", "ids", "value", "member"] ["self", "ids"] (defScope s_Heap_listed) := ⟨rfl, rfl, rfl, by decide +kernel, rfl, by decide +kernel, by decide +kernel⟩
theorem sc_Heap_spread : FnScope ["self", "value", "ids"] ["self", "value"] (defScope s_Heap_spread) := ⟨rfl, rfl, rfl, by decide +kernel, rfl, by decide +kernel, by decide +kernel⟩
theorem sc_consists_of : FnScope ["word", "signs", "sign"] ["word", "signs"] (defScope s_consists_of) := ⟨rfl, rfl, rfl, by decide +kernel, rfl, by decide +kernel, by decide +kernel⟩
theorem sc_atom : FnScope ["heap", "word"] ["heap", "word"] (defScope s_atom) := ⟨rfl, rfl, rfl, by decide +kernel, rfl, by decide +kernel, by decide +kernel⟩
theorem sc_settle : FnScope ["heap", "waiting", "value"] ["heap", "waiting", "value"] (defScope s_settle) := ⟨rfl, rfl, rfl, by decide +kernel, rfl, by decide +kernel, by decide +kernel⟩
theorem sc_take : FnScope ["heap", "waiting", "part", "at", "members", "value"] ["heap", "waiting", "part", "at"] (defScope s_take) := ⟨rfl, rfl, rfl, by decide +kernel, rfl, by decide +kernel, by decide +kernel⟩
theorem sc_end_of_part : FnScope ["text", "at", "end"] ["text", "at"] (defScope s_end_of_part) := ⟨rfl, rfl, rfl, by decide +kernel, rfl, by decide +kernel, by decide +kernel⟩
theorem sc_read : FnScope ["heap", "text", "waiting", "value", "at", "end"] ["heap", "text"] (defScope s_read) := ⟨rfl, rfl, rfl, by decide +kernel, rfl, by decide +kernel, by decide +kernel⟩
theorem sc_quoted : FnScope ["heap", "value", "others"] ["heap", "value"] (defScope s_quoted) := ⟨rfl, rfl, rfl, by decide +kernel, rfl, by decide +kernel, by decide +kernel⟩
theorem sc_write : FnScope ["heap", "value", "written", "todo", "part", "inner"] ["heap", "value"] (defScope s_write) := ⟨rfl, rfl, rfl, by decide +kernel, rfl, by decide +kernel, by decide +kernel⟩
theorem sc_put_members : FnScope ["ids", "todo", "k"] ["ids", "todo"] (defScope s_put_members) := ⟨rfl, rfl, rfl, by decide +kernel, rfl, by decide +kernel, by decide +kernel⟩
theorem sc_weight_of : FnScope ["text", "heap", "value", "weights", "part"] ["text"] (defScope s_weight_of) := ⟨rfl, rfl, rfl, by decide +kernel, rfl, by decide +kernel, by decide +kernel⟩
theorem sc_size_of : FnScope ["text", "heap", "value", "sizes", "part"] ["text"] (defScope s_size_of) := ⟨rfl, rfl, rfl, by decide +kernel, rfl, by decide +kernel, by decide +kernel⟩
theorem sc_members : FnScope ["text", "heap", "ids", "member"] ["text"] (defScope s_members) := ⟨rfl, rfl, rfl, by decide +kernel, rfl, by decide +kernel, by decide +kernel⟩
theorem sc_list_text : FnScope ["texts", "heap", "text"] ["texts"] (defScope s_list_text) := ⟨rfl, rfl, rfl, by decide +kernel, rfl, by decide +kernel, by decide +kernel⟩
theorem sc_law_box : FnScope ["script", "place", "cell", "great", "seed"] ["script", "place"] (defScope s_law_box) := ⟨rfl, rfl, rfl, by decide +kernel, rfl, by decide +kernel, by decide +kernel⟩
theorem sc_law_take : FnScope ["box", "size", "drawn", "mixed"] ["box", "size"] (defScope s_law_take) := ⟨rfl, rfl, rfl, by decide +kernel, rfl, by decide +kernel, by decide +kernel⟩
theorem sc_law_name : FnScope ["box", "name", "k"] ["box"] (defScope s_law_name) := ⟨rfl, rfl, rfl, by decide +kernel, rfl, by decide +kernel, by decide +kernel⟩
theorem sc_law_word : FnScope ["box", "way", "number", "name"] ["box"] (defScope s_law_word) := ⟨rfl, rfl, rfl, by decide +kernel, rfl, by decide +kernel, by decide +kernel⟩
theorem sc_law_gap : FnScope ["dress", "before", "after", "gap"] ["dress", "before", "after"] (defScope s_law_gap) := ⟨rfl, rfl, rfl, by decide +kernel, rfl, by decide +kernel, by decide +kernel⟩
theorem sc_law_listed : FnScope ["told"] ["told"] (defScope s_law_listed) := ⟨rfl, rfl, rfl, by decide +kernel, rfl, by decide +kernel, by decide +kernel⟩
theorem sc_law_dressed : FnScope ["dress", "told", "dressed", "text", "one"] ["dress", "told", "dressed"] (defScope s_law_dressed) := ⟨rfl, rfl, rfl, by decide +kernel, rfl, by decide +kernel, by decide +kernel⟩
theorem sc_law_joined : FnScope ["dress", "rows", "row", "told", "text", "weight"] ["dress", "rows"] (defScope s_law_joined) := ⟨rfl, rfl, rfl, by decide +kernel, rfl, by decide +kernel, by decide +kernel⟩
theorem sc_law_rows : FnScope ["box", "dress", "words", "turns", "k", "rows", "start", "many", "inner"] ["box", "dress"] (defScope s_law_rows) := ⟨rfl, rfl, rfl, by decide +kernel, rfl, by decide +kernel, by decide +kernel⟩
theorem sc_law_inside : FnScope ["row", "way", "many", "first", "last", "told", "inner", "weight", "size"] ["row", "way", "many"] (defScope s_law_inside) := ⟨rfl, rfl, rfl, by decide +kernel, rfl, by decide +kernel, by decide +kernel⟩
theorem sc_law_great : FnScope ["box", "rows", "size", "at", "way", "many", "row", "told", "text", "wide"] ["box", "rows"] (defScope s_law_great) := ⟨rfl, rfl, rfl, by decide +kernel, rfl, by decide +kernel, by decide +kernel⟩
theorem sc_law_whole : FnScope ["number"] ["number"] (defScope s_law_whole) := ⟨rfl, rfl, rfl, by decide +kernel, rfl, by decide +kernel, by decide +kernel⟩
theorem sc_law_right : FnScope ["row", "weight", "size", "got", "again"] ["row"] (defScope s_law_right) := ⟨rfl, rfl, rfl, by decide +kernel, rfl, by decide +kernel, by decide +kernel⟩
theorem sc_law : FnScope ["script", "dress", "rows", "row", "texts", "handed", "told"] ["script"] (defScope s_law) := ⟨rfl, rfl, rfl, by decide +kernel, rfl, by decide +kernel, by decide +kernel⟩
end Wh
set_option Elab.async false
set_option linter.all false
set_option maxRecDepth 100000
set_option maxHeartbeats 4000000
/-! The mathematics of values and their texts: trees, the one form, parts of a text, the reading machine. -/
namespace Wh
open PySem L2
def isDig (c : Nat) : Bool := decide (48 ≤ c) && decide (c ≤ 57)
def isLow (c : Nat) : Bool := decide (97 ≤ c) && decide (c ≤ 122)
def isUp (c : Nat) : Bool := decide (65 ≤ c) && decide (c ≤ 90)
def isNs (c : Nat) : Bool := isLow c || isDig c
def isW (c : Nat) : Bool := isLow c || isUp c || isDig c
def isB (c : Nat) : Bool := c == 32 || c == 10
inductive Tr where
  | nil | num (n : Nat) | nam (l : List Nat) | cons (a b : Tr)
def quoL : List Nat := [113, 117, 111, 116, 101]
def mkl : List Tr → Tr
  | [] => .nil
  | t :: l => .cons t (mkl l)
def quo (t : Tr) : Tr := mkl [.nam quoL, t]
def nmOk (l : List Nat) : Bool := match l with
  | [] => false
  | c :: _ => isLow c && decide (l.length ≤ 12) && l.all isNs
def isQ : Tr → Bool
  | .nam l => l == quoL
  | _ => false
def isNil : Tr → Bool
  | .nil => true
  | _ => false
def isL : Tr → Bool
  | .nil => true
  | .cons _ _ => true
  | _ => false
/-- a value: numbers to 9999, names, lists -/
def Pr : Tr → Prop
  | .nil => True
  | .num n => n ≤ 9999
  | .nam l => nmOk l = true
  | .cons a b => Pr a ∧ Pr b ∧ isL b = true
/-- the text, the text as the rest of a list, the text of the only member -/
def tx : Tr → List Nat × List Nat × Option (List Nat)
  | .nil => ([40, 41], [41], none)
  | .num n => (TL.numL n, [], none)
  | .nam l => (l, [], none)
  | .cons a b =>
    let A := tx a
    let B := tx b
    ((match isQ a, B.2.2 with
      | true, some c => 39 :: c
      | _, _ => 40 :: (A.1 ++ B.2.1)), 32 :: (A.1 ++ B.2.1), if isNil b then some A.1 else none)
def can (t : Tr) : List Nat := (tx t).1
def tail (t : Tr) : List Nat := (tx t).2.1
theorem can_nil : can .nil = [40, 41] := rfl
theorem can_num (n : Nat) : can (.num n) = TL.numL n := rfl
theorem can_nam (l : List Nat) : can (.nam l) = l := rfl
theorem tail_nil : tail .nil = [41] := rfl
theorem tail_cons (a b : Tr) : tail (.cons a b) = 32 :: (can a ++ tail b) := rfl
theorem can_quo (t : Tr) : can (quo t) = 39 :: can t := rfl
/-- the quoted value of a list that is written with the sign -/
def quoted : Tr → Option Tr
  | .cons a (.cons c .nil) => if isQ a then some c else none
  | _ => none
theorem can_quoted {t c : Tr} (h : quoted t = some c) : can t = 39 :: can c := by
  cases t with
  | cons a b =>
    cases b with
    | cons c' d =>
      cases d with
      | nil =>
        change (if isQ a = true then some c' else none) = some c at h
        by_cases q : isQ a = true
        · rw [if_pos q] at h
          cases h
          show (tx (.cons a (.cons c .nil))).1 = _
          simp only [tx, q, isNil]
          rfl
        · rw [if_neg q] at h; cases h
      | _ => simp [quoted] at h
    | _ => simp [quoted] at h
  | _ => simp [quoted] at h
theorem can_plain {a b : Tr} (h : quoted (.cons a b) = none) : can (.cons a b) = 40 :: (can a ++ tail b) := by
  show (tx (.cons a b)).1 = _
  cases q : isQ a with
  | false => simp only [tx, q]; rfl
  | true =>
    cases b with
    | cons c d =>
      cases d with
      | nil => simp [quoted, q] at h
      | _ => simp only [tx, q, isNil]; rfl
    | _ => simp only [tx, q]; rfl
def spread : Tr → List Tr
  | .cons a b => a :: spread b
  | _ => []
theorem mkl_spread : ∀ {t : Tr}, isL t = true → Pr t → mkl (spread t) = t
  | .nil, _, _ => rfl
  | .num _, h, _ => by cases h
  | .nam _, h, _ => by cases h
  | .cons a b, _, p => by
    show Tr.cons a (mkl (spread b)) = _
    rw [mkl_spread p.2.2 p.2.1]
theorem spread_mkl : ∀ l : List Tr, spread (mkl l) = l
  | [] => rfl
  | t :: l => by show t :: spread (mkl l) = _; rw [spread_mkl l]
theorem mkl_L : ∀ l : List Tr, isL (mkl l) = true
  | [] => rfl
  | _ :: _ => rfl
theorem mkl_Pr : ∀ {l : List Tr}, (∀ t ∈ l, Pr t) → Pr (mkl l)
  | [], _ => trivial
  | t :: l, h => ⟨h t (by simp), mkl_Pr fun u hu => h u (by simp [hu]), mkl_L l⟩
theorem tail_mkl : ∀ l : List Tr, tail (mkl l) = l.flatMap (fun t => 32 :: can t) ++ [41]
  | [] => rfl
  | t :: l => by
    show 32 :: (can t ++ tail (mkl l)) = _
    rw [tail_mkl l]
    simp [List.flatMap_cons]
theorem joinL_cons (S p : List Nat) : ∀ l : List (List Nat), TL.joinL S (p :: l) = p ++ l.flatMap (fun q => S ++ q)
  | [] => by simp [TL.joinL]
  | q :: l => by
    show p ++ (S ++ TL.joinL S (q :: l)) = _
    rw [joinL_cons S q l]
    simp [List.flatMap_cons]
/-- the law's own text of a list -/
def listedL (l : List (List Nat)) : List Nat :=
  if l.length = 2 ∧ l[0]? = some quoL then 39 :: (l[1]?.getD []) else 40 :: (TL.joinL [32] l ++ [41])
theorem numL_head (n : Nat) : ∃ c r, TL.numL n = c :: r ∧ isDig c = true := by
  have h := TL.numL_ne n
  cases e : TL.numL n with
  | nil => exact absurd e h
  | cons c r =>
    refine ⟨c, r, rfl, ?_⟩
    have := TL.numL_digits n c (by rw [e]; simp)
    simp [isDig, this]
theorem can_isQ {t : Tr} (h : can t = quoL) : isQ t = true := by
  cases t with
  | nil => cases h
  | num n =>
    obtain ⟨c, r, e, d⟩ := numL_head n
    rw [can_num, e] at h
    cases h
    exact absurd d (by decide)
  | nam l => rw [can_nam] at h; rw [h]; rfl
  | cons a b =>
    cases q : quoted (.cons a b) with
    | none => rw [can_plain q] at h; cases h
    | some c => rw [can_quoted q] at h; cases h
theorem isQ_can {t : Tr} (h : isQ t = true) : t = .nam quoL := by
  cases t with
  | nam l => rw [show l = quoL from by simpa [isQ] using h]
  | _ => cases h
theorem listed_can (ts : List Tr) : listedL (ts.map can) = can (mkl ts) := by
  unfold listedL
  by_cases h : (ts.map can).length = 2 ∧ (ts.map can)[0]? = some quoL
  · rw [if_pos h]
    obtain ⟨h1, h2⟩ := h
    match ts, h1 with
    | [a, b], _ =>
      have e : can a = quoL := by simpa using h2
      rw [isQ_can (can_isQ e)]
      rfl
  · rw [if_neg h]
    cases ts with
    | nil => rfl
    | cons a l =>
      have q : quoted (mkl (a :: l)) = none := by
        cases l with
        | nil => rfl
        | cons b m =>
          cases m with
          | nil =>
            show (if isQ a then some b else none) = none
            rw [if_neg]
            intro z
            apply h
            rw [isQ_can z]
            exact ⟨rfl, rfl⟩
          | cons c m => rfl
      rw [show mkl (a :: l) = Tr.cons a (mkl l) from rfl, can_plain q, tail_mkl, List.map_cons, joinL_cons]
      simp [List.flatMap_map]
/-! ### the parts of a text -/
def flush (cur : List Nat) : List (List Nat) := match cur with
  | [] => []
  | c :: r => [c :: r]
def tkA : List Nat → List Nat → List (List Nat)
  | cur, [] => flush cur
  | cur, c :: r => if isW c then tkA (cur ++ [c]) r else flush cur ++ ((if isB c then [] else [[c]]) ++ tkA [] r)
def tk (l : List Nat) : List (List Nat) := tkA [] l
theorem tkA_head : ∀ (b cur : List Nat), (∀ c, b.head? = some c → isW c = false) → tkA cur b = flush cur ++ tkA [] b
  | [], cur, _ => by simp [tkA, flush]
  | c :: r, cur, h => by
    have hc : isW c = false := h c rfl
    simp [tkA, hc, flush]
theorem tkA_app1 : ∀ (a cur b : List Nat), (∀ c, b.head? = some c → isW c = false) → tkA cur (a ++ b) = tkA cur a ++ tkA [] b
  | [], cur, b, h => by rw [List.nil_append, tkA_head b cur h]; rfl
  | c :: r, cur, b, h => by
    by_cases hc : isW c = true
    · simp only [List.cons_append, tkA, hc, if_true]
      exact tkA_app1 r _ b h
    · simp only [List.cons_append, tkA, hc, if_false, List.append_assoc]
      rw [tkA_app1 r [] b h]
      simp
theorem tkA_N {c : Nat} (cur l : List Nat) (h : ¬ isW c = true) : tkA cur (c :: l) = flush cur ++ ((if isB c then [] else [[c]]) ++ tkA [] l) := by
  simp only [tkA, h, if_false]
  simp
theorem tkA_app2 : ∀ (a cur b : List Nat), a ≠ [] → (∀ c, a.getLast? = some c → isW c = false) → tkA cur (a ++ b) = tkA cur a ++ tkA [] b
  | [], _, _, h, _ => absurd rfl h
  | [c], cur, b, _, h => by
    have hc : isW c = false := h c rfl
    simp [tkA, hc, flush]
  | c :: d :: r, cur, b, _, h => by
    have h' : ∀ x, (d :: r).getLast? = some x → isW x = false := fun x hx => h x (by rw [List.getLast?_cons_cons]; exact hx)
    by_cases hc : isW c = true
    · simp only [List.cons_append, tkA, hc, if_true]
      exact tkA_app2 (d :: r) (cur ++ [c]) b (by simp) h'
    · rw [List.cons_append, tkA_N _ _ hc, tkA_N _ _ hc, tkA_app2 (d :: r) [] b (by simp) h']
      simp [List.append_assoc]
/-- two texts that may stand side by side -/
def sepOk (a b : List Nat) : Prop := (∀ c, b.head? = some c → isW c = false) ∨ (∀ c, a.getLast? = some c → isW c = false)
theorem tk_app {a b : List Nat} (h : sepOk a b) : tk (a ++ b) = tk a ++ tk b := by
  rcases h with h | h
  · exact tkA_app1 a [] b h
  · by_cases e : a = []
    · subst e; rfl
    · exact tkA_app2 a [] b e h
theorem tk_blanks : ∀ {g : List Nat}, g.all isB = true → tk g = []
  | [], _ => rfl
  | c :: r, h => by
    have h1 : isB c = true := by simp at h; exact h.1
    have h2 : r.all isB = true := by simp at h; simpa using h.2
    have w : isW c = false := by
      simp [isB] at h1
      rcases h1 with rfl | rfl <;> rfl
    have := tk_blanks h2
    unfold tk at this ⊢
    simp [tkA, w, h1, flush, this]
theorem blank_notW {c : Nat} (h : isB c = true) : isW c = false := by
  simp [isB] at h
  rcases h with rfl | rfl <;> rfl
/-- with a gap between them -/
theorem tk_gap {a g b : List Nat} (hg : g.all isB = true) (h : g = [] → sepOk a b) : tk (a ++ g ++ b) = tk a ++ tk b := by
  by_cases e : g = []
  · subst e
    rw [List.append_nil]
    exact tk_app (h rfl)
  · have hd : ∀ c, g.head? = some c → isW c = false := fun c hc => by
      cases g with
      | nil => cases hc
      | cons x r => cases hc; simp at hg; exact blank_notW hg.1
    have hl : ∀ c, (a ++ g).getLast? = some c → isW c = false := fun c hc => by
      have hc : g.getLast? = some c := by
        cases q : g.getLast? with
        | none => exact absurd (List.getLast?_eq_none_iff.mp q) e
        | some x => rw [List.getLast?_append, q] at hc; exact hc
      have := List.mem_of_getLast? hc
      rw [List.all_eq_true] at hg
      exact blank_notW (hg c this)
    rw [tk_app (.inr hl), tk_app (.inl hd), tk_blanks hg, List.append_nil]
theorem tkA_W : ∀ (p cur : List Nat), p.all isW = true → tkA cur p = flush (cur ++ p)
  | [], cur, _ => by simp [tkA]
  | c :: r, cur, h => by
    simp at h
    simp only [tkA, h.1, if_true]
    rw [tkA_W r _ (by simpa using h.2)]
    simp
theorem tk_word {p : List Nat} (h : p.all isW = true) (n : p ≠ []) : tk p = [p] := by
  unfold tk
  rw [tkA_W p [] h]
  cases p with
  | nil => exact absurd rfl n
  | cons c r => rfl
/-- one step of the reader: a word -/
theorem tk_step_W {c : Nat} {r : List Nat} (h : isW c = true) : tk (c :: r) = (c :: r.takeWhile isW) :: tk (r.dropWhile isW) := by
  have e : c :: r = (c :: r.takeWhile isW) ++ r.dropWhile isW := by simp [List.takeWhile_append_dropWhile]
  have hh : ∀ x, (r.dropWhile isW).head? = some x → isW x = false := fun x hx => by
    have := List.head?_dropWhile_not isW r
    rw [hx] at this
    simpa using this
  have w : (c :: r.takeWhile isW).all isW = true := by
    simp [h, List.all_eq_true]
  calc tk (c :: r) = tk ((c :: r.takeWhile isW) ++ r.dropWhile isW) := by rw [← e]
    _ = tk (c :: r.takeWhile isW) ++ tk (r.dropWhile isW) := tk_app (.inl hh)
    _ = _ := by rw [tk_word w (by simp)]; rfl
theorem tk_step_S {c : Nat} {r : List Nat} (h : isW c = false) (hb : isB c = false) : tk (c :: r) = [c] :: tk r := by
  simp [tk, tkA, h, hb, flush]
theorem tk_step_B {c : Nat} {r : List Nat} (hb : isB c = true) : tk (c :: r) = tk r := by
  simp [tk, tkA, blank_notW hb, hb, flush]
end Wh
set_option Elab.async false
set_option linter.all false
set_option maxRecDepth 100000
set_option maxHeartbeats 4000000
/-! The reading machine, and what a dressed text is. -/
namespace Wh
open PySem L2
abbrev Wt := List (Option (List Tr))
def settle : Wt → Tr → Wt × Option Tr
  | [], t => ([], some t)
  | none :: w, t => settle w (quo t)
  | some l :: w, t => (some (l ++ [t]) :: w, none)
def atom (p : List Nat) : Option Tr := match p with
  | [] => none
  | c :: r =>
    if isDig c then (if 4 < (c :: r).length ∨ ¬ (c :: r).all isDig = true then none else if c = 48 ∧ c :: r ≠ [48] then none else some (.num (NumText.digitsVal (c :: r))))
    else if nmOk (c :: r) then some (.nam (c :: r)) else none
def take (w : Wt) (p : List Nat) : Option (Wt × Option Tr) :=
  if p = [40] then some (some [] :: w, none)
  else if p = [39] then some (none :: w, none)
  else if p = [41] then (match w with
    | some l :: w' => some (settle w' (mkl l))
    | _ => none)
  else (atom p).map (settle w)
def run : Wt → Option Tr → List (List Nat) → Option (Wt × Option Tr)
  | w, v, [] => some (w, v)
  | _, some _, _ :: _ => none
  | w, none, p :: ps => match take w p with
    | none => none
    | some q => run q.1 q.2 ps
theorem run_cons {w : Wt} {p : List Nat} {ps : List (List Nat)} {q : Wt × Option Tr} (h : take w p = some q) : run w none (p :: ps) = run q.1 q.2 ps := by
  simp [run, h]
/-- these parts are read as this value, wherever they stand -/
def Rd (t : Tr) (ts : List (List Nat)) : Prop := ∀ (w : Wt) (rest : List (List Nat)), run w none (ts ++ rest) = run (settle w t).1 (settle w t).2 rest
theorem Rd.atom {t : Tr} {p : List Nat} (h : atom p = some t) (n : p ≠ [40] ∧ p ≠ [39] ∧ p ≠ [41]) : Rd t [p] := fun w rest => by
  refine run_cons ?_
  unfold take
  rw [if_neg n.1, if_neg n.2.1, if_neg n.2.2, h]
  rfl
theorem Rd.quo {t : Tr} {ts : List (List Nat)} (h : Rd t ts) : Rd (quo t) ([39] :: ts) := fun w rest => by
  rw [List.cons_append, run_cons (q := (none :: w, none)) (by unfold take; rw [if_neg (by decide), if_pos rfl])]
  exact h (none :: w) rest
theorem run_members : ∀ (l : List Tr) (tss : List (List (List Nat))) (acc : List Tr) (w : Wt) (rest : List (List Nat)), Paired Rd l tss →
    run (some acc :: w) none (tss.flatten ++ rest) = run (some (acc ++ l) :: w) none rest
  | _, _, acc, w, rest, .nil => by simp
  | t :: l, ts :: tss, acc, w, rest, .cons h r => by
    rw [List.flatten_cons, List.append_assoc, h (some acc :: w)]
    show run (some (acc ++ [t]) :: w) none (tss.flatten ++ rest) = _
    rw [run_members l tss (acc ++ [t]) w rest r]
    simp
theorem Rd.lst {l : List Tr} {tss : List (List (List Nat))} (h : Paired Rd l tss) : Rd (mkl l) ([40] :: (tss.flatten ++ [[41]])) := fun w rest => by
  rw [List.cons_append, run_cons (q := (some [] :: w, none)) (by unfold take; rw [if_pos rfl]), List.append_assoc, run_members l tss [] w _ h]
  exact run_cons (by unfold take; rw [if_neg (by decide), if_neg (by decide), if_pos rfl]; rfl)
theorem Rd.run {t : Tr} {ts : List (List Nat)} (h : Rd t ts) : run [] none ts = some ([], some t) := by
  have := h [] []
  rw [List.append_nil] at this
  rw [this]
  rfl
/-! ### atoms -/
theorem digits_W {l : List Nat} (h : NumText.AllDigits l) : l.all isW = true := by
  rw [List.all_eq_true]
  intro c hc
  have := h c hc
  simp [isW, isDig, this]
theorem digits_dig {l : List Nat} (h : NumText.AllDigits l) : l.all isDig = true := by
  rw [List.all_eq_true]
  intro c hc
  have := h c hc
  simp [isDig, this]
theorem nm_W {l : List Nat} (h : nmOk l = true) : l.all isW = true ∧ l ≠ [] := by
  cases l with
  | nil => cases h
  | cons c r =>
    simp only [nmOk, Bool.and_eq_true] at h
    refine ⟨?_, by simp⟩
    rw [List.all_eq_true]
    intro x hx
    have := (List.all_eq_true.mp h.2) x hx
    simp only [isNs, Bool.or_eq_true] at this
    simp only [isW, Bool.or_eq_true]
    rcases this with h | h
    · exact .inl (.inl h)
    · exact .inr h
theorem W_plain {p : List Nat} (h : p.all isW = true) : p ≠ [40] ∧ p ≠ [39] ∧ p ≠ [41] := by
  refine ⟨?_, ?_, ?_⟩ <;> (intro e; subst e; exact absurd h (by decide))
theorem numL_zero {n : Nat} {r : List Nat} (h : TL.numL n = 48 :: r) : r = [] := by
  induction n using Nat.strongRecOn generalizing r with
  | _ n ih =>
    by_cases h10 : n < 10
    · rw [TL.numL_lt h10] at h
      exact (List.cons.inj h).2.symm
    · rw [TL.numL_step (by omega)] at h
      cases e : TL.numL (n / 10) with
      | nil => exact absurd e (TL.numL_ne _)
      | cons c q =>
        rw [e] at h
        cases h
        have hq := ih (n / 10) (by omega) e
        subst hq
        have e1 : n / 10 = 0 := by
          have := congrArg NumText.digitsVal e
          rw [TL.numL_val] at this
          exact this
        omega
theorem atom_num {n : Nat} (h : n ≤ 9999) : atom (TL.numL n) = some (Tr.num n) := by
  obtain ⟨c, r, e, d⟩ := numL_head n
  have l4 : (TL.numL n).length ≤ 4 := TL.numL_len (by decide) (by omega)
  have dg := digits_dig (TL.numL_digits n)
  have v := TL.numL_val n
  rw [e] at l4 dg v ⊢
  show (if isDig c then (if 4 < (c :: r).length ∨ ¬ (c :: r).all isDig = true then none else if c = 48 ∧ c :: r ≠ [48] then none else some (Tr.num (NumText.digitsVal (c :: r))))
    else if nmOk (c :: r) then some (Tr.nam (c :: r)) else none) = _
  rw [if_pos d, if_neg (fun z => z.elim (fun z => by omega) (fun z => z dg)), if_neg (by rintro ⟨rfl, z⟩; rw [numL_zero e] at z; exact z rfl), v]
theorem atom_nam {l : List Nat} (h : nmOk l = true) : atom l = some (Tr.nam l) := by
  cases l with
  | nil => cases h
  | cons c r =>
    have lo : isLow c = true := by simp only [nmOk, Bool.and_eq_true] at h; exact h.1.1
    have nd : isDig c = false := by
      simp [isLow] at lo
      simp [isDig]; omega
    show (if isDig c then (_ : Option Tr) else if nmOk (c :: r) then some (Tr.nam (c :: r)) else none) = _
    rw [if_neg (by rw [nd]; simp), if_pos h]
/-! ### a dressed text -/
/-- the text d is read as t; plain signs alone -/
structure Dr (t : Tr) (d : List Nat) : Prop where
  rd : Rd t (tk d)
  asc : ∀ c ∈ d, c < 128
theorem W_lt {l : List Nat} (h : l.all isW = true) : ∀ c ∈ l, c < 128 := fun c hc => by
  have := List.all_eq_true.mp h c hc
  simp [isW, isDig, isLow, isUp] at this
  omega
theorem Dr.word {t : Tr} {p : List Nat} (h : atom p = some t) (w : p.all isW = true) (n : p ≠ []) : Dr t p :=
  ⟨by rw [tk_word w n]; exact .atom h (W_plain w), W_lt w⟩
theorem Dr.num' {n : Nat} (h : n ≤ 9999) : Dr (Tr.num n) (TL.numL n) := .word (atom_num h) (digits_W (TL.numL_digits n)) (TL.numL_ne n)
theorem Dr.nam' {l : List Nat} (h : nmOk l = true) : Dr (Tr.nam l) l := .word (atom_nam h) (nm_W h).1 (nm_W h).2
theorem blank_lt {g : List Nat} (h : g.all isB = true) : ∀ c ∈ g, c < 128 := fun c hc => by
  have := List.all_eq_true.mp h c hc
  simp [isB] at this
  omega
theorem tk39 : tk [39] = [[39]] := by decide
theorem tk40 : tk [40] = [[40]] := by decide
theorem tk41 : tk [41] = [[41]] := by decide
theorem sep_left {a b : List Nat} {x : Nat} (h : a.getLast? = some x) (hx : isW x = false) : sepOk a b := .inr fun c hc => by rw [h] at hc; cases hc; exact hx
theorem sep_right {a b : List Nat} {x : Nat} {r : List Nat} (h : b = x :: r) (hx : isW x = false) : sepOk a b := .inl fun c hc => by subst h; cases hc; exact hx
theorem Dr.quote {t : Tr} {g d : List Nat} (h : Dr t d) (hg : g.all isB = true) : Dr (quo t) (39 :: (g ++ d)) := by
  refine ⟨?_, ?_⟩
  · have e : tk (39 :: (g ++ d)) = [39] :: tk d := by
      have := tk_gap (a := [39]) (b := d) hg (fun _ => sep_left (x := 39) rfl rfl)
      rw [tk39] at this
      simpa using this
    rw [e]
    exact .quo h.rd
  · intro c hc
    rcases List.mem_cons.mp hc with rfl | hc
    · decide
    · rcases List.mem_append.mp hc with hc | hc
      · exact blank_lt hg c hc
      · exact h.asc c hc
/-- a list half written: the parenthesis and these members -/
structure DrP (l : List Tr) (d : List Nat) : Prop where
  tks : ∃ tss, Paired Rd l tss ∧ tk d = [40] :: tss.flatten
  asc : ∀ c ∈ d, c < 128
theorem DrP.nil : DrP [] [40] := ⟨⟨[], .nil, by rw [tk40]; rfl⟩, by decide⟩
theorem forall2_snoc {α β : Type} {R : α → β → Prop} : ∀ {l : List α} {m : List β} {a : α} {b : β}, Paired R l m → R a b → Paired R (l ++ [a]) (m ++ [b])
  | _, _, _, _, .nil, h => .cons h .nil
  | _, _, _, _, .cons h r, k => .cons h (forall2_snoc r k)
theorem DrP.snoc {l : List Tr} {t : Tr} {a g d : List Nat} (h : DrP l a) (ht : Dr t d) (hg : g.all isB = true) (hs : g = [] → sepOk a d) : DrP (l ++ [t]) (a ++ g ++ d) := by
  obtain ⟨tss, f, e⟩ := h.tks
  refine ⟨⟨tss ++ [tk d], forall2_snoc f ht.rd, ?_⟩, ?_⟩
  · rw [tk_gap hg hs, e]; simp
  · intro c hc
    rcases List.mem_append.mp hc with hc | hc
    · rcases List.mem_append.mp hc with hc | hc
      · exact h.asc c hc
      · exact blank_lt hg c hc
    · exact ht.asc c hc
theorem DrP.close {l : List Tr} {a g : List Nat} (h : DrP l a) (hg : g.all isB = true) : Dr (mkl l) (a ++ g ++ [41]) := by
  obtain ⟨tss, f, e⟩ := h.tks
  refine ⟨?_, ?_⟩
  · rw [tk_gap hg (fun _ => sep_right (x := 41) (r := []) rfl rfl), e, tk41]
    exact .lst f
  · intro c hc
    rcases List.mem_append.mp hc with hc | hc
    · rcases List.mem_append.mp hc with hc | hc
      · exact h.asc c hc
      · exact blank_lt hg c hc
    · simp at hc; omega
theorem Dr.around {t : Tr} {g k d : List Nat} (h : Dr t d) (hg : g.all isB = true) (hk : k.all isB = true) : Dr t (g ++ d ++ k) := by
  have e1 : tk (g ++ d) = tk d := by
    have := tk_gap (a := []) (b := d) hg (fun _ => .inr (by simp))
    simpa [tk, tkA, flush] using this
  have e2 : tk (g ++ d ++ k) = tk (g ++ d) := by
    have := tk_gap (a := g ++ d) (b := []) hk (fun _ => .inl (by simp))
    simpa [tk, tkA, flush] using this
  refine ⟨by rw [e2, e1]; exact h.rd, ?_⟩
  intro c hc
  rcases List.mem_append.mp hc with hc | hc
  · rcases List.mem_append.mp hc with hc | hc
    · exact blank_lt hg c hc
    · exact h.asc c hc
  · exact blank_lt hk c hc
/-- the one form is a dress, too -/
theorem can_Dr : ∀ (t : Tr), Pr t → Dr t (can t) ∧ (∀ (l : List Tr) (a : List Nat), DrP l a → sepOk a [32] → isL t = true → Dr (mkl (l ++ spread t)) (a ++ tail t))
  | .nil, _ => ⟨(by
      have := DrP.nil.close (g := []) rfl
      exact this), fun l a h _ _ => by
      have := h.close (g := []) rfl
      simpa [spread, tail_nil] using this⟩
  | .num n, h => ⟨.num' h, fun _ _ _ _ z => by cases z⟩
  | .nam l, h => ⟨.nam' h, fun _ _ _ _ z => by cases z⟩
  | .cons a b, h => by
    obtain ⟨ha, hb, hl⟩ := h
    obtain ⟨da, _⟩ := can_Dr a ha
    obtain ⟨db, kb⟩ := can_Dr b hb
    have sp : ∀ x : List Nat, sepOk x [32] := fun x => sep_right (x := 32) (r := []) rfl rfl
    have second : ∀ (l : List Tr) (x : List Nat), DrP l x → sepOk x [32] → isL (Tr.cons a b) = true → Dr (mkl (l ++ spread (Tr.cons a b))) (x ++ tail (Tr.cons a b)) := by
      intro l x hx _ _
      have h1 : DrP (l ++ [a]) (x ++ [32] ++ can a) := hx.snoc da (by decide) (by simp)
      have h2 := kb (l ++ [a]) _ h1 (sp _) hl
      rw [tail_cons]
      simpa [spread, List.append_assoc] using h2
    refine ⟨?_, second⟩
    cases q : quoted (.cons a b) with
    | some c =>
      rw [can_quoted q]
      -- a is the name quote, b holds c alone
      cases b with
      | cons c' d =>
        cases d with
        | nil =>
          have qa : isQ a = true := by
            change (if isQ a = true then some c' else none) = some c at q
            by_cases z : isQ a = true
            · exact z
            · rw [if_neg z] at q; cases q
          have ec : c' = c := by
            change (if isQ a = true then some c' else none) = some c at q
            rw [if_pos qa] at q
            exact Option.some.inj q
          subst ec
          have dc : Dr c' (can c') := (can_Dr c' hb.1).1
          rw [isQ_can qa]
          exact dc.quote (g := []) rfl
        | _ => simp [quoted] at q
      | _ => simp [quoted] at q
    | none =>
      rw [can_plain q]
      have h1 : DrP ([] ++ [a]) ([40] ++ [] ++ can a) := DrP.nil.snoc da rfl (fun _ => sep_left (x := 40) rfl rfl)
      have h2 := kb _ _ h1 (sp _) hl
      have e : mkl ([] ++ [a] ++ spread b) = Tr.cons a b := by
        show Tr.cons a (mkl (spread b)) = _
        rw [mkl_spread hl hb]
      rw [e] at h2
      simpa using h2
termination_by t => sizeOf t
end Wh
set_option Elab.async false
set_option linter.all false
set_option maxRecDepth 100000
set_option maxHeartbeats 4000000
/-! The store of values: its nodes, what an id stands for. -/
namespace Wh
open PySem L2
inductive Nd where
  | nil | num (n : Nat) | nam (l : List Nat) | pr (i j : Nat)
  deriving DecidableEq
def shapeV : Nd → V
  | .nil => .int 0 | .num _ => .int 1 | .nam _ => .int 2 | .pr _ _ => .int 3
def faceV : Nd → V
  | .num n => .int (n : Int) | .nam l => .str (SX.S l) | _ => .non
def firstV : Nd → V
  | .pr i _ => .int (i : Int) | _ => .int 0
def secondV : Nd → V
  | .pr _ j => .int (j : Int) | _ => .int 0
/-- the weight, bounded -/
def wtOf (ws : List Int) : Nd → Int
  | .pr i j => let x := ws.getD i 0 + ws.getD j 0
    if x < 100001 then x else 100001
  | _ => 1
def wts (G : List Nd) : List Int := G.foldl (fun ws d => ws ++ [wtOf ws d]) []
theorem wts_app (G : List Nd) (d : Nd) : wts (G ++ [d]) = wts G ++ [wtOf (wts G) d] := by simp [wts, List.foldl_append]
theorem wts_go : ∀ (G : List Nd) (ws : List Int), (G.foldl (fun ws d => ws ++ [wtOf ws d]) ws).length = ws.length + G.length
  | [], _ => by simp
  | d :: r, ws => by rw [List.foldl_cons, wts_go r]; simp; omega
theorem wts_len (G : List Nd) : (wts G).length = G.length := by unfold wts; rw [wts_go]; simp
/-! ### the dicts -/
section
variable {κ : Type} [DecidableEq κ]
def keyed (f : Nd → Option κ) : Nat → List Nd → List (κ × V)
  | _, [] => []
  | k, d :: r => match f d with
    | some x => (x, .int (k : Int)) :: keyed f (k + 1) r
    | none => keyed f (k + 1) r
theorem keyed_app (f : Nd → Option κ) : ∀ (G : List Nd) (k : Nat) (d : Nd), keyed f k (G ++ [d]) = keyed f k G ++ (match f d with
    | some x => [(x, V.int ((k + G.length : Nat) : Int))]
    | none => [])
  | [], k, d => by simp [keyed]
  | e :: r, k, d => by
    have h := keyed_app f r (k + 1) d
    have e1 : k + 1 + r.length = k + (e :: r).length := by simp; omega
    rw [e1] at h
    cases q : f e with
    | none => simp only [List.cons_append, keyed, q, h]
    | some x => simp only [List.cons_append, keyed, q, h]
theorem keyed_len (f : Nd → Option κ) : ∀ (G : List Nd) (k : Nat), (keyed f k G).length ≤ G.length
  | [], _ => Nat.zero_le _
  | e :: r, k => by
    have h := keyed_len f r (k + 1)
    cases q : f e with
    | none => simp only [keyed, q, List.length_cons]; omega
    | some x => simp only [keyed, q, List.length_cons]; omega
theorem keyed_some {f : Nd → Option κ} {x : κ} {v : V} : ∀ {G : List Nd} {k : Nat}, valV (keyed f k G) x = some v → ∃ i d, G[i]? = some d ∧ f d = some x ∧ v = .int ((k + i : Nat) : Int)
  | [], _, h => by cases h
  | e :: r, k, h => by
    have rest : ∀ {h : valV (keyed f (k + 1) r) x = some v}, ∃ i d, (e :: r)[i]? = some d ∧ f d = some x ∧ v = .int ((k + i : Nat) : Int) := fun {h} => by
      obtain ⟨i, d, h1, h2, h3⟩ := keyed_some h
      exact ⟨i + 1, d, by simpa using h1, h2, by rw [h3]; congr 2; omega⟩
    cases q : f e with
    | none => simp only [keyed, q] at h; exact rest (h := h)
    | some y =>
      simp only [keyed, q] at h
      by_cases c : y = x
      · rw [valV_pos (by exact c)] at h
        exact ⟨0, e, rfl, by rw [q, c], (Option.some.inj h).symm⟩
      · rw [show valV ((y, V.int (k : Int)) :: keyed f (k + 1) r) x = valV (keyed f (k + 1) r) x from by simp [valV, List.find?_cons, c]] at h
        exact rest (h := h)
theorem keyed_none {f : Nd → Option κ} {x : κ} : ∀ {G : List Nd} {k : Nat}, valV (keyed f k G) x = none → ∀ d ∈ G, f d ≠ some x
  | [], _, _, d, hd => by cases hd
  | e :: r, k, h, d, hd => by
    cases q : f e with
    | none =>
      simp only [keyed, q] at h
      rcases List.mem_cons.mp hd with rfl | hd
      · rw [q]; simp
      · exact keyed_none h d hd
    | some y =>
      simp only [keyed, q] at h
      by_cases c : y = x
      · rw [valV_pos (by exact c)] at h; cases h
      · rw [show valV ((y, V.int (k : Int)) :: keyed f (k + 1) r) x = valV (keyed f (k + 1) r) x from by simp [valV, List.find?_cons, c]] at h
        rcases List.mem_cons.mp hd with rfl | hd
        · rw [q]; simpa using c
        · exact keyed_none h d hd
end
def fnum : Nd → Option Key
  | .num n => some (Sum.inl (n : Int)) | _ => none
def fnam : Nd → Option Key
  | .nam l => some (Sum.inr (SX.S l)) | _ => none
def fpr : Nd → Option (List Key)
  | .pr i j => some [Sum.inl (i : Int), Sum.inl (j : Int)] | _ => none
theorem fnum_eq {d : Nd} {n : Nat} (h : fnum d = some (Sum.inl (n : Int))) : d = .num n := by
  cases d <;> simp [fnum] at h
  rename_i m
  have e : m = n := by omega
  rw [e]
theorem fnam_eq {d : Nd} {l : List Nat} (h : fnam d = some (Sum.inr (SX.S l))) : d = .nam l := by
  cases d <;> simp [fnam] at h
  rw [h]
theorem fpr_eq {d : Nd} {i j : Nat} (h : fpr d = some [Sum.inl (i : Int), Sum.inl (j : Int)]) : d = .pr i j := by
  cases d <;> simp [fpr] at h
  obtain ⟨h1, h2⟩ := h
  rename_i a b
  have e : a = i := by omega
  have e2 : b = j := by omega
  rw [e, e2]
/-! ### a sound store -/
structure WF (G : List Nd) : Prop where
  z : G[0]? = some Nd.nil
  nd : G.Nodup
  lt : ∀ (k i j : Nat), G[k]? = some (Nd.pr i j) → i < k ∧ j < k
  ok : ∀ (k n : Nat), G[k]? = some (Nd.num n) → n ≤ 9999
  nm : ∀ (k : Nat) (l : List Nat), G[k]? = some (Nd.nam l) → nmOk l = true
theorem WF.one : WF [Nd.nil] where
  z := rfl
  nd := by simp
  lt := fun k i j h => by cases k <;> simp at h
  ok := fun k i h => by cases k <;> simp at h
  nm := fun k i h => by cases k <;> simp at h
theorem get_snoc {α : Type} {G : List α} {d e : α} {k : Nat} (h : (G ++ [d])[k]? = some e) : G[k]? = some e ∨ (k = G.length ∧ e = d) := by
  by_cases c : k < G.length
  · rw [List.getElem?_append_left c] at h
    exact .inl h
  · rw [List.getElem?_append_right (by omega)] at h
    cases q : k - G.length with
    | zero => rw [q] at h; exact .inr ⟨by omega, (Option.some.inj h).symm⟩
    | succ n => rw [q] at h; simp at h
theorem get_old {α : Type} {G : List α} {d e : α} {k : Nat} (h : G[k]? = some e) : (G ++ [d])[k]? = some e := by
  rw [List.getElem?_append_left (List.getElem?_eq_some_iff.mp h).1]
  exact h
theorem get_new {α : Type} (G : List α) (d : α) : (G ++ [d])[G.length]? = some d := by simp
/-- a node that may be added -/
def NdOk (G : List Nd) : Nd → Prop
  | .nil => False
  | .num n => n ≤ 9999
  | .nam l => nmOk l = true
  | .pr i j => i < G.length ∧ j < G.length
theorem WF.snoc {G : List Nd} {d : Nd} (w : WF G) (hd : d ∉ G) (ok : NdOk G d) : WF (G ++ [d]) where
  z := get_old w.z
  nd := by
    rw [List.nodup_append]
    refine ⟨w.nd, by simp, ?_⟩
    intro a ha b hb e
    simp at hb
    rw [← hb, ← e] at hd
    exact hd ha
  lt := fun k i j h => by
    rcases get_snoc h with h | ⟨rfl, rfl⟩
    · exact w.lt k i j h
    · exact ok
  ok := fun k n h => by
    rcases get_snoc h with h | ⟨rfl, rfl⟩
    · exact w.ok k n h
    · exact ok
  nm := fun k n h => by
    rcases get_snoc h with h | ⟨rfl, rfl⟩
    · exact w.nm k n h
    · exact ok
theorem WF.nil_at {G : List Nd} (w : WF G) {k : Nat} (h : G[k]? = some Nd.nil) : k = 0 := by
  have h0 := w.z
  exact (List.getElem?_inj (List.getElem?_eq_some_iff.mp h).1 w.nd).mp (by rw [h, h0])
/-! ### what an id stands for -/
def Den (G : List Nd) : Tr → Nat → Prop
  | .nil, i => G[i]? = some Nd.nil
  | .num n, i => G[i]? = some (Nd.num n)
  | .nam l, i => G[i]? = some (Nd.nam l)
  | .cons a b, i => ∃ x y, G[i]? = some (Nd.pr x y) ∧ Den G a x ∧ Den G b y
/-- a greater store -/
def Ext (G G' : List Nd) : Prop := ∀ (k : Nat) (d : Nd), G[k]? = some d → G'[k]? = some d
theorem Ext.refl (G : List Nd) : Ext G G := fun _ _ h => h
theorem Ext.trans {G1 G2 G3 : List Nd} (a : Ext G1 G2) (b : Ext G2 G3) : Ext G1 G3 := fun k d h => b k d (a k d h)
theorem Ext.snoc (G : List Nd) (d : Nd) : Ext G (G ++ [d]) := fun _ _ h => get_old h
theorem Den.mono {G G' : List Nd} (e : Ext G G') : ∀ {t : Tr} {i : Nat}, Den G t i → Den G' t i
  | .nil, _, h => e _ _ h
  | .num _, _, h => e _ _ h
  | .nam _, _, h => e _ _ h
  | .cons _ _, _, ⟨x, y, h, a, b⟩ => ⟨x, y, e _ _ h, Den.mono e a, Den.mono e b⟩
theorem Den.lt {G : List Nd} : ∀ {t : Tr} {i : Nat}, Den G t i → i < G.length
  | .nil, _, h => (List.getElem?_eq_some_iff.mp h).1
  | .num _, _, h => (List.getElem?_eq_some_iff.mp h).1
  | .nam _, _, h => (List.getElem?_eq_some_iff.mp h).1
  | .cons _ _, _, ⟨_, _, h, _, _⟩ => (List.getElem?_eq_some_iff.mp h).1
/-- the node of a tree -/
def NodeIs (G : List Nd) : Tr → Nd → Prop
  | .nil, d => d = .nil
  | .num n, d => d = .num n
  | .nam l, d => d = .nam l
  | .cons a b, d => ∃ x y, d = .pr x y ∧ Den G a x ∧ Den G b y
theorem Den.node {G : List Nd} {t : Tr} {i : Nat} (h : Den G t i) : ∃ d, G[i]? = some d ∧ NodeIs G t d := by
  cases t with
  | nil => exact ⟨_, h, rfl⟩
  | num n => exact ⟨_, h, rfl⟩
  | nam l => exact ⟨_, h, rfl⟩
  | cons a b => obtain ⟨x, y, h, ha, hb⟩ := h; exact ⟨_, h, x, y, rfl, ha, hb⟩
def ivs (ids : List Nat) : List V := ids.map fun i => V.int ((i : Nat) : Int)
end Wh
set_option Elab.async false
set_option linter.all false
set_option maxRecDepth 100000
set_option maxHeartbeats 4000000
/-! The class Heap. -/
namespace Wh
open PySem L2 PySem.Spec PyProof.Rows
local macro_rules | `(tactic| walk_at "ne") => `(tactic| first | with_reducible assumption | (apply Ne.symm; with_reducible assumption))
local macro_rules | `(tactic| walk_at "hp") => `(tactic| first | with_reducible assumption | with_reducible exact upd_same | ((with_reducible refine (upd_ne ?n).trans ?h); (case n => walk_at "ne"); (case h => walk_at "hp")) | ((with_reducible show upd _ _ _ _ = _); exact upd_same))
local macro_rules | `(tactic| walk_at "cond") => `(tactic| first | with_reducible assumption | exact (rfl : (_ : Bool) = true) | ((try dsimp only) <;> first | with_reducible assumption | decide | omega) | exact ⟨by first | decide | omega | decide +kernel, by first | decide | omega | decide +kernel⟩ | decide +kernel | exact .inr ⟨by decide, by decide⟩ | exact .inl ⟨by decide, by decide⟩)
local macro_rules | `(tactic| walk_at "sq") => `(tactic| first | with_reducible assumption | exact SqL.of (by walk_at "hp"))
local macro_rules | `(tactic| walk_at "sz") => `(tactic| first | with_reducible assumption | (show _ ≤ 16777216; omega))
local macro_rules | `(tactic| walk_at "at") => `(tactic| first | with_reducible assumption | exact atI_nat (by with_reducible assumption) | exact atI_nat (j := 0) (rfl : (_ : Option Nat) = some _) | exact atI_nat (by assumption))
local macro_rules | `(tactic| walk_at "w1") => `(tactic| (fail_if_success with_reducible show @ite _ _ _ _ _); first
  | refine ⟨_, rfl, ?_⟩
  | refine ⟨_, _, (rfl : _ = V.int _), (rfl : _ = V.int _), And.intro (by walk_at "cond") ?_⟩
  | refine ⟨_, _, (rfl : _ = V.int _), (rfl : _ = V.int _), ?_⟩
  | refine ⟨_, _, (rfl : _ = V.str _), (rfl : _ = V.str _), And.intro (by walk_at "sz") ?_⟩
  | refine ⟨_, _, (rfl : _ = V.str _), (rfl : _ = V.str _), ?_⟩
  | refine ⟨_, _, _, _, (rfl : _ = V.ref _), (rfl : _ = V.int _), (by walk_at "sq"), rfl, ?_⟩
  | refine ⟨_, _, _, _, (rfl : _ = V.ref _), (rfl : _ = V.int _), (by walk_at "hp"), rfl, ?_⟩
  | refine ⟨Or.inl ⟨rfl, _, (by walk_at "sq")⟩, ?_⟩
  | refine ⟨_, _, _, (rfl : _ = V.ref _), (rfl : (_ : List V) = _), (by walk_at "hp"), (by with_reducible assumption), ?_⟩
  | refine ⟨_, _, (rfl : (_ : List V) = _), Or.inl ((by walk_at "sq")), ?_⟩
  | refine ⟨_, _, _, _, (rfl : _ = V.ref _), (rfl : _ = V.int _), (by walk_at "sq"), (by walk_at "at"), ?_⟩
  | refine ⟨_, _, _, (rfl : _ = V.str _), (rfl : _ = V.int _), (by walk_at "sz"), (by walk_at "at"), ?_⟩
  | refine ⟨_, _, (rfl : (_ : List V) = [V.str _]), SX.int_S (by assumption) (by simp) (by assumption), (by assumption), ?_⟩
  | refine ⟨_, _, (rfl : (_ : List V) = [_, _]), ?_⟩
  | refine ⟨_, _, (rfl : _ = V.ref _), (by walk_at "sq"), ?_⟩
  | refine ⟨(rfl : (_ : Bool) = true), ?_⟩
  | refine ⟨(rfl : (_ : V) = V.non), ?_⟩
  | refine And.intro (by walk_at "sz") ?_
  | refine ⟨⟨_, (rfl : _ = V.str _)⟩, ?_⟩
  | refine ⟨_, (rfl : _ = V.str _), (rfl : (_ : List V) = _), trivial, ?_⟩
  | refine .inl ⟨_, rfl, ?_⟩)
local macro_rules | `(tactic| walk_at "w") => `(tactic| repeat walk_at "w1")
structure Hz where
  p : Addr
  dx : Addr
  a1 : Addr
  a2 : Addr
  a3 : Addr
  a4 : Addr
  a5 : Addr
  a6 : Addr
  a7 : Addr
  a8 : Addr
def hzF (z : Hz) : List (Str × V) := [("_shapes", .ref z.a1), ("_faces", .ref z.a2), ("_firsts", .ref z.a3), ("_seconds", .ref z.a4), ("_hefts", .ref z.a5), ("_numbers", .ref z.a6), ("_names", .ref z.a7), ("_pairs", .ref z.a8)]
theorem hz_shapes (z : Hz) : (hzF z).lookup ("_shapes" : Str) = some (.ref z.a1) := by kernel_rfl
theorem hz_faces (z : Hz) : (hzF z).lookup ("_faces" : Str) = some (.ref z.a2) := by kernel_rfl
theorem hz_firsts (z : Hz) : (hzF z).lookup ("_firsts" : Str) = some (.ref z.a3) := by kernel_rfl
theorem hz_seconds (z : Hz) : (hzF z).lookup ("_seconds" : Str) = some (.ref z.a4) := by kernel_rfl
theorem hz_hefts (z : Hz) : (hzF z).lookup ("_hefts" : Str) = some (.ref z.a5) := by kernel_rfl
theorem hz_numbers (z : Hz) : (hzF z).lookup ("_numbers" : Str) = some (.ref z.a6) := by kernel_rfl
theorem hz_names (z : Hz) : (hzF z).lookup ("_names" : Str) = some (.ref z.a7) := by kernel_rfl
theorem hz_pairs (z : Hz) : (hzF z).lookup ("_pairs" : Str) = some (.ref z.a8) := by kernel_rfl
theorem hz_no_new (z : Hz) : (hzF z).lookup ("_new" : Str) = none := by kernel_rfl
theorem hz_no_number (z : Hz) : (hzF z).lookup ("number" : Str) = none := by kernel_rfl
theorem hz_no_name (z : Hz) : (hzF z).lookup ("name" : Str) = none := by kernel_rfl
theorem hz_no_pair (z : Hz) : (hzF z).lookup ("pair" : Str) = none := by kernel_rfl
theorem hz_no_shape (z : Hz) : (hzF z).lookup ("shape" : Str) = none := by kernel_rfl
theorem hz_no_face (z : Hz) : (hzF z).lookup ("face" : Str) = none := by kernel_rfl
theorem hz_no_first (z : Hz) : (hzF z).lookup ("first" : Str) = none := by kernel_rfl
theorem hz_no_second (z : Hz) : (hzF z).lookup ("second" : Str) = none := by kernel_rfl
theorem hz_no_listed (z : Hz) : (hzF z).lookup ("listed" : Str) = none := by kernel_rfl
theorem hz_no_spread (z : Hz) : (hzF z).lookup ("spread" : Str) = none := by kernel_rfl
/-- a Heap at z: its lists hold the store G, its dicts the store D -/
structure HA (C : Addr) (H : Hp) (z : Hz) (G D : List Nd) : Prop where
  ob : H z.p = some (.ins C z.dx (hzF z))
  l1 : H z.a1 = some (.lst (G.map shapeV))
  l2 : H z.a2 = some (.lst (G.map faceV))
  l3 : H z.a3 = some (.lst (G.map firstV))
  l4 : H z.a4 = some (.lst (G.map secondV))
  l5 : H z.a5 = some (.lst ((wts G).map V.int))
  d6 : H z.a6 = some (.dK (keyed fnum 0 D))
  d7 : H z.a7 = some (.dK (keyed fnam 0 D))
  d8 : H z.a8 = some (.dT (keyed fpr 0 D))
  n12 : z.a1 ≠ z.a2
  n13 : z.a1 ≠ z.a3
  n14 : z.a1 ≠ z.a4
  n15 : z.a1 ≠ z.a5
  n23 : z.a2 ≠ z.a3
  n24 : z.a2 ≠ z.a4
  n25 : z.a2 ≠ z.a5
  n34 : z.a3 ≠ z.a4
  n35 : z.a3 ≠ z.a5
  n45 : z.a4 ≠ z.a5
  n67 : z.a6 ≠ z.a7
def foot (z : Hz) : List Addr := [z.a1, z.a2, z.a3, z.a4, z.a5, z.a6, z.a7, z.a8]
theorem ne_lk {H : Hp} {a b : Addr} {o : HO} {u : HO} (h : H a = some o) (h' : H b = some u) (d : o ≠ u) : a ≠ b := ne_of h h' d
theorem HA.ne_p {C : Addr} {H : Hp} {z : Hz} {G D : List Nd} (h : HA C H z G D) : z.p ≠ z.a1 ∧ z.p ≠ z.a2 ∧ z.p ≠ z.a3 ∧ z.p ≠ z.a4 ∧ z.p ≠ z.a5 ∧ z.p ≠ z.a6 ∧ z.p ≠ z.a7 ∧ z.p ≠ z.a8 :=
  ⟨ne_of h.ob h.l1 (fun e => by cases e), ne_of h.ob h.l2 (fun e => by cases e), ne_of h.ob h.l3 (fun e => by cases e), ne_of h.ob h.l4 (fun e => by cases e), ne_of h.ob h.l5 (fun e => by cases e), ne_of h.ob h.d6 (fun e => by cases e), ne_of h.ob h.d7 (fun e => by cases e), ne_of h.ob h.d8 (fun e => by cases e)⟩
theorem HA.ne_l {C : Addr} {H : Hp} {z : Hz} {G D : List Nd} (h : HA C H z G D) {a : Addr} {l : List V} (e : H a = some (.lst l)) : z.a6 ≠ a ∧ z.a7 ≠ a ∧ z.a8 ≠ a :=
  ⟨ne_of h.d6 e (fun e => by cases e), ne_of h.d7 e (fun e => by cases e), ne_of h.d8 e (fun e => by cases e)⟩
theorem HA.ne_8 {C : Addr} {H : Hp} {z : Hz} {G D : List Nd} (h : HA C H z G D) : z.a6 ≠ z.a8 ∧ z.a7 ≠ z.a8 :=
  ⟨ne_of h.d6 h.d8 (fun e => by cases e), ne_of h.d7 h.d8 (fun e => by cases e)⟩
/-- what leaves the eight as they are -/
theorem HA.keep {C : Addr} {H H' : Hp} {z : Hz} {G D : List Nd} (h : HA C H z G D) (k : ∀ b o, b = z.p ∨ b ∈ foot z → H b = some o → H' b = some o) : HA C H' z G D :=
  ⟨k _ _ (.inl rfl) h.ob, k _ _ (.inr (by simp [foot])) h.l1, k _ _ (.inr (by simp [foot])) h.l2, k _ _ (.inr (by simp [foot])) h.l3, k _ _ (.inr (by simp [foot])) h.l4, k _ _ (.inr (by simp [foot])) h.l5,
    k _ _ (.inr (by simp [foot])) h.d6, k _ _ (.inr (by simp [foot])) h.d7, k _ _ (.inr (by simp [foot])) h.d8, h.n12, h.n13, h.n14, h.n15, h.n23, h.n24, h.n25, h.n34, h.n35, h.n45, h.n67⟩
theorem HA.same {C : Addr} {H H' : Hp} {z : Hz} {G D : List Nd} (h : HA C H z G D) (s : Same H H') : HA C H' z G D := h.keep fun b o _ e => s b o e
theorem HA.new {C : Addr} {H : Hp} {z : Hz} {G D : List Nd} {p : Addr} {o : HO} (h : HA C H z G D) (n : H p = none) : HA C (upd H p o) z G D := h.same fun b u e => (upd_ne (ne_of_none e n)).trans e
/-- an object apart is changed -/
theorem HA.apart {C : Addr} {H : Hp} {z : Hz} {G D : List Nd} {p : Addr} {o : HO} (h : HA C H z G D) (n : p ≠ z.p ∧ p ∉ foot z) : HA C (upd H p o) z G D := h.keep fun b u hb e =>
  (upd_ne (fun q => by rw [q] at hb; exact hb.elim n.1 n.2)).trans e
theorem wts_get {G : List Nd} {i : Nat} (h : i < G.length) : ((wts G).map V.int)[i]? = some (.int ((wts G).getD i 0)) := by
  have h' : i < (wts G).length := by rw [wts_len]; exact h
  rw [List.getElem?_map, List.getElem?_eq_getElem h', List.getD_eq_getElem?_getD, List.getElem?_eq_getElem h']
  rfl
theorem HA.put6 {C : Addr} {H : Hp} {z : Hz} {G D : List Nd} {n : Nat} (h : HA C H z G D) (e : valV (keyed fnum 0 D) (Sum.inl (n : Int)) = none) :
    HA C (upd H z.a6 (.dK (putK (keyed fnum 0 D) (Sum.inl (n : Int)) (.int (D.length : Int))))) z G (D ++ [.num n]) := by
  have m := h.ne_p
  have e6 : keyed fnum 0 (D ++ [.num n]) = putK (keyed fnum 0 D) (Sum.inl (n : Int)) (.int (D.length : Int)) := by
    rw [putK_new _ e, keyed_app]
    simp [fnum]
  exact ⟨(upd_ne m.2.2.2.2.2.1).trans h.ob, (upd_ne (h.ne_l h.l1).1.symm).trans h.l1, (upd_ne (h.ne_l h.l2).1.symm).trans h.l2, (upd_ne (h.ne_l h.l3).1.symm).trans h.l3, (upd_ne (h.ne_l h.l4).1.symm).trans h.l4, (upd_ne (h.ne_l h.l5).1.symm).trans h.l5,
    by rw [e6]; exact upd_same, by rw [keyed_app]; simpa [fnam] using (upd_ne h.n67.symm).trans h.d7, by rw [keyed_app]; simpa [fpr] using (upd_ne h.ne_8.1.symm).trans h.d8,
    h.n12, h.n13, h.n14, h.n15, h.n23, h.n24, h.n25, h.n34, h.n35, h.n45, h.n67⟩
theorem HA.put7 {C : Addr} {H : Hp} {z : Hz} {G D : List Nd} {n : List Nat} (h : HA C H z G D) (e : valV (keyed fnam 0 D) (Sum.inr (SX.S n)) = none) :
    HA C (upd H z.a7 (.dK (putK (keyed fnam 0 D) (Sum.inr (SX.S n)) (.int (D.length : Int))))) z G (D ++ [.nam n]) := by
  have m := h.ne_p
  have e6 : keyed fnam 0 (D ++ [.nam n]) = putK (keyed fnam 0 D) (Sum.inr (SX.S n)) (.int (D.length : Int)) := by
    rw [putK_new _ e, keyed_app]
    simp [fnam]
  exact ⟨(upd_ne m.2.2.2.2.2.2.1).trans h.ob, (upd_ne (h.ne_l h.l1).2.1.symm).trans h.l1, (upd_ne (h.ne_l h.l2).2.1.symm).trans h.l2, (upd_ne (h.ne_l h.l3).2.1.symm).trans h.l3, (upd_ne (h.ne_l h.l4).2.1.symm).trans h.l4, (upd_ne (h.ne_l h.l5).2.1.symm).trans h.l5,
    by rw [keyed_app]; simpa [fnum] using (upd_ne h.n67).trans h.d6, by rw [e6]; exact upd_same, by rw [keyed_app]; simpa [fpr] using (upd_ne h.ne_8.2.symm).trans h.d8,
    h.n12, h.n13, h.n14, h.n15, h.n23, h.n24, h.n25, h.n34, h.n35, h.n45, h.n67⟩
theorem HA.put8 {C : Addr} {H : Hp} {z : Hz} {G D : List Nd} {i j : Nat} (h : HA C H z G D) (e : valV (keyed fpr 0 D) [Sum.inl (i : Int), Sum.inl (j : Int)] = none) :
    HA C (upd H z.a8 (.dT (putK (keyed fpr 0 D) [Sum.inl (i : Int), Sum.inl (j : Int)] (.int (D.length : Int))))) z G (D ++ [.pr i j]) := by
  have m := h.ne_p
  have e6 : keyed fpr 0 (D ++ [.pr i j]) = putK (keyed fpr 0 D) [Sum.inl (i : Int), Sum.inl (j : Int)] (.int (D.length : Int)) := by
    rw [putK_new _ e, keyed_app]
    simp [fpr]
  exact ⟨(upd_ne m.2.2.2.2.2.2.2).trans h.ob, (upd_ne (h.ne_l h.l1).2.2.symm).trans h.l1, (upd_ne (h.ne_l h.l2).2.2.symm).trans h.l2, (upd_ne (h.ne_l h.l3).2.2.symm).trans h.l3, (upd_ne (h.ne_l h.l4).2.2.symm).trans h.l4, (upd_ne (h.ne_l h.l5).2.2.symm).trans h.l5,
    by rw [keyed_app]; simpa [fnum] using (upd_ne h.ne_8.1).trans h.d6, by rw [keyed_app]; simpa [fnam] using (upd_ne h.ne_8.2).trans h.d7, by rw [e6]; exact upd_same,
    h.n12, h.n13, h.n14, h.n15, h.n23, h.n24, h.n25, h.n34, h.n35, h.n45, h.n67⟩
local macro_rules | `(tactic| walk_at "fld") => `(tactic| (fail_if_success with_reducible show @ite _ _ _ _ _); first
  | refine ⟨_, _, _, _, _, (rfl : _ = V.ref _), (by walk_at "hp"), Txt.cl_Heap _, Txt.nf__shapes _, hz_shapes _, ?_⟩
  | refine ⟨_, _, _, _, _, (rfl : _ = V.ref _), (by walk_at "hp"), Txt.cl_Heap _, Txt.nf__faces _, hz_faces _, ?_⟩
  | refine ⟨_, _, _, _, _, (rfl : _ = V.ref _), (by walk_at "hp"), Txt.cl_Heap _, Txt.nf__firsts _, hz_firsts _, ?_⟩
  | refine ⟨_, _, _, _, _, (rfl : _ = V.ref _), (by walk_at "hp"), Txt.cl_Heap _, Txt.nf__seconds _, hz_seconds _, ?_⟩
  | refine ⟨_, _, _, _, _, (rfl : _ = V.ref _), (by walk_at "hp"), Txt.cl_Heap _, Txt.nf__hefts _, hz_hefts _, ?_⟩
  | refine ⟨_, _, _, _, _, (rfl : _ = V.ref _), (by walk_at "hp"), Txt.cl_Heap _, Txt.nf__numbers _, hz_numbers _, ?_⟩
  | refine ⟨_, _, _, _, _, (rfl : _ = V.ref _), (by walk_at "hp"), Txt.cl_Heap _, Txt.nf__names _, hz_names _, ?_⟩
  | refine ⟨_, _, _, _, _, (rfl : _ = V.ref _), (by walk_at "hp"), Txt.cl_Heap _, Txt.nf__pairs _, hz_pairs _, ?_⟩)
local macro_rules | `(tactic| walk_at "wf") => `(tactic| repeat first | walk_at "w1" | walk_at "fld")
theorem putF_len (f : Str) (v : V) (fs : List (Str × V)) : (putF f v fs).length ≤ fs.length + 1 := by
  induction fs with
  | nil => exact Nat.le_refl _
  | cons a r ih =>
    obtain ⟨g, u⟩ := a
    show (if g = f then (g, v) :: r else (g, u) :: putF f v r).length ≤ _
    by_cases c : g = f
    · rw [if_pos c]; simp
    · rw [if_neg c]; simp; omega
theorem putF_lt {f : Str} {v : V} {fs : List (Str × V)} {n : Nat} (h : fs.length < n) : (putF f v fs).length < n + 1 := by
  have := putF_len f v fs
  omega
theorem fld_new {K : PySem.W.Frag} {C p dx : Addr} {fs : List (Str × V)} {H : Hp} {f : Str} {o : HO} {D : Ends} {σ : L2.St} (hp : H p = some (.ins C dx fs)) (hl : fs.length < 1000) (cl : Cls K C) (na : NoAttr K C f) (e0 : σ[0]? = some (some (.ref p)))
    (k : ∀ (a : Addr) (H' : Hp), H a = none → a ≠ p → H' p = some (.ins C dx (putF f (.ref a) fs)) → H' a = some o → (∀ b u, b ≠ p → H b = some u → H' b = some u) → D.nx σ H') :
    ∀ a, H a = none → ∃ v, σ[0]? = some (some v) ∧ (∃ a' C dx fs, v = .ref a' ∧ (upd H a o) a' = some (.ins C dx fs) ∧ Cls K C ∧ NoAttr K C f ∧ fs.length < 1000 ∧ D.nx σ (upd (upd H a o) a' (.ins C dx (putF f (.ref a) fs)))) := by
  intro a n
  have ap : p ≠ a := ne_of_none hp n
  refine ⟨_, e0, p, C, dx, fs, rfl, (upd_ne ap).trans hp, cl, na, hl, ?_⟩
  refine k a _ n ap.symm upd_same ((upd_ne ap.symm).trans upd_same) fun b u hb hu => ?_
  rw [upd_ne hb, upd_ne (ne_of_none hu n)]
  exact hu
theorem fld_newL {K : PySem.W.Frag} {C p dx : Addr} {fs : List (Str × V)} {H : Hp} {f : Str} {x : V} {D : Ends} {σ : L2.St} (hp : H p = some (.ins C dx fs)) (hl : fs.length < 1000) (cl : Cls K C) (na : NoAttr K C f) (e0 : σ[0]? = some (some (.ref p)))
    (k : ∀ (a : Addr) (H' : Hp), H a = none → a ≠ p → H' p = some (.ins C dx (putF f (.ref a) fs)) → H' a = some (.lst [x]) → (∀ b u, b ≠ p → H b = some u → H' b = some u) → D.nx σ H') :
    sFld K (tVar 0) (tLst (tCons (tC x) tNil)) f D σ H := ⟨(show 1 ≤ sizeLine by decide), fld_new hp hl cl na e0 k⟩
theorem fld_newK {K : PySem.W.Frag} {C p dx : Addr} {fs : List (Str × V)} {H : Hp} {f : Str} {D : Ends} {σ : L2.St} (hp : H p = some (.ins C dx fs)) (hl : fs.length < 1000) (cl : Cls K C) (na : NoAttr K C f) (e0 : σ[0]? = some (some (.ref p)))
    (k : ∀ (a : Addr) (H' : Hp), H a = none → a ≠ p → H' p = some (.ins C dx (putF f (.ref a) fs)) → H' a = some (.dK []) → (∀ b u, b ≠ p → H b = some u → H' b = some u) → D.nx σ H') :
    sFld K (tVar 0) tDNewK f D σ H := fld_new hp hl cl na e0 k
theorem fld_newT {K : PySem.W.Frag} {C p dx : Addr} {fs : List (Str × V)} {H : Hp} {f : Str} {D : Ends} {σ : L2.St} (hp : H p = some (.ins C dx fs)) (hl : fs.length < 1000) (cl : Cls K C) (na : NoAttr K C f) (e0 : σ[0]? = some (some (.ref p)))
    (k : ∀ (a : Addr) (H' : Hp), H a = none → a ≠ p → H' p = some (.ins C dx (putF f (.ref a) fs)) → H' a = some (.dT []) → (∀ b u, b ≠ p → H b = some u → H' b = some u) → D.nx σ H') :
    sFld K (tVar 0) tDNewT f D σ H := fld_new hp hl cl na e0 k
section
variable {P : Program} {w : World} {K : PySem.W.Frag} {mg : Str → Option Value} {base : Heap}
def spInit (C : Addr) : Sp := fun vs H Q _ => ∃ (p dx : Addr), vs = [.ref p] ∧ H p = some (.ins C dx []) ∧
  ∀ (z : Hz) (H' : Hp), z.p = p → (∀ a ∈ foot z, H a = none) → HA C H' z [Nd.nil] [Nd.nil] → (∀ b o, b ≠ p → H b = some o → H' b = some o) → Q .non H'
theorem ok_Heap__init (T : Txt K mg) : FnOk P w K mg base CX0 1 T.a_Heap__init T.d_Heap__init ["self"] (spInit T.C_Heap) := by
  refine T.Heap__init.fn.ok sc_Heap__init (fun vs H Q E h => ?_) (fun cdv A outer s H vs Q E hr h => ?_)
  · obtain ⟨p, dx, rfl, _⟩ := h
    rfl
  · obtain ⟨p, dx, rfl, hp, k⟩ := h
    refine ⟨_, (pss_cons (ps_fld (pv 0) (pe_lst (pa_cons (pe_glob (v := .int 0) rfl T.c_EMPTY ⟨_, rfl⟩) pa_nil)) rfl)
      (pss_cons (ps_fld (pv 0) (pe_lst (pa_cons pe_non pa_nil)) rfl)
      (pss_cons (ps_fld (pv 0) (pe_lst (pa_cons (pe_glob (v := .int 0) rfl T.c_NIL ⟨_, rfl⟩) pa_nil)) rfl)
      (pss_cons (ps_fld (pv 0) (pe_lst (pa_cons (pe_glob (v := .int 0) rfl T.c_NIL ⟨_, rfl⟩) pa_nil)) rfl)
      (pss_cons (ps_fld (pv 0) (pe_lst (pa_cons pe_int pa_nil)) rfl)
      (pss_cons (ps_fld (pv 0) pe_dnewK rfl)
      (pss_cons (ps_fld (pv 0) pe_dnewK rfl)
      (pss_one (ps_fld (pv 0) pe_dnewT rfl))))))))), ?_⟩
    refine fld_newL (f := "_shapes") hp (by decide) T.cl_Heap T.nf__shapes rfl (fun a1 H1 n1 e1 p1 o1 k1 => ?_)
    have z1 : H a1 = none := n1
    have kk1 : ∀ b o, b ≠ p → H b = some o → H1 b = some o := k1
    refine fld_newL (f := "_faces") p1 (putF_lt (n := 999) (by decide)) T.cl_Heap T.nf__faces rfl (fun a2 H2 n2 e2 p2 o2 k2 => ?_)
    have m12 : a1 ≠ a2 := ne_of_none o1 n2
    replace o1 := k2 _ _ e1 o1
    have z2 : H a2 = none := by
      cases q : H a2 with
      | none => rfl
      | some u => have := kk1 _ _ e2 q; rw [n2] at this; cases this
    have kk2 : ∀ b o, b ≠ p → H b = some o → H2 b = some o := fun b o h q => k2 b o h (kk1 b o h q)
    refine fld_newL (f := "_firsts") p2 (putF_lt (n := 999) (putF_lt (n := 998) (by decide))) T.cl_Heap T.nf__firsts rfl (fun a3 H3 n3 e3 p3 o3 k3 => ?_)
    have m13 : a1 ≠ a3 := ne_of_none o1 n3
    have m23 : a2 ≠ a3 := ne_of_none o2 n3
    replace o1 := k3 _ _ e1 o1
    replace o2 := k3 _ _ e2 o2
    have z3 : H a3 = none := by
      cases q : H a3 with
      | none => rfl
      | some u => have := kk2 _ _ e3 q; rw [n3] at this; cases this
    have kk3 : ∀ b o, b ≠ p → H b = some o → H3 b = some o := fun b o h q => k3 b o h (kk2 b o h q)
    refine fld_newL (f := "_seconds") p3 (putF_lt (n := 999) (putF_lt (n := 998) (putF_lt (n := 997) (by decide)))) T.cl_Heap T.nf__seconds rfl (fun a4 H4 n4 e4 p4 o4 k4 => ?_)
    have m14 : a1 ≠ a4 := ne_of_none o1 n4
    have m24 : a2 ≠ a4 := ne_of_none o2 n4
    have m34 : a3 ≠ a4 := ne_of_none o3 n4
    replace o1 := k4 _ _ e1 o1
    replace o2 := k4 _ _ e2 o2
    replace o3 := k4 _ _ e3 o3
    have z4 : H a4 = none := by
      cases q : H a4 with
      | none => rfl
      | some u => have := kk3 _ _ e4 q; rw [n4] at this; cases this
    have kk4 : ∀ b o, b ≠ p → H b = some o → H4 b = some o := fun b o h q => k4 b o h (kk3 b o h q)
    refine fld_newL (f := "_hefts") p4 (putF_lt (n := 999) (putF_lt (n := 998) (putF_lt (n := 997) (putF_lt (n := 996) (by decide))))) T.cl_Heap T.nf__hefts rfl (fun a5 H5 n5 e5 p5 o5 k5 => ?_)
    have m15 : a1 ≠ a5 := ne_of_none o1 n5
    have m25 : a2 ≠ a5 := ne_of_none o2 n5
    have m35 : a3 ≠ a5 := ne_of_none o3 n5
    have m45 : a4 ≠ a5 := ne_of_none o4 n5
    replace o1 := k5 _ _ e1 o1
    replace o2 := k5 _ _ e2 o2
    replace o3 := k5 _ _ e3 o3
    replace o4 := k5 _ _ e4 o4
    have z5 : H a5 = none := by
      cases q : H a5 with
      | none => rfl
      | some u => have := kk4 _ _ e5 q; rw [n5] at this; cases this
    have kk5 : ∀ b o, b ≠ p → H b = some o → H5 b = some o := fun b o h q => k5 b o h (kk4 b o h q)
    refine fld_newK (f := "_numbers") p5 (putF_lt (n := 999) (putF_lt (n := 998) (putF_lt (n := 997) (putF_lt (n := 996) (putF_lt (n := 995) (by decide)))))) T.cl_Heap T.nf__numbers rfl (fun a6 H6 n6 e6 p6 o6 k6 => ?_)
    have m16 : a1 ≠ a6 := ne_of_none o1 n6
    have m26 : a2 ≠ a6 := ne_of_none o2 n6
    have m36 : a3 ≠ a6 := ne_of_none o3 n6
    have m46 : a4 ≠ a6 := ne_of_none o4 n6
    have m56 : a5 ≠ a6 := ne_of_none o5 n6
    replace o1 := k6 _ _ e1 o1
    replace o2 := k6 _ _ e2 o2
    replace o3 := k6 _ _ e3 o3
    replace o4 := k6 _ _ e4 o4
    replace o5 := k6 _ _ e5 o5
    have z6 : H a6 = none := by
      cases q : H a6 with
      | none => rfl
      | some u => have := kk5 _ _ e6 q; rw [n6] at this; cases this
    have kk6 : ∀ b o, b ≠ p → H b = some o → H6 b = some o := fun b o h q => k6 b o h (kk5 b o h q)
    refine fld_newK (f := "_names") p6 (putF_lt (n := 999) (putF_lt (n := 998) (putF_lt (n := 997) (putF_lt (n := 996) (putF_lt (n := 995) (putF_lt (n := 994) (by decide))))))) T.cl_Heap T.nf__names rfl (fun a7 H7 n7 e7 p7 o7 k7 => ?_)
    have m17 : a1 ≠ a7 := ne_of_none o1 n7
    have m27 : a2 ≠ a7 := ne_of_none o2 n7
    have m37 : a3 ≠ a7 := ne_of_none o3 n7
    have m47 : a4 ≠ a7 := ne_of_none o4 n7
    have m57 : a5 ≠ a7 := ne_of_none o5 n7
    have m67 : a6 ≠ a7 := ne_of_none o6 n7
    replace o1 := k7 _ _ e1 o1
    replace o2 := k7 _ _ e2 o2
    replace o3 := k7 _ _ e3 o3
    replace o4 := k7 _ _ e4 o4
    replace o5 := k7 _ _ e5 o5
    replace o6 := k7 _ _ e6 o6
    have z7 : H a7 = none := by
      cases q : H a7 with
      | none => rfl
      | some u => have := kk6 _ _ e7 q; rw [n7] at this; cases this
    have kk7 : ∀ b o, b ≠ p → H b = some o → H7 b = some o := fun b o h q => k7 b o h (kk6 b o h q)
    refine fld_newT (f := "_pairs") p7 (putF_lt (n := 999) (putF_lt (n := 998) (putF_lt (n := 997) (putF_lt (n := 996) (putF_lt (n := 995) (putF_lt (n := 994) (putF_lt (n := 993) (by decide)))))))) T.cl_Heap T.nf__pairs rfl (fun a8 H8 n8 e8 p8 o8 k8 => ?_)
    have m18 : a1 ≠ a8 := ne_of_none o1 n8
    have m28 : a2 ≠ a8 := ne_of_none o2 n8
    have m38 : a3 ≠ a8 := ne_of_none o3 n8
    have m48 : a4 ≠ a8 := ne_of_none o4 n8
    have m58 : a5 ≠ a8 := ne_of_none o5 n8
    have m68 : a6 ≠ a8 := ne_of_none o6 n8
    have m78 : a7 ≠ a8 := ne_of_none o7 n8
    replace o1 := k8 _ _ e1 o1
    replace o2 := k8 _ _ e2 o2
    replace o3 := k8 _ _ e3 o3
    replace o4 := k8 _ _ e4 o4
    replace o5 := k8 _ _ e5 o5
    replace o6 := k8 _ _ e6 o6
    replace o7 := k8 _ _ e7 o7
    have z8 : H a8 = none := by
      cases q : H a8 with
      | none => rfl
      | some u => have := kk7 _ _ e8 q; rw [n8] at this; cases this
    have kk8 : ∀ b o, b ≠ p → H b = some o → H8 b = some o := fun b o h q => k8 b o h (kk7 b o h q)
    refine k ⟨p, dx, a1, a2, a3, a4, a5, a6, a7, a8⟩ H8 rfl ?_ ?_ kk8
    · intro a ha
      simp only [foot, List.mem_cons, List.mem_nil_iff, or_false, List.not_mem_nil] at ha
      rcases ha with rfl | rfl | rfl | rfl | rfl | rfl | rfl | rfl <;> assumption
    · refine ⟨?_, o1, o2, o3, o4, o5, o6, o7, o8, m12, m13, m14, m15, m23, m24, m25, m34, m35, m45, m67⟩
      rw [p8]
      exact congrArg (fun l => some (HO.ins T.C_Heap dx l)) (by kernel_rfl)
def spNew (C : Addr) : Sp := fun vs H Q _ => ∃ (z : Hz) (G D : List Nd) (d : Nd), vs = [.ref z.p, shapeV d, faceV d, firstV d, secondV d, .int (wtOf (wts G) d)] ∧ HA C H z G D ∧ G.length < 16000000 ∧
  ∀ H', HA C H' z (G ++ [d]) D → Kp (foot z) H H' → Q (.int (G.length : Int)) H'
theorem ok_Heap_new (T : Txt K mg) : FnOk P w K mg base CX0 1 T.a_Heap_new T.d_Heap_new ["self", "shape", "face", "first", "second", "heft"] (spNew T.C_Heap) := by
  refine T.Heap_new.fn.ok sc_Heap_new (fun vs H Q E h => ?_) (fun cdv A outer s H vs Q E hr h => ?_)
  · obtain ⟨z, G, D, d, rfl, _⟩ := h
    rfl
  · obtain ⟨z, G, D, d, rfl, hA, hl, k⟩ := h
    obtain ⟨ob, l1, l2, l3, l4, l5, d6, d7, d8, n12, n13, n14, n15, n23, n24, n25, n34, n35, n45, n67⟩ := id hA
    obtain ⟨m1, m2, m3, m4, m5, m6, m7, m8⟩ := hA.ne_p
    obtain ⟨r16, r17, r18⟩ := hA.ne_l l1
    obtain ⟨r26, r27, r28⟩ := hA.ne_l l2
    obtain ⟨r36, r37, r38⟩ := hA.ne_l l3
    obtain ⟨r46, r47, r48⟩ := hA.ne_l l4
    obtain ⟨r56, r57, r58⟩ := hA.ne_l l5
    have s1 : (G.map shapeV).length < sizeLine := by rw [List.length_map]; show _ < 16777216; omega
    have s2 : (G.map faceV).length < sizeLine := by rw [List.length_map]; show _ < 16777216; omega
    have s3 : (G.map firstV).length < sizeLine := by rw [List.length_map]; show _ < 16777216; omega
    have s4 : (G.map secondV).length < sizeLine := by rw [List.length_map]; show _ < 16777216; omega
    have s5 : ((wts G).map V.int).length < sizeLine := by rw [List.length_map, wts_len]; show _ < 16777216; omega
    refine ⟨_, (pss_cons (ps_set (i := 6) sc_Heap_new.nd rfl (Or.inl rfl) (pe_callB call_len_seq (by rfl) T.b_len (by decide +kernel) (pa_cons (pe_fld (pv 0) rfl) pa_nil)))
      (pss_cons (ps_expr (pe_bm PySem.F.plainAttrs_list PySem.F.slot_list_append PySem.F.type_list_append mt_append (pe_fld (pv 0) rfl) (pa_cons (pv 1) pa_nil)))
      (pss_cons (ps_expr (pe_bm PySem.F.plainAttrs_list PySem.F.slot_list_append PySem.F.type_list_append mt_append (pe_fld (pv 0) rfl) (pa_cons (pv 2) pa_nil)))
      (pss_cons (ps_expr (pe_bm PySem.F.plainAttrs_list PySem.F.slot_list_append PySem.F.type_list_append mt_append (pe_fld (pv 0) rfl) (pa_cons (pv 3) pa_nil)))
      (pss_cons (ps_expr (pe_bm PySem.F.plainAttrs_list PySem.F.slot_list_append PySem.F.type_list_append mt_append (pe_fld (pv 0) rfl) (pa_cons (pv 4) pa_nil)))
      (pss_cons (ps_expr (pe_bm PySem.F.plainAttrs_list PySem.F.slot_list_append PySem.F.type_list_append mt_append (pe_fld (pv 0) rfl) (pa_cons (pv 5) pa_nil)))
      (pss_one (ps_ret (pv 6))))))))), ?_⟩
    dsimp only [cxOf, Cx.nox]
    walk_at "wf"
    show Q (.int ((G.map shapeV).length : Nat)) _
    rw [List.length_map]
    refine k _ ⟨by walk_at "hp", by rw [List.map_append]; walk_at "hp", by rw [List.map_append]; walk_at "hp", by rw [List.map_append]; walk_at "hp", by rw [List.map_append]; walk_at "hp", by rw [wts_app, List.map_append]; walk_at "hp",
      by walk_at "hp", by walk_at "hp", by walk_at "hp", n12, n13, n14, n15, n23, n24, n25, n34, n35, n45, n67⟩ ?_
    exact ((((((Kp.refl H).at (by simp [foot])).at (by simp [foot])).at (by simp [foot])).at (by simp [foot])).at (by simp [foot]))
/-- behind an interning: the id holds the node -/
def spIn (C : Addr) (d : Nd) (z : Hz) (G : List Nd) (H : Hp) (Q : VK) : Prop := ∀ (i : Nat) (G' : List Nd) (H' : Hp), HA C H' z G' G' → WF G' → Ext G G' → G'.length ≤ G.length + 1 → G'[i]? = some d → Kp (foot z) H H' → Q (.int (i : Int)) H'
def spNumber (C : Addr) : Sp := fun vs H Q _ => ∃ (z : Hz) (G : List Nd) (n : Nat), vs = [.ref z.p, .int (n : Int)] ∧ HA C H z G G ∧ WF G ∧ G.length < 16000000 ∧ n ≤ 9999 ∧ spIn C (.num n) z G H Q
theorem ok_Heap_number (T : Txt K mg) : FnOk P w K mg base CX0 2 T.a_Heap_number T.d_Heap_number ["self", "n"] (spNumber T.C_Heap) := by
  refine T.Heap_number.fn.ok sc_Heap_number (fun vs H Q E h => ?_) (fun cdv A outer s H vs Q E hr h => ?_)
  · obtain ⟨z, G, n, rfl, _⟩ := h
    rfl
  · obtain ⟨z, G, n, rfl, hA, wf, hl, hn, k⟩ := h
    obtain ⟨ob, l1, l2, l3, l4, l5, d6, d7, d8, n12, n13, n14, n15, n23, n24, n25, n34, n35, n45, n67⟩ := id hA
    have hu := hu_of hr
    refine ⟨_, (pss_cons (ps_set (i := 2) sc_Heap_number.nd rfl (Or.inl rfl) (pe_dget1 hu (pe_fld (pv 0) rfl) (pv 1) ⟨rfl, rfl, rfl, rfl⟩))
      (pss_cons (ps_if (pt_cmpR op_isN (pv 2) pe_non (nomark _)) (pss_cons (ps_set (i := 2) sc_Heap_number.nd rfl (Or.inl rfl) (pe_meth (pv 0) T.cl_Heap T.Heap_new.me (ok_Heap_new (P := P) (w := w) (base := base) T) (hr.mono (by decide)) T.Heap_new.b .nil pass0 (pa_cons (pe_glob (v := .int 1) rfl T.c_NUMBER ⟨_, rfl⟩) (pa_cons (pv 1) (pa_cons (pe_glob (v := .int 0) rfl T.c_NIL ⟨_, rfl⟩) (pa_cons (pe_glob (v := .int 0) rfl T.c_NIL ⟨_, rfl⟩) (pa_cons pe_int pa_nil)))))))
      (pss_one (ps_dput hu (pe_fld (pv 0) rfl) (pv 1) (pv 2) rfl))) pss_nil)
      (pss_one (ps_ret (pv 2))))), ?_⟩
    dsimp only [cxOf, Cx.nox]
    walk_at "wf"
    refine ⟨.inl ⟨_, .inl d6⟩, ?_⟩
    walk_at "wf"
    refine ⟨_, DGet.k (k := Sum.inl (n : Int)) d6, ?_⟩
    walk_at "wf"
    cases e : valV (keyed fnum 0 G) (Sum.inl (n : Int) : Key) with
    | some v =>
      obtain ⟨i, d, h1, h2, rfl⟩ := keyed_some e
      refine iteF ?_
      walk_at "wf"
      rw [fnum_eq h2] at h1
      have := k i G H hA wf (.refl G) (by omega) h1 (.refl H)
      simpa using this
    | none =>
      refine iteT ?_
      walk_at "wf"
      refine ⟨_, _, _, rfl, ob, hz_no_new _, ?_⟩
      walk_at "wf"
      refine ⟨z, G, G, .num n, rfl, hA, hl, fun H1 hA1 k1 => ?_⟩
      have ob1 := hA1.ob
      walk_at "wf"
      refine ⟨_, _, rfl, DPut.k (k := Sum.inl (n : Int)) hA1.d6 (Nat.lt_of_le_of_lt (keyed_len _ _ _) (by show G.length < 16777216; omega)), ?_⟩
      walk_at "wf"
      exact k _ _ _ (hA1.put6 e) (wf.snoc (fun hd => keyed_none e _ hd rfl) hn) (.snoc G _) (by simp) (get_new G _) (k1.at (by simp [foot]))
def spName (C : Addr) : Sp := fun vs H Q _ => ∃ (z : Hz) (G : List Nd) (n : List Nat), vs = [.ref z.p, .str (SX.S n)] ∧ HA C H z G G ∧ WF G ∧ G.length < 16000000 ∧ nmOk n = true ∧ spIn C (.nam n) z G H Q
theorem ok_Heap_name (T : Txt K mg) : FnOk P w K mg base CX0 2 T.a_Heap_name T.d_Heap_name ["self", "text"] (spName T.C_Heap) := by
  refine T.Heap_name.fn.ok sc_Heap_name (fun vs H Q E h => ?_) (fun cdv A outer s H vs Q E hr h => ?_)
  · obtain ⟨z, G, n, rfl, _⟩ := h
    rfl
  · obtain ⟨z, G, n, rfl, hA, wf, hl, hn, k⟩ := h
    obtain ⟨ob, l1, l2, l3, l4, l5, d6, d7, d8, n12, n13, n14, n15, n23, n24, n25, n34, n35, n45, n67⟩ := id hA
    have hu := hu_of hr
    refine ⟨_, (pss_cons (ps_set (i := 2) sc_Heap_name.nd rfl (Or.inl rfl) (pe_dget1 hu (pe_fld (pv 0) rfl) (pv 1) ⟨rfl, rfl, rfl, rfl⟩))
      (pss_cons (ps_if (pt_cmpR op_isN (pv 2) pe_non (nomark _)) (pss_cons (ps_set (i := 2) sc_Heap_name.nd rfl (Or.inl rfl) (pe_meth (pv 0) T.cl_Heap T.Heap_new.me (ok_Heap_new (P := P) (w := w) (base := base) T) (hr.mono (by decide)) T.Heap_new.b .nil pass0 (pa_cons (pe_glob (v := .int 2) rfl T.c_NAME ⟨_, rfl⟩) (pa_cons (pv 1) (pa_cons (pe_glob (v := .int 0) rfl T.c_NIL ⟨_, rfl⟩) (pa_cons (pe_glob (v := .int 0) rfl T.c_NIL ⟨_, rfl⟩) (pa_cons pe_int pa_nil)))))))
      (pss_one (ps_dput hu (pe_fld (pv 0) rfl) (pv 1) (pv 2) rfl))) pss_nil)
      (pss_one (ps_ret (pv 2))))), ?_⟩
    dsimp only [cxOf, Cx.nox]
    walk_at "wf"
    refine ⟨.inl ⟨_, .inl d7⟩, ?_⟩
    walk_at "wf"
    refine ⟨_, DGet.k (k := Sum.inr (SX.S n)) d7, ?_⟩
    walk_at "wf"
    cases e : valV (keyed fnam 0 G) (Sum.inr (SX.S n) : Key) with
    | some v =>
      obtain ⟨i, d, h1, h2, rfl⟩ := keyed_some e
      refine iteF ?_
      walk_at "wf"
      rw [fnam_eq h2] at h1
      have := k i G H hA wf (.refl G) (by omega) h1 (.refl H)
      simpa using this
    | none =>
      refine iteT ?_
      walk_at "wf"
      refine ⟨_, _, _, rfl, ob, hz_no_new _, ?_⟩
      walk_at "wf"
      refine ⟨z, G, G, .nam n, rfl, hA, hl, fun H1 hA1 k1 => ?_⟩
      have ob1 := hA1.ob
      walk_at "wf"
      refine ⟨_, _, rfl, DPut.k (k := Sum.inr (SX.S n)) hA1.d7 (Nat.lt_of_le_of_lt (keyed_len _ _ _) (by show G.length < 16777216; omega)), ?_⟩
      walk_at "wf"
      exact k _ _ _ (hA1.put7 e) (wf.snoc (fun hd => keyed_none e _ hd rfl) hn) (.snoc G _) (by simp) (get_new G _) (k1.at (by simp [foot]))
def spPair (C : Addr) : Sp := fun vs H Q _ => ∃ (z : Hz) (G : List Nd) (i j : Nat), vs = [.ref z.p, .int (i : Int), .int (j : Int)] ∧ HA C H z G G ∧ WF G ∧ G.length < 16000000 ∧ i < G.length ∧ j < G.length ∧ spIn C (.pr i j) z G H Q
theorem ok_Heap_pair (T : Txt K mg) : FnOk P w K mg base CX0 2 T.a_Heap_pair T.d_Heap_pair ["self", "first", "second"] (spPair T.C_Heap) := by
  refine T.Heap_pair.fn.ok sc_Heap_pair (fun vs H Q E h => ?_) (fun cdv A outer s H vs Q E hr h => ?_)
  · obtain ⟨z, G, i, j, rfl, _⟩ := h
    rfl
  · obtain ⟨z, G, i, j, rfl, hA0, wf, hl, hi, hj, k⟩ := h
    have hu := hu_of hr
    refine ⟨_, (pss_cons (ps_set (i := 3) sc_Heap_pair.nd rfl (Or.inl rfl) (pe_tup (pa_cons (pv 1) (pa_cons (pv 2) pa_nil))))
      (pss_cons (ps_set (i := 4) sc_Heap_pair.nd rfl (Or.inl rfl) (pe_dget1 hu (pe_fld (pv 0) rfl) (pv 3) ⟨rfl, rfl, rfl, rfl⟩))
      (pss_cons (ps_if (pt_cmpR op_isN (pv 4) pe_non (nomark _)) (pss_cons (ps_set (i := 5) sc_Heap_pair.nd rfl (Or.inl rfl) (pe_callB (call_min2 rfl) (by rfl) T.b_min (by decide +kernel) (pa_cons (pe_glob (v := .int 100001) rfl T.c_HEAVY ⟨_, rfl⟩) (pa_cons (pe_op op_add (pe_ix ix_list (pe_fld (pv 0) rfl) (pv 1) (fun _ _ => rfl)) (pe_ix ix_list (pe_fld (pv 0) rfl) (pv 2) (fun _ _ => rfl))) pa_nil))))
      (pss_cons (ps_set (i := 4) sc_Heap_pair.nd rfl (Or.inl rfl) (pe_meth (pv 0) T.cl_Heap T.Heap_new.me (ok_Heap_new (P := P) (w := w) (base := base) T) (hr.mono (by decide)) T.Heap_new.b .nil pass0 (pa_cons (pe_glob (v := .int 3) rfl T.c_PAIR ⟨_, rfl⟩) (pa_cons pe_non (pa_cons (pv 1) (pa_cons (pv 2) (pa_cons (pv 5) pa_nil)))))))
      (pss_one (ps_dput hu (pe_fld (pv 0) rfl) (pv 3) (pv 4) rfl)))) pss_nil)
      (pss_one (ps_ret (pv 4)))))), ?_⟩
    dsimp only [cxOf, Cx.nox]
    walk_at "wf"
    refine ⟨(show 2 ≤ sizeLine by decide), fun t ht => ?_⟩
    have hA := hA0.new (o := .tup [.int (i : Int), .int (j : Int)]) ht
    have ht1 : upd H t (.tup [.int (i : Int), .int (j : Int)]) t = some (.tup (([Sum.inl (i : Int), Sum.inl (j : Int)] : List Key).map kV)) := upd_same
    obtain ⟨ob, l1, l2, l3, l4, l5, d6, d7, d8, n12, n13, n14, n15, n23, n24, n25, n34, n35, n45, n67⟩ := id hA
    walk_at "wf"
    refine ⟨.inr ⟨_, .inl d8⟩, ?_⟩
    walk_at "wf"
    refine ⟨_, DGet.t d8 ht1, ?_⟩
    walk_at "wf"
    cases e : valV (keyed fpr 0 G) ([Sum.inl (i : Int), Sum.inl (j : Int)] : List Key) with
    | some v =>
      obtain ⟨i, d, h1, h2, rfl⟩ := keyed_some e
      refine iteF ?_
      walk_at "wf"
      rw [fpr_eq h2] at h1
      have := k i G _ hA wf (.refl G) (by omega) h1 ((Kp.refl H).new ht)
      simpa using this
    | none =>
      refine iteT ?_
      have g1 : ((wts G).map V.int)[i]? = some (.int ((wts G).getD i 0)) := wts_get hi
      have g2 : ((wts G).map V.int)[j]? = some (.int ((wts G).getD j 0)) := wts_get hj
      walk_at "wf"
      refine ⟨_, _, _, rfl, ob, hz_no_new _, ?_⟩
      walk_at "wf"
      refine ⟨z, G, G, .pr i j, rfl, hA, hl, fun H1 hA1 k1 => ?_⟩
      have ob1 := hA1.ob
      walk_at "wf"
      have nt : t ∉ foot z := fun q => by
        simp only [foot, List.mem_cons, List.not_mem_nil, or_false] at q
        rcases q with q | q | q | q | q | q | q | q <;> subst q
        · rw [hA0.l1] at ht; cases ht
        · rw [hA0.l2] at ht; cases ht
        · rw [hA0.l3] at ht; cases ht
        · rw [hA0.l4] at ht; cases ht
        · rw [hA0.l5] at ht; cases ht
        · rw [hA0.d6] at ht; cases ht
        · rw [hA0.d7] at ht; cases ht
        · rw [hA0.d8] at ht; cases ht
      refine ⟨_, _, rfl, DPut.t hA1.d8 (k1 _ _ nt ht1) (Nat.lt_of_le_of_lt (keyed_len _ _ _) (by show G.length < 16777216; omega)), ?_⟩
      walk_at "wf"
      exact k _ _ _ (hA1.put8 e) (wf.snoc (fun hd => keyed_none e _ hd rfl) ⟨hi, hj⟩) (.snoc G _) (by simp) (get_new G _) ((((Kp.refl H).new ht).trans k1).at (by simp [foot]))
end
end Wh
set_option Elab.async false
set_option linter.all false
set_option maxRecDepth 100000
set_option maxHeartbeats 4000000
/-! The class Heap: reading a node, lists. -/
namespace Wh
open PySem L2 PySem.Spec PyProof.Rows
local macro_rules | `(tactic| walk_at "ne") => `(tactic| first | with_reducible assumption | (apply Ne.symm; with_reducible assumption))
local macro_rules | `(tactic| walk_at "hp") => `(tactic| first | with_reducible assumption | with_reducible exact upd_same | ((with_reducible refine (upd_ne ?n).trans ?h); (case n => walk_at "ne"); (case h => walk_at "hp")) | ((with_reducible show upd _ _ _ _ = _); exact upd_same))
local macro_rules | `(tactic| walk_at "cond") => `(tactic| first | with_reducible assumption | exact (rfl : (_ : Bool) = true) | ((try dsimp only) <;> first | with_reducible assumption | decide | omega) | exact ⟨by first | decide | omega | decide +kernel, by first | decide | omega | decide +kernel⟩ | decide +kernel | exact .inr ⟨by decide, by decide⟩ | exact .inl ⟨by decide, by decide⟩)
local macro_rules | `(tactic| walk_at "sq") => `(tactic| first | with_reducible assumption | exact SqL.of (by walk_at "hp"))
local macro_rules | `(tactic| walk_at "sz") => `(tactic| first | with_reducible assumption | (show _ ≤ 16777216; omega))
local macro_rules | `(tactic| walk_at "at") => `(tactic| first | with_reducible assumption | exact atI_nat (by with_reducible assumption) | exact atI_nat (j := 0) (rfl : (_ : Option Nat) = some _) | exact atI_nat (by assumption))
local macro_rules | `(tactic| walk_at "w1") => `(tactic| (fail_if_success with_reducible show @ite _ _ _ _ _); first
  | refine ⟨_, rfl, ?_⟩
  | refine ⟨_, _, (rfl : _ = V.int _), (rfl : _ = V.int _), And.intro (by walk_at "cond") ?_⟩
  | refine ⟨_, _, (rfl : _ = V.int _), (rfl : _ = V.int _), ?_⟩
  | refine ⟨_, _, (rfl : _ = V.str _), (rfl : _ = V.str _), And.intro (by walk_at "sz") ?_⟩
  | refine ⟨_, _, (rfl : _ = V.str _), (rfl : _ = V.str _), ?_⟩
  | refine ⟨_, _, _, _, (rfl : _ = V.ref _), (rfl : _ = V.int _), (by walk_at "sq"), rfl, ?_⟩
  | refine ⟨_, _, _, _, (rfl : _ = V.ref _), (rfl : _ = V.int _), (by walk_at "hp"), rfl, ?_⟩
  | refine ⟨Or.inl ⟨rfl, _, (by walk_at "sq")⟩, ?_⟩
  | refine ⟨_, _, _, (rfl : _ = V.ref _), (rfl : (_ : List V) = _), (by walk_at "hp"), (by with_reducible assumption), ?_⟩
  | refine ⟨_, _, (rfl : (_ : List V) = _), Or.inl ((by walk_at "sq")), ?_⟩
  | refine ⟨_, _, _, _, (rfl : _ = V.ref _), (rfl : _ = V.int _), (by walk_at "sq"), (by walk_at "at"), ?_⟩
  | refine ⟨_, _, _, (rfl : _ = V.str _), (rfl : _ = V.int _), (by walk_at "sz"), (by walk_at "at"), ?_⟩
  | refine ⟨_, _, (rfl : (_ : List V) = [V.str _]), SX.int_S (by assumption) (by simp) (by assumption), (by assumption), ?_⟩
  | refine ⟨_, _, (rfl : (_ : List V) = [_, _]), ?_⟩
  | refine ⟨_, _, (rfl : _ = V.ref _), (by walk_at "sq"), ?_⟩
  | refine ⟨(rfl : (_ : Bool) = true), ?_⟩
  | refine ⟨(rfl : (_ : V) = V.non), ?_⟩
  | refine And.intro (by walk_at "sz") ?_
  | refine ⟨⟨_, (rfl : _ = V.str _)⟩, ?_⟩
  | refine ⟨_, (rfl : _ = V.str _), (rfl : (_ : List V) = _), trivial, ?_⟩
  | refine .inl ⟨_, rfl, ?_⟩)
local macro_rules | `(tactic| walk_at "w") => `(tactic| repeat walk_at "w1")
local macro_rules | `(tactic| walk_at "fld") => `(tactic| (fail_if_success with_reducible show @ite _ _ _ _ _); first
  | refine ⟨_, _, _, _, _, (rfl : _ = V.ref _), (by walk_at "hp"), Txt.cl_Heap _, Txt.nf__shapes _, hz_shapes _, ?_⟩
  | refine ⟨_, _, _, _, _, (rfl : _ = V.ref _), (by walk_at "hp"), Txt.cl_Heap _, Txt.nf__faces _, hz_faces _, ?_⟩
  | refine ⟨_, _, _, _, _, (rfl : _ = V.ref _), (by walk_at "hp"), Txt.cl_Heap _, Txt.nf__firsts _, hz_firsts _, ?_⟩
  | refine ⟨_, _, _, _, _, (rfl : _ = V.ref _), (by walk_at "hp"), Txt.cl_Heap _, Txt.nf__seconds _, hz_seconds _, ?_⟩
  | refine ⟨_, _, _, _, _, (rfl : _ = V.ref _), (by walk_at "hp"), Txt.cl_Heap _, Txt.nf__hefts _, hz_hefts _, ?_⟩
  | refine ⟨_, _, _, _, _, (rfl : _ = V.ref _), (by walk_at "hp"), Txt.cl_Heap _, Txt.nf__numbers _, hz_numbers _, ?_⟩
  | refine ⟨_, _, _, _, _, (rfl : _ = V.ref _), (by walk_at "hp"), Txt.cl_Heap _, Txt.nf__names _, hz_names _, ?_⟩
  | refine ⟨_, _, _, _, _, (rfl : _ = V.ref _), (by walk_at "hp"), Txt.cl_Heap _, Txt.nf__pairs _, hz_pairs _, ?_⟩)
local macro_rules | `(tactic| walk_at "wf") => `(tactic| repeat first | walk_at "w1" | walk_at "fld")
section
variable {P : Program} {w : World} {K : PySem.W.Frag} {mg : Str → Option Value} {base : Heap}
theorem map_get {α β : Type} (f : α → β) {G : List α} {i : Nat} {d : α} (h : G[i]? = some d) : (G.map f)[i]? = some (f d) := by rw [List.getElem?_map, h]; rfl
/-- a look at a node -/
def spLook (C : Addr) (f : Nd → V) : Sp := fun vs H Q _ => ∃ (z : Hz) (G D : List Nd) (i : Nat) (d : Nd), vs = [.ref z.p, .int (i : Int)] ∧ HA C H z G D ∧ G[i]? = some d ∧ Q (f d) H
theorem ok_Heap_shape (T : Txt K mg) : FnOk P w K mg base CX0 1 T.a_Heap_shape T.d_Heap_shape ["self", "value"] (spLook T.C_Heap shapeV) := by
  refine T.Heap_shape.fn.ok sc_Heap_shape (fun vs H Q E h => ?_) (fun cdv A outer s H vs Q E hr h => ?_)
  · obtain ⟨z, G, D, i, d, rfl, _⟩ := h
    rfl
  · obtain ⟨z, G, D, i, d, rfl, hA, hd, k⟩ := h
    obtain ⟨ob, l1, l2, l3, l4, l5, d6, d7, d8, n12, n13, n14, n15, n23, n24, n25, n34, n35, n45, n67⟩ := id hA
    have g := map_get shapeV hd
    refine ⟨_, (pss_one (ps_ret (pe_ix ix_list (pe_fld (pv 0) rfl) (pv 1) (fun _ _ => rfl)))), ?_⟩
    dsimp only [cxOf, Cx.nox]
    walk_at "wf"
    exact k
theorem ok_Heap_face (T : Txt K mg) : FnOk P w K mg base CX0 1 T.a_Heap_face T.d_Heap_face ["self", "value"] (spLook T.C_Heap faceV) := by
  refine T.Heap_face.fn.ok sc_Heap_face (fun vs H Q E h => ?_) (fun cdv A outer s H vs Q E hr h => ?_)
  · obtain ⟨z, G, D, i, d, rfl, _⟩ := h
    rfl
  · obtain ⟨z, G, D, i, d, rfl, hA, hd, k⟩ := h
    obtain ⟨ob, l1, l2, l3, l4, l5, d6, d7, d8, n12, n13, n14, n15, n23, n24, n25, n34, n35, n45, n67⟩ := id hA
    have g := map_get faceV hd
    refine ⟨_, (pss_one (ps_ret (pe_ix ix_list (pe_fld (pv 0) rfl) (pv 1) (fun _ _ => rfl)))), ?_⟩
    dsimp only [cxOf, Cx.nox]
    walk_at "wf"
    exact k
theorem ok_Heap_first (T : Txt K mg) : FnOk P w K mg base CX0 1 T.a_Heap_first T.d_Heap_first ["self", "value"] (spLook T.C_Heap firstV) := by
  refine T.Heap_first.fn.ok sc_Heap_first (fun vs H Q E h => ?_) (fun cdv A outer s H vs Q E hr h => ?_)
  · obtain ⟨z, G, D, i, d, rfl, _⟩ := h
    rfl
  · obtain ⟨z, G, D, i, d, rfl, hA, hd, k⟩ := h
    obtain ⟨ob, l1, l2, l3, l4, l5, d6, d7, d8, n12, n13, n14, n15, n23, n24, n25, n34, n35, n45, n67⟩ := id hA
    have g := map_get firstV hd
    refine ⟨_, (pss_one (ps_ret (pe_ix ix_list (pe_fld (pv 0) rfl) (pv 1) (fun _ _ => rfl)))), ?_⟩
    dsimp only [cxOf, Cx.nox]
    walk_at "wf"
    exact k
theorem ok_Heap_second (T : Txt K mg) : FnOk P w K mg base CX0 1 T.a_Heap_second T.d_Heap_second ["self", "value"] (spLook T.C_Heap secondV) := by
  refine T.Heap_second.fn.ok sc_Heap_second (fun vs H Q E h => ?_) (fun cdv A outer s H vs Q E hr h => ?_)
  · obtain ⟨z, G, D, i, d, rfl, _⟩ := h
    rfl
  · obtain ⟨z, G, D, i, d, rfl, hA, hd, k⟩ := h
    obtain ⟨ob, l1, l2, l3, l4, l5, d6, d7, d8, n12, n13, n14, n15, n23, n24, n25, n34, n35, n45, n67⟩ := id hA
    have g := map_get secondV hd
    refine ⟨_, (pss_one (ps_ret (pe_ix ix_list (pe_fld (pv 0) rfl) (pv 1) (fun _ _ => rfl)))), ?_⟩
    dsimp only [cxOf, Cx.nox]
    walk_at "wf"
    exact k
theorem Kp.seq {K : PySem.W.Frag} {F : List Addr} {H H' : Hp} {a : Addr} {xs : List V} (e : Kp F H H') (n : a ∉ F) (h : SqL K H a xs) : SqL K H' a xs := by
  rcases h with (h | ⟨o, h⟩) | h
  · exact .inl (.inl (e _ _ n h))
  · exact .inl (.inr ⟨o, e _ _ n h⟩)
  · exact .inr h
theorem paired_len {α β : Type} {F : α → β → Prop} : ∀ {l : List α} {m : List β}, Paired F l m → l.length = m.length
  | _, _, .nil => rfl
  | _, _, .cons _ r => by simp [paired_len r]
theorem paired_at {α β : Type} {F : α → β → Prop} : ∀ {l : List α} {m : List β} {i : Nat} {b : β}, Paired F l m → m[i]? = some b → ∃ a, l[i]? = some a ∧ F a b
  | _, _, _, _, .nil, h => by simp at h
  | _, _, 0, _, .cons f _, h => by simp at h; subst h; exact ⟨_, rfl, f⟩
  | _, _, i + 1, _, .cons _ r, h => by simp at h; simpa using paired_at r h
theorem paired_imp {α β : Type} {F G : α → β → Prop} (k : ∀ a b, F a b → G a b) : ∀ {l : List α} {m : List β}, Paired F l m → Paired G l m
  | _, _, .nil => .nil
  | _, _, .cons f r => .cons (k _ _ f) (paired_imp k r)
theorem Kp.list {K : PySem.W.Frag} {F : List Addr} {H H' : Hp} {a : Addr} {xs : List V} (k : Kp F H H') (n : a ∉ F) (h : H a = some (.lst xs)) : H' a = some (.lst xs) := k _ _ n h
theorem ivs_len (ids : List Nat) : (ivs ids).length = ids.length := by unfold ivs; rw [List.length_map]
theorem iteNN {c A B : Prop} [Decidable c] (hc : ¬ c) (h : A) : if (!decide c) = true then A else B := by
  rw [decide_eq_false hc]
  exact iteT h
theorem iteND {c A B : Prop} [Decidable c] (h1 : ¬ c → A) (h2 : c → B) : if (!decide c) = true then A else B := by
  by_cases h : c
  · exact iteNS h (h2 h)
  · exact iteNN h (h1 h)
def spListed (K : PySem.W.Frag) (C : Addr) : Sp := fun vs H Q _ => ∃ (z : Hz) (G : List Nd) (a : Addr) (ids : List Nat) (ts : List Tr), vs = [.ref z.p, .ref a] ∧ HA C H z G G ∧ WF G ∧ SqL K H a (ivs ids) ∧ a ∉ foot z ∧
  Paired (Den G) ts ids ∧ G.length + ids.length < 16000000 ∧
  ∀ (i : Nat) (G' : List Nd) (H' : Hp), HA C H' z G' G' → WF G' → Ext G G' → G'.length ≤ G.length + ids.length → Den G' (mkl ts) i → Kp (foot z) H H' → Q (.int (i : Int)) H'
theorem ok_Heap_listed (T : Txt K mg) : FnOk P w K mg base CX0 3 T.a_Heap_listed T.d_Heap_listed ["self", "ids"] (spListed K T.C_Heap) := by
  refine T.Heap_listed.fn.ok sc_Heap_listed (fun vs H Q E h => ?_) (fun cdv A outer s H vs Q E hr h => ?_)
  · obtain ⟨z, G, a, ids, ts, rfl, _⟩ := h
    rfl
  · obtain ⟨z, G, a, ids, ts, rfl, hA, wf, hS, na, hP, hl, k⟩ := h
    refine ⟨_, (pss_cons (ps_set (i := 2) sc_Heap_listed.nd rfl (Or.inl rfl) (pe_glob (v := .int 0) rfl T.c_NIL ⟨_, rfl⟩))
      (pss_cons (ps_for PassesOwn.never rfl (pi_reversed (by rfl) T.b_reversed (pa_cons (pv 1) pa_nil)) (pg_name (i := 3) sc_Heap_listed.nd rfl (Or.inl rfl)) (pss_one (ps_set (i := 2) sc_Heap_listed.nd rfl (Or.inl rfl) (pe_meth (pv 0) T.cl_Heap T.Heap_pair.me (ok_Heap_pair (P := P) (w := w) (base := base) T) (hr.mono (by decide)) T.Heap_pair.b .nil pass0 (pa_cons (pv 3) (pa_cons (pv 2) pa_nil))))))
      (pss_one (ps_ret (pv 2))))), ?_⟩
    dsimp only [cxOf, Cx.nox]
    walk_at "wf"
    refine ⟨_, _, rfl, hS, RT.for_Itv (K := K) (a := a) (xs := ivs ids) (fun i σ H1 => ∃ (v : Nat) (G1 : List Nd) (m : Option V), σ = [some (.ref z.p), some (.ref a), some (.int (v : Int)), m] ∧
      HA T.C_Heap H1 z G1 G1 ∧ WF G1 ∧ Ext G G1 ∧ G1.length ≤ G.length + i ∧ Den G1 (mkl (ts.drop (ts.length - i))) v ∧ Kp (foot z) H H1) ?_ ?_ ?_ ?_⟩
    · exact ⟨0, G, none, rfl, hA, wf, .refl G, Nat.le_refl _, by rw [Nat.sub_zero, List.drop_length]; exact wf.z, .refl H⟩
    · rintro i σ H1 ⟨v, G1, m, rfl, hA1, wf1, ex, le, den, kp⟩
      exact kp.seq na hS
    · rintro i x σ H1 hi hx ⟨v, G1, m, rfl, hA1, wf1, ex, le, den, kp⟩
      rw [ivs_len] at hi hx
      unfold ivs at hx
      rw [List.getElem?_map] at hx
      cases e : ids[ids.length - 1 - i]? with
      | none => rw [e] at hx; cases hx
      | some y =>
        rw [e] at hx
        cases hx
        obtain ⟨t, ht, dt⟩ := paired_at hP e
        have ob1 := hA1.ob
        walk_at "wf"
        refine ⟨_, _, _, rfl, ob1, hz_no_pair _, ?_⟩
        walk_at "wf"
        have dt1 := dt.mono ex
        refine ⟨z, G1, y, v, rfl, hA1, wf1, by omega, dt1.lt, den.lt, fun j G2 H2 hA2 wf2 ex2 le2 nd kp2 => ?_⟩
        walk_at "wf"
        refine ⟨j, G2, _, rfl, hA2, wf2, ex.trans ex2, by omega, ?_, kp.trans kp2⟩
        have hlen := paired_len hP
        have e1 : ts.length - i = (ts.length - (i + 1)) + 1 := by omega
        have e2 : ts.drop (ts.length - (i + 1)) = t :: ts.drop (ts.length - i) := by
          rw [e1]
          have h3 : ts.length - (i + 1) < ts.length := by omega
          rw [List.drop_eq_getElem_cons h3]
          congr 1
          rw [show ids.length - 1 - i = ts.length - (i + 1) from by omega, List.getElem?_eq_getElem h3] at ht
          exact Option.some.inj ht
        rw [e2]
        exact ⟨y, v, nd, dt1.mono ex2, den.mono ex2⟩
    · rintro σ H1 ⟨v, G1, m, rfl, hA1, wf1, ex, le, den, kp⟩
      rw [ivs_len] at le den
      walk_at "wf"
      have hlen := paired_len hP
      rw [show ts.length - ids.length = 0 from by omega, List.drop_zero] at den
      exact k v G1 H1 hA1 wf1 ex le den kp
def natAt (i : Nat) (σ : L2.St) : Nat := match σ[i]? with
  | some (some (.int v)) => v.toNat
  | _ => 0
def spSpread (C : Addr) : Sp := fun vs H Q _ => ∃ (z : Hz) (G : List Nd) (i : Nat) (t : Tr), vs = [.ref z.p, .int (i : Int)] ∧ HA C H z G G ∧ WF G ∧ Den G t i ∧ Pr t ∧ G.length < 16000000 ∧
  (isL t = false → Q .non H) ∧ (isL t = true → ∀ (p : Addr) (ids : List Nat) (H' : Hp), H p = none → Paired (Den G) (spread t) ids → H' p = some (.lst (ivs ids)) → Kp [] H H' → Q (.ref p) H')
theorem ok_Heap_spread (T : Txt K mg) : FnOk P w K mg base CX0 1 T.a_Heap_spread T.d_Heap_spread ["self", "value"] (spSpread T.C_Heap) := by
  refine T.Heap_spread.fn.ok sc_Heap_spread (fun vs H Q E h => ?_) (fun cdv A outer s H vs Q E hr h => ?_)
  · obtain ⟨z, G, i, t, rfl, _⟩ := h
    rfl
  · obtain ⟨z, G, i, t, rfl, hA, wf, den, pr, hl, k0, k1⟩ := h
    obtain ⟨ob, l1, l2, l3, l4, l5, d6, d7, d8, n12, n13, n14, n15, n23, n24, n25, n34, n35, n45, n67⟩ := id hA
    obtain ⟨d, hd, hdt⟩ := den.node
    have g2 := map_get faceV hd
    refine ⟨_, (pss_cons (ps_if (pt_cmpR op_notN (pe_ix ix_list (pe_fld (pv 0) rfl) (pv 1) (fun _ _ => rfl)) pe_non (nomark _)) (pss_one (ps_ret pe_non)) pss_nil)
      (pss_cons (ps_set (i := 2) sc_Heap_spread.nd rfl (Or.inl rfl) (pe_lst pa_nil))
      (pss_cons (ps_while PassesOwn.never (pt_cmpR op_ne (pv 1) (pe_glob (v := .int 0) rfl T.c_NIL ⟨_, rfl⟩) (nomark _)) (pss_cons (ps_expr (pe_bm PySem.F.plainAttrs_list PySem.F.slot_list_append PySem.F.type_list_append mt_append (pv 2) (pa_cons (pe_ix ix_list (pe_fld (pv 0) rfl) (pv 1) (fun _ _ => rfl)) pa_nil)))
      (pss_one (ps_set (i := 1) sc_Heap_spread.nd rfl (Or.inl rfl) (pe_ix ix_list (pe_fld (pv 0) rfl) (pv 1) (fun _ _ => rfl))))))
      (pss_one (ps_ret (pv 2)))))), ?_⟩
    dsimp only [cxOf, Cx.nox]
    walk_at "wf"
    have lists : isL t = true → faceV d = V.non := fun hL => by
      cases t with
      | nil => cases hdt; rfl
      | cons a b => obtain ⟨x, y, rfl, _⟩ := hdt; rfl
      | _ => cases hL
    have others : isL t = false → ¬ faceV d = V.non := fun hL => by
      cases t with
      | nil => cases hL
      | cons a b => cases hL
      | num n => cases hdt; simp [faceV]
      | nam n => cases hdt; simp [faceV]
    cases hL : isL t with
    | false =>
      refine iteNN (others hL) ?_
      walk_at "wf"
      exact k0 hL
    | true =>
      refine iteNS (lists hL) ?_
      walk_at "wf"
      refine ⟨Nat.zero_le _, fun p hp => ?_⟩
      walk_at "wf"
      refine while_by (fun σ H1 => ∃ (v : Nat) (ids : List Nat) (rest : Tr), σ = [some (.ref z.p), some (.int (v : Int)), some (.ref p)] ∧ Den G rest v ∧ isL rest = true ∧ Pr rest ∧
        (∃ done, spread t = done ++ spread rest ∧ Paired (Den G) done ids) ∧ H1 p = some (.lst (ivs ids)) ∧ Kp [] H H1 ∧ ids.length + v ≤ i) (fun σ _ => natAt 1 σ) ?_ ?_ ?_
      · exact ⟨i, [], t, rfl, den, hL, pr, ⟨[], rfl, .nil⟩, upd_same, (Kp.refl H).new hp, by simp⟩
      · rintro σ H1 ⟨v, ids, rest, rfl, dr, lr, prr, ⟨done, ed, pd⟩, hp1, kp, le⟩
        have hA1 := hA.same kp.same
        have ob1 := hA1.ob
        have l3' := hA1.l3
        have l4' := hA1.l4
        walk_at "wf"
        refine iteND (fun c => ?_) (fun c => ?_)
        · have v0 : v ≠ 0 := fun q => c (by rw [q]; rfl)
          cases rest with
          | nil => exact absurd (wf.nil_at dr) v0
          | num n => cases lr
          | nam n => cases lr
          | cons a b =>
            obtain ⟨x, y, hn, da, db⟩ := dr
            have g3 := map_get firstV hn
            have g4 := map_get secondV hn
            have lt := wf.lt v x y hn
            have np1 : z.p ≠ p := fun q => by rw [q, hp1] at ob1; cases ob1
            have np4 : z.a4 ≠ p := fun q => by
              have := hA.l4
              rw [q, hp] at this; cases this
            have sz : (ivs ids).length < sizeLine := by rw [ivs_len]; show _ < 16777216; have := den.lt; omega
            walk_at "wf"
            refine ⟨⟨y, ids ++ [x], b, rfl, db, prr.2.2, prr.2.1, ⟨done ++ [a], ?_, pd.snoc da⟩, ?_, fun c o hc e => ?_, by simp; omega⟩, ?_⟩
            · rw [ed]; simp [spread]
            · unfold ivs; rw [List.map_append]; exact upd_same
            · rw [upd_ne (ne_of_none e hp)]; exact kp c o hc e
            · show Int.toNat (y : Int) < Int.toNat (v : Int); omega
        · have v0 : v = 0 := by simpa using c
          subst v0
          have er : rest = .nil := by
            cases rest with
            | nil => rfl
            | num n => cases lr
            | nam n => cases lr
            | cons a b =>
              obtain ⟨x, y, hn, da, db⟩ := dr
              have := wf.z
              rw [hn] at this; cases this
          subst er
          walk_at "wf"
          refine k1 hL p ids H1 hp ?_ hp1 kp
          rw [ed]; simpa [spread] using pd
      · exact fun _ _ _ _ h ⟨v, e, sc, k, ek, q⟩ => ⟨v, e, sc, k, ek, h _ _ q⟩
end
end Wh
set_option Elab.async false
set_option linter.all false
set_option maxRecDepth 100000
set_option maxHeartbeats 1000000
/-! Reading a text. -/
namespace Wh
open PySem L2 PySem.Spec PyProof.Rows
local macro_rules | `(tactic| walk_at "ne") => `(tactic| first | with_reducible assumption | (apply Ne.symm; with_reducible assumption))
local macro_rules | `(tactic| walk_at "hp") => `(tactic| first | with_reducible assumption | with_reducible exact upd_same | ((with_reducible refine (upd_ne ?n).trans ?h); (case n => walk_at "ne"); (case h => walk_at "hp")) | ((with_reducible show upd _ _ _ _ = _); exact upd_same))
local macro_rules | `(tactic| walk_at "cond") => `(tactic| first | with_reducible assumption | exact (rfl : (_ : Bool) = true) | ((try dsimp only) <;> first | with_reducible assumption | decide | omega) | exact ⟨by first | decide | omega | decide +kernel, by first | decide | omega | decide +kernel⟩ | decide +kernel | exact .inr ⟨by decide, by decide⟩ | exact .inl ⟨by decide, by decide⟩)
local macro_rules | `(tactic| walk_at "sq") => `(tactic| first | with_reducible assumption | exact SqL.of (by walk_at "hp"))
local macro_rules | `(tactic| walk_at "sz") => `(tactic| first | with_reducible assumption | (show _ ≤ 16777216; omega))
local macro_rules | `(tactic| walk_at "at") => `(tactic| first | with_reducible assumption | exact atI_nat (by with_reducible assumption) | exact atI_nat (j := 0) (rfl : (_ : Option Nat) = some _) | exact atI_nat (by assumption))
local macro_rules | `(tactic| walk_at "w1") => `(tactic| (fail_if_success with_reducible show @ite _ _ _ _ _); first
  | refine ⟨_, rfl, ?_⟩
  | refine ⟨_, _, (rfl : _ = V.int _), (rfl : _ = V.int _), And.intro (by walk_at "cond") ?_⟩
  | refine ⟨_, _, (rfl : _ = V.int _), (rfl : _ = V.int _), ?_⟩
  | refine ⟨_, _, (rfl : _ = V.str _), (rfl : _ = V.str _), And.intro (by walk_at "sz") ?_⟩
  | refine ⟨_, _, (rfl : _ = V.str _), (rfl : _ = V.str _), ?_⟩
  | refine ⟨_, _, _, _, (rfl : _ = V.ref _), (rfl : _ = V.int _), (by walk_at "sq"), rfl, ?_⟩
  | refine ⟨_, _, _, _, (rfl : _ = V.ref _), (rfl : _ = V.int _), (by walk_at "hp"), rfl, ?_⟩
  | refine ⟨Or.inl ⟨rfl, _, (by walk_at "sq")⟩, ?_⟩
  | refine ⟨_, _, _, (rfl : _ = V.ref _), (rfl : (_ : List V) = _), (by walk_at "hp"), (by with_reducible assumption), ?_⟩
  | refine ⟨_, _, (rfl : (_ : List V) = _), Or.inl ((by walk_at "sq")), ?_⟩
  | refine ⟨_, _, _, _, (rfl : _ = V.ref _), (rfl : _ = V.int _), (by walk_at "sq"), (by walk_at "at"), ?_⟩
  | refine ⟨_, _, _, (rfl : _ = V.str _), (rfl : _ = V.int _), (by walk_at "sz"), (by walk_at "at"), ?_⟩
  | refine ⟨_, _, (rfl : (_ : List V) = [V.str _]), SX.int_S (by assumption) (by simp) (by assumption), (by assumption), ?_⟩
  | refine ⟨_, _, (rfl : (_ : List V) = [_, _]), ?_⟩
  | refine ⟨_, _, (rfl : _ = V.ref _), (by walk_at "sq"), ?_⟩
  | refine ⟨(rfl : (_ : Bool) = true), ?_⟩
  | refine ⟨(rfl : (_ : V) = V.non), ?_⟩
  | refine And.intro (by walk_at "sz") ?_
  | refine ⟨⟨_, (rfl : _ = V.str _)⟩, ?_⟩
  | refine ⟨_, (rfl : _ = V.str _), (rfl : (_ : List V) = _), trivial, ?_⟩
  | refine .inl ⟨_, rfl, ?_⟩)
local macro_rules | `(tactic| walk_at "w") => `(tactic| repeat walk_at "w1")
local macro_rules | `(tactic| walk_at "fld") => `(tactic| (fail_if_success with_reducible show @ite _ _ _ _ _); first
  | refine ⟨_, _, _, _, _, (rfl : _ = V.ref _), (by walk_at "hp"), Txt.cl_Heap _, Txt.nf__shapes _, hz_shapes _, ?_⟩
  | refine ⟨_, _, _, _, _, (rfl : _ = V.ref _), (by walk_at "hp"), Txt.cl_Heap _, Txt.nf__faces _, hz_faces _, ?_⟩
  | refine ⟨_, _, _, _, _, (rfl : _ = V.ref _), (by walk_at "hp"), Txt.cl_Heap _, Txt.nf__firsts _, hz_firsts _, ?_⟩
  | refine ⟨_, _, _, _, _, (rfl : _ = V.ref _), (by walk_at "hp"), Txt.cl_Heap _, Txt.nf__seconds _, hz_seconds _, ?_⟩
  | refine ⟨_, _, _, _, _, (rfl : _ = V.ref _), (by walk_at "hp"), Txt.cl_Heap _, Txt.nf__hefts _, hz_hefts _, ?_⟩
  | refine ⟨_, _, _, _, _, (rfl : _ = V.ref _), (by walk_at "hp"), Txt.cl_Heap _, Txt.nf__numbers _, hz_numbers _, ?_⟩
  | refine ⟨_, _, _, _, _, (rfl : _ = V.ref _), (by walk_at "hp"), Txt.cl_Heap _, Txt.nf__names _, hz_names _, ?_⟩
  | refine ⟨_, _, _, _, _, (rfl : _ = V.ref _), (by walk_at "hp"), Txt.cl_Heap _, Txt.nf__pairs _, hz_pairs _, ?_⟩)
local macro_rules | `(tactic| walk_at "wf") => `(tactic| repeat first | walk_at "w1" | walk_at "fld")
theorem iteD {c A B : Prop} [Decidable c] (h1 : c → A) (h2 : ¬ c → B) : if decide c = true then A else B := by
  by_cases h : c
  · rw [if_pos (decide_eq_true h)]
    exact h1 h
  · rw [if_neg (by simpa using h)]
    exact h2 h
theorem iteB {c : Bool} {A B : Prop} (h1 : c = true → A) (h2 : c = false → B) : if c = true then A else B := by
  cases c with
  | true => exact iteT (h1 rfl)
  | false => exact iteF (h2 rfl)
theorem S_cps (l : List Nat) : (SX.S l).cps.toList = l := rfl
theorem c_digits : (Str.ofString "0123456789").cps.toList = [48, 49, 50, 51, 52, 53, 54, 55, 56, 57] := by decide +kernel
theorem c_lower : (Str.ofString "abcdefghijklmnopqrstuvwxyz").cps.toList = [97, 98, 99, 100, 101, 102, 103, 104, 105, 106, 107, 108, 109, 110, 111, 112, 113, 114, 115, 116, 117, 118, 119, 120, 121, 122] := by decide +kernel
theorem c_names : (Str.ofString "abcdefghijklmnopqrstuvwxyz0123456789").cps.toList = [97, 98, 99, 100, 101, 102, 103, 104, 105, 106, 107, 108, 109, 110, 111, 112, 113, 114, 115, 116, 117, 118, 119, 120, 121, 122, 48, 49, 50, 51, 52, 53, 54, 55, 56, 57] := by decide +kernel
theorem c_words : (Str.ofString "abcdefghijklmnopqrstuvwxyzABCDEFGHIJKLMNOPQRSTUVWXYZ0123456789").cps.toList = [97, 98, 99, 100, 101, 102, 103, 104, 105, 106, 107, 108, 109, 110, 111, 112, 113, 114, 115, 116, 117, 118, 119, 120, 121, 122, 65, 66, 67, 68, 69, 70, 71, 72, 73, 74, 75, 76, 77, 78, 79, 80, 81, 82, 83, 84, 85, 86, 87, 88, 89, 90, 48, 49, 50, 51, 52, 53, 54, 55, 56, 57] := by decide +kernel
theorem c_blanks : (Str.ofString " \n").cps.toList = [32, 10] := by decide +kernel
theorem mem_digits (c : Nat) : c ∈ (Str.ofString "0123456789").cps.toList ↔ isDig c = true := by
  rw [c_digits]
  simp only [List.mem_cons, List.not_mem_nil, or_false, isDig, Bool.and_eq_true, decide_eq_true_eq]
  omega
theorem mem_lower (c : Nat) : c ∈ (Str.ofString "abcdefghijklmnopqrstuvwxyz").cps.toList ↔ isLow c = true := by
  rw [c_lower]
  simp only [List.mem_cons, List.not_mem_nil, or_false, isLow, Bool.and_eq_true, decide_eq_true_eq]
  omega
theorem mem_names (c : Nat) : c ∈ (Str.ofString "abcdefghijklmnopqrstuvwxyz0123456789").cps.toList ↔ isNs c = true := by
  rw [c_names]
  simp only [List.mem_cons, List.not_mem_nil, or_false, isNs, isLow, isDig, Bool.or_eq_true, Bool.and_eq_true, decide_eq_true_eq]
  omega
theorem mem_words (c : Nat) : c ∈ (Str.ofString "abcdefghijklmnopqrstuvwxyzABCDEFGHIJKLMNOPQRSTUVWXYZ0123456789").cps.toList ↔ isW c = true := by
  rw [c_words]
  simp only [List.mem_cons, List.not_mem_nil, or_false, isW, isUp, isLow, isDig, Bool.or_eq_true, Bool.and_eq_true, decide_eq_true_eq]
  omega
theorem mem_blanks (c : Nat) : c ∈ (Str.ofString " \n").cps.toList ↔ isB c = true := by
  rw [c_blanks]
  simp [isB]
section
variable {P : Program} {w : World} {K : PySem.W.Frag} {mg : Str → Option Value} {base : Heap}
def spConsists : Sp := fun vs H Q _ => ∃ (l : List Nat) (z : Str), vs = [.str (SX.S l), .str z] ∧ Q (.bl (l.all fun c => decide (c ∈ z.cps.toList))) H
theorem ok_consists_of (T : Txt K mg) : FnOk P w K mg base CX0 1 T.a_consists_of T.d_consists_of ["word", "signs"] spConsists := by
  refine T.consists_of.fn.ok sc_consists_of (fun vs H Q E h => ?_) (fun cdv A outer s H vs Q E hr h => ?_)
  · obtain ⟨l, z, rfl, _⟩ := h
    rfl
  · obtain ⟨l, z, rfl, k⟩ := h
    refine ⟨_, (pss_cons (ps_for PassesOwn.never rfl (pi_str (pv 0)) (pg_name (i := 2) sc_consists_of.nd rfl (Or.inl rfl)) (pss_one (ps_if (pt_cmpR op_notIn_sign (pv 2) (pv 1) rfl) (pss_one (ps_ret pe_bl)) pss_nil)))
      (pss_one (ps_ret pe_bl))), ?_⟩
    try dsimp only [cxOf, Cx.nox]
    walk_at "wf"
    refine for_it (walk_str (z := SX.S l)) (fun i σ H1 => H1 = H ∧ (∃ v, σ = [some (.str (SX.S l)), some (.str z), v]) ∧ ∀ c ∈ l.take i, c ∈ z.cps.toList) ⟨rfl, ⟨none, rfl⟩, by simp⟩ (fun _ _ _ _ _ => trivial) ?_ ?_
    · rintro i x σ H1 H2 hi ⟨rfl, ⟨v, rfl⟩, hall⟩ ⟨rfl, c, hc, rfl⟩
      have hc' : l[i]? = some c := by simpa [SX.S] using hc
      walk_at "wf"
      refine iteND (fun n => ?_) (fun y => ?_)
      · walk_at "wf"
        have e : (l.all fun c => decide (c ∈ z.cps.toList)) = false := by
          rw [List.all_eq_false]
          exact ⟨c, List.mem_of_getElem? hc', by simpa using n⟩
        rw [e] at k
        exact k
      · refine ⟨rfl, ⟨_, rfl⟩, fun d hd => ?_⟩
        rw [List.take_add_one, hc'] at hd
        rcases List.mem_append.mp hd with hd | hd
        · exact hall d hd
        · simp at hd; rw [hd]; exact y
    · rintro σ H1 ⟨rfl, ⟨v, rfl⟩, hall⟩
      walk_at "wf"
      have e : (l.all fun c => decide (c ∈ z.cps.toList)) = true := by
        rw [List.all_eq_true]
        intro c hc
        exact decide_eq_true (hall c (by rw [show l.take (SX.S l).cps.size = l from List.take_length]; exact hc))
      rw [e] at k
      exact k
theorem all_mem {l : List Nat} {z : Str} {f : Nat → Bool} (h : ∀ c, c ∈ z.cps.toList ↔ f c = true) : (l.all fun c => decide (c ∈ z.cps.toList)) = l.all f := by
  congr 1
  funext c
  by_cases q : f c = true
  · rw [q]; exact decide_eq_true ((h c).mpr q)
  · rw [Bool.eq_false_iff.mpr q]; exact decide_eq_false fun z => q ((h c).mp z)
/-! ### an atom -/
theorem digitsVal_lt {l : List Nat} (h : NumText.AllDigits l) : NumText.digitsVal l < 10 ^ l.length := by
  have go : ∀ (l : List Nat) (a n : Nat), NumText.AllDigits l → a < 10 ^ n → l.foldl (fun acc c => acc * 10 + (c - 48)) a < 10 ^ (n + l.length) := by
    intro l
    induction l with
    | nil => intro a n _ h; simpa using h
    | cons c r ih =>
      intro a n hd h
      have hc := hd c (by simp)
      have e := ih (a * 10 + (c - 48)) (n + 1) (fun d hd' => hd d (by simp [hd'])) (by rw [Nat.pow_succ]; omega)
      rw [List.foldl_cons]
      rw [show n + (c :: r).length = n + 1 + r.length from by simp; omega]
      exact e
  have := go l 0 0 h (by decide)
  simpa [NumText.digitsVal] using this
theorem atom_dig_none {c : Nat} {r : List Nat} (d : isDig c = true) (h : 4 < (c :: r).length ∨ ¬ (c :: r).all isDig = true) : atom (c :: r) = none := by
  unfold atom; dsimp only; rw [if_pos d, if_pos h]
theorem atom_zero_none {c : Nat} {r : List Nat} (d : isDig c = true) (h : ¬ 4 < (c :: r).length) (ha : (c :: r).all isDig = true) (hz : c = 48 ∧ c :: r ≠ [48]) : atom (c :: r) = none := by
  unfold atom; dsimp only; rw [if_pos d, if_neg (fun q => q.elim h (fun q => q ha)), if_pos hz]
theorem atom_num_some {c : Nat} {r : List Nat} (d : isDig c = true) (h : ¬ 4 < (c :: r).length) (ha : (c :: r).all isDig = true) (hz : ¬ (c = 48 ∧ c :: r ≠ [48])) : atom (c :: r) = some (Tr.num (NumText.digitsVal (c :: r))) := by
  unfold atom; dsimp only; rw [if_pos d, if_neg (fun q => q.elim h (fun q => q ha)), if_neg hz]
theorem atom_nam_none {c : Nat} {r : List Nat} (d : isDig c = false) (h : nmOk (c :: r) = false) : atom (c :: r) = none := by
  unfold atom; dsimp only; rw [if_neg (by rw [d]; decide), if_neg (by rw [h]; decide)]
theorem all_dig {l : List Nat} (h : l.all isDig = true) : NumText.AllDigits l := fun c hc => by
  have := List.all_eq_true.mp h c hc
  simpa [isDig] using this
theorem str_eq {l m : List Nat} {x : Str} (e : x = SX.S m) : V.str (SX.S l) = V.str x ↔ l = m := by
  subst e
  exact ⟨fun h => SX.S_inj (V.str.inj h), fun h => by rw [h]⟩
theorem S_zero : Str.ofString "0" = SX.S [48] := by decide +kernel
def spAtom (C : Addr) : Sp := fun vs H Q _ => ∃ (z : Hz) (G : List Nd) (c : Nat) (r : List Nat), vs = [.ref z.p, .str (SX.S (c :: r))] ∧ HA C H z G G ∧ WF G ∧ G.length < 16000000 ∧ (c :: r).length ≤ 1000000 ∧
  (atom (c :: r) = none → Q .non H) ∧
  ∀ t, atom (c :: r) = some t → ∀ (i : Nat) (G' : List Nd) (H' : Hp), HA C H' z G' G' → WF G' → Ext G G' → G'.length ≤ G.length + 1 → Den G' t i → Kp (foot z) H H' → Q (.int (i : Int)) H'
theorem ok_atom (T : Txt K mg) : FnOk P w K mg base CX0 3 T.a_atom T.d_atom ["heap", "word"] (spAtom T.C_Heap) := by
  refine T.atom.fn.ok sc_atom (fun vs H Q E h => ?_) (fun cdv A outer s H vs Q E hr h => ?_)
  · obtain ⟨z, G, c, r, rfl, _⟩ := h
    rfl
  · obtain ⟨z, G, c, r, rfl, hA, wf, hl, hlen, k0, k1⟩ := h
    have ob := hA.ob
    have sz : (SX.S (c :: r)).length ≤ sizeLine := by rw [SX.S_len]; show _ ≤ 16777216; omega
    refine ⟨_, (pss_cons (ps_if (pt_cmpR op_in_sign (pe_ix ix_str (pv 1) pe_int (fun _ _ => rfl)) (pe_glob (v := .str "0123456789") rfl T.c_DIGITS ⟨_, rfl⟩) rfl) (pss_cons (ps_if (PW.pt (pw_or (pt_cmpR op_gt (pe_callB call_len_str (by rfl) T.b_len (by decide +kernel) (pa_cons (pv 1) pa_nil)) (pe_glob (v := .int 4) rfl T.c_LONGEST_NUMBER ⟨_, rfl⟩) (nomark _)) (pw_or1 (pt_not (pt_val (pe_call (ok_consists_of (P := P) (w := w) (base := base) T) (hr.mono (by decide)) rfl T.consists_of.mg T.consists_of.fn.kp T.consists_of.b .nil pass0 (pa_cons (pv 1) (pa_cons (pe_glob (v := .str "0123456789") rfl T.c_DIGITS ⟨_, rfl⟩) pa_nil)))))))) (pss_one (ps_ret pe_non)) pss_nil)
      (pss_cons (ps_if (PW.pt (pw_and (pt_cmpR op_eq (pe_ix ix_str (pv 1) pe_int (fun _ _ => rfl)) pe_str (nomark _)) (pw_and1 (pt_cmpR op_ne (pv 1) pe_str (nomark _))))) (pss_one (ps_ret pe_non)) pss_nil)
      (pss_one (ps_ret (pe_meth (pv 0) T.cl_Heap T.Heap_number.me (ok_Heap_number (P := P) (w := w) (base := base) T) (hr.mono (by decide)) T.Heap_number.b .nil pass0 (pa_cons (pe_callTy call_int_str (by rfl) T.b_int (by decide +kernel) (pa_cons (pv 1) pa_nil)) pa_nil)))))) pss_nil)
      (pss_cons (ps_if (PW.pt (pw_or (pt_cmpR op_notIn_sign (pe_ix ix_str (pv 1) pe_int (fun _ _ => rfl)) (pe_glob (v := .str "abcdefghijklmnopqrstuvwxyz") rfl T.c_LOWER ⟨_, rfl⟩) rfl) (pw_or1 (pt_cmpR op_gt (pe_callB call_len_str (by rfl) T.b_len (by decide +kernel) (pa_cons (pv 1) pa_nil)) (pe_glob (v := .int 12) rfl T.c_LONGEST_NAME ⟨_, rfl⟩) (nomark _))))) (pss_one (ps_ret pe_non)) pss_nil)
      (pss_cons (ps_if (pt_not (pt_val (pe_call (ok_consists_of (P := P) (w := w) (base := base) T) (hr.mono (by decide)) rfl T.consists_of.mg T.consists_of.fn.kp T.consists_of.b .nil pass0 (pa_cons (pv 1) (pa_cons (pe_glob (v := .str "abcdefghijklmnopqrstuvwxyz0123456789") rfl T.c_NAME_SIGNS ⟨_, rfl⟩) pa_nil))))) (pss_one (ps_ret pe_non)) pss_nil)
      (pss_one (ps_ret (pe_meth (pv 0) T.cl_Heap T.Heap_name.me (ok_Heap_name (P := P) (w := w) (base := base) T) (hr.mono (by decide)) T.Heap_name.b .nil pass0 (pa_cons (pv 1) pa_nil))))))), ?_⟩
    try dsimp only [cxOf, Cx.nox]
    walk_at "wf"
    refine iteD (fun hd => ?_) (fun hd => ?_)
    · have dg := (mem_digits c).mp hd
      walk_at "wf"
      refine iteD (fun h4 => ?_) (fun h4 => ?_)
      · refine iteT ?_
        walk_at "wf"
        refine k0 (atom_dig_none dg (.inl ?_))
        rw [SX.S_len] at h4; omega
      · have h4' : ¬ 4 < (c :: r).length := by rw [SX.S_len] at h4; omega
        walk_at "wf"
        rw [all_mem mem_digits]
        cases ha : (c :: r).all isDig with
        | false =>
          refine iteT ?_
          walk_at "wf"
          exact k0 (atom_dig_none dg (.inr (by rw [ha]; decide)))
        | true =>
          refine iteF ?_
          walk_at "wf"
          refine iteD (fun hz => ?_) (fun hz => ?_)
          · walk_at "wf"
            have hz' : c = 48 := by
              have := (str_eq (l := [c]) S_zero).mp hz
              exact (List.cons.inj this).1
            refine iteND (fun hne => ?_) (fun he => ?_)
            · refine k0 (atom_zero_none dg h4' ha ⟨hz', fun q => hne ((str_eq S_zero).mpr q)⟩)
            · have e0 := (str_eq S_zero).mp he
              walk_at "wf"
              refine ⟨_, _, _, rfl, ob, hz_no_number _, ?_⟩
              have h43 : (c :: r).length ≤ 4300 := by omega
              have h64 : (SX.S (c :: r)).length ≤ 640 := by rw [SX.S_len]; omega
              walk_at "wf"
              refine ⟨z, G, NumText.digitsVal (c :: r), rfl, hA, wf, hl, ?_, fun i G' H' hA' wf' ex le nd kp => ?_⟩
              · rw [e0]; decide
              · exact k1 _ (atom_num_some dg h4' ha (fun q => q.2 e0)) i G' H' hA' wf' ex le nd kp
          · refine iteF ?_
            have hz' : ¬ c = 48 := fun q => hz ((str_eq (l := [c]) S_zero).mpr (by rw [q]))
            walk_at "wf"
            refine ⟨_, _, _, rfl, ob, hz_no_number _, ?_⟩
            have h43 : (c :: r).length ≤ 4300 := by omega
            have h64 : (SX.S (c :: r)).length ≤ 640 := by rw [SX.S_len]; omega
            walk_at "wf"
            refine ⟨z, G, NumText.digitsVal (c :: r), rfl, hA, wf, hl, ?_, fun i G' H' hA' wf' ex le nd kp => ?_⟩
            · have lt := digitsVal_lt (all_dig ha)
              have : 10 ^ (c :: r).length ≤ 10 ^ 4 := Nat.pow_le_pow_right (by decide) (by omega)
              omega
            · exact k1 _ (atom_num_some dg h4' ha (fun q => hz' q.1)) i G' H' hA' wf' ex le nd kp
    · have dg : isDig c = false := by
        cases q : isDig c with
        | false => rfl
        | true => exact absurd ((mem_digits c).mpr q) hd
      walk_at "wf"
      refine iteND (fun hlo => ?_) (fun hlo => ?_)
      · refine iteT ?_
        walk_at "wf"
        refine k0 (atom_nam_none dg ?_)
        have : isLow c = false := by
          cases q : isLow c with
          | false => rfl
          | true => exact absurd ((mem_lower c).mpr q) hlo
        simp [nmOk, this]
      · have lo := (mem_lower c).mp hlo
        walk_at "wf"
        refine iteD (fun h12 => ?_) (fun h12 => ?_)
        · walk_at "wf"
          refine k0 (atom_nam_none dg ?_)
          rw [SX.S_len] at h12
          have : ¬ (c :: r).length ≤ 12 := by omega
          simp only [nmOk, decide_eq_false this, Bool.and_false, Bool.false_and]
        · walk_at "wf"
          rw [all_mem mem_names]
          rw [SX.S_len] at h12
          have h12' : (c :: r).length ≤ 12 := by omega
          cases ha : (c :: r).all isNs with
          | false =>
            refine iteT ?_
            walk_at "wf"
            refine k0 (atom_nam_none dg ?_)
            simp only [nmOk, ha, Bool.and_false]
          | true =>
            refine iteF ?_
            have ok : nmOk (c :: r) = true := by simp only [nmOk, ha, lo, decide_eq_true h12', Bool.and_self]
            walk_at "wf"
            refine ⟨_, _, _, rfl, ob, hz_no_name _, ?_⟩
            walk_at "wf"
            refine ⟨z, G, c :: r, rfl, hA, wf, hl, ok, fun i G' H' hA' wf' ex le nd kp => ?_⟩
            exact k1 _ (atom_nam ok) i G' H' hA' wf' ex le nd kp
end
end Wh
set_option Elab.async false
set_option linter.all false
set_option maxRecDepth 100000
set_option maxHeartbeats 1000000
/-! Reading a text: what waits. -/
namespace Wh
open PySem L2 PySem.Spec PyProof.Rows
local macro_rules | `(tactic| walk_at "ne") => `(tactic| first | with_reducible assumption | (apply Ne.symm; with_reducible assumption))
local macro_rules | `(tactic| walk_at "hp") => `(tactic| first | with_reducible assumption | with_reducible exact upd_same | ((with_reducible refine (upd_ne ?n).trans ?h); (case n => walk_at "ne"); (case h => walk_at "hp")) | ((with_reducible show upd _ _ _ _ = _); exact upd_same))
local macro_rules | `(tactic| walk_at "cond") => `(tactic| first | with_reducible assumption | exact (rfl : (_ : Bool) = true) | ((try dsimp only) <;> first | with_reducible assumption | decide | omega) | exact ⟨by first | decide | omega | decide +kernel, by first | decide | omega | decide +kernel⟩ | decide +kernel | exact .inr ⟨by decide, by decide⟩ | exact .inl ⟨by decide, by decide⟩)
local macro_rules | `(tactic| walk_at "sq") => `(tactic| first | with_reducible assumption | exact SqL.of (by walk_at "hp"))
local macro_rules | `(tactic| walk_at "sz") => `(tactic| first | with_reducible assumption | (show _ ≤ 16777216; omega))
local macro_rules | `(tactic| walk_at "at") => `(tactic| first | with_reducible assumption | exact atI_nat (by with_reducible assumption) | exact atI_nat (j := 0) (rfl : (_ : Option Nat) = some _) | exact atI_nat (by assumption))
local macro_rules | `(tactic| walk_at "w1") => `(tactic| (fail_if_success with_reducible show @ite _ _ _ _ _); first
  | refine ⟨_, rfl, ?_⟩
  | refine ⟨_, _, (rfl : _ = V.int _), (rfl : _ = V.int _), And.intro (by walk_at "cond") ?_⟩
  | refine ⟨_, _, (rfl : _ = V.int _), (rfl : _ = V.int _), ?_⟩
  | refine ⟨_, _, (rfl : _ = V.str _), (rfl : _ = V.str _), And.intro (by walk_at "sz") ?_⟩
  | refine ⟨_, _, (rfl : _ = V.str _), (rfl : _ = V.str _), ?_⟩
  | refine ⟨_, _, _, _, (rfl : _ = V.ref _), (rfl : _ = V.int _), (by walk_at "sq"), rfl, ?_⟩
  | refine ⟨_, _, _, _, (rfl : _ = V.ref _), (rfl : _ = V.int _), (by walk_at "hp"), rfl, ?_⟩
  | refine ⟨Or.inl ⟨rfl, _, (by walk_at "sq")⟩, ?_⟩
  | refine ⟨_, _, _, (rfl : _ = V.ref _), (rfl : (_ : List V) = _), (by walk_at "hp"), (by with_reducible assumption), ?_⟩
  | refine ⟨_, _, (rfl : (_ : List V) = _), Or.inl ((by walk_at "sq")), ?_⟩
  | refine ⟨_, _, _, _, (rfl : _ = V.ref _), (rfl : _ = V.int _), (by walk_at "sq"), (by walk_at "at"), ?_⟩
  | refine ⟨_, _, _, (rfl : _ = V.str _), (rfl : _ = V.int _), (by walk_at "sz"), (by walk_at "at"), ?_⟩
  | refine ⟨_, _, (rfl : (_ : List V) = [V.str _]), SX.int_S (by assumption) (by simp) (by assumption), (by assumption), ?_⟩
  | refine ⟨_, _, (rfl : (_ : List V) = [_, _]), ?_⟩
  | refine ⟨_, _, (rfl : _ = V.ref _), (by walk_at "sq"), ?_⟩
  | refine ⟨(rfl : (_ : Bool) = true), ?_⟩
  | refine ⟨(rfl : (_ : V) = V.non), ?_⟩
  | refine And.intro (by walk_at "sz") ?_
  | refine ⟨⟨_, (rfl : _ = V.str _)⟩, ?_⟩
  | refine ⟨_, (rfl : _ = V.str _), (rfl : (_ : List V) = _), trivial, ?_⟩
  | refine .inl ⟨_, rfl, ?_⟩)
local macro_rules | `(tactic| walk_at "w") => `(tactic| repeat walk_at "w1")
local macro_rules | `(tactic| walk_at "fld") => `(tactic| (fail_if_success with_reducible show @ite _ _ _ _ _); first
  | refine ⟨_, _, _, _, _, (rfl : _ = V.ref _), (by walk_at "hp"), Txt.cl_Heap _, Txt.nf__shapes _, hz_shapes _, ?_⟩
  | refine ⟨_, _, _, _, _, (rfl : _ = V.ref _), (by walk_at "hp"), Txt.cl_Heap _, Txt.nf__faces _, hz_faces _, ?_⟩
  | refine ⟨_, _, _, _, _, (rfl : _ = V.ref _), (by walk_at "hp"), Txt.cl_Heap _, Txt.nf__firsts _, hz_firsts _, ?_⟩
  | refine ⟨_, _, _, _, _, (rfl : _ = V.ref _), (by walk_at "hp"), Txt.cl_Heap _, Txt.nf__seconds _, hz_seconds _, ?_⟩
  | refine ⟨_, _, _, _, _, (rfl : _ = V.ref _), (by walk_at "hp"), Txt.cl_Heap _, Txt.nf__hefts _, hz_hefts _, ?_⟩
  | refine ⟨_, _, _, _, _, (rfl : _ = V.ref _), (by walk_at "hp"), Txt.cl_Heap _, Txt.nf__numbers _, hz_numbers _, ?_⟩
  | refine ⟨_, _, _, _, _, (rfl : _ = V.ref _), (by walk_at "hp"), Txt.cl_Heap _, Txt.nf__names _, hz_names _, ?_⟩
  | refine ⟨_, _, _, _, _, (rfl : _ = V.ref _), (by walk_at "hp"), Txt.cl_Heap _, Txt.nf__pairs _, hz_pairs _, ?_⟩)
local macro_rules | `(tactic| walk_at "wf") => `(tactic| repeat first | walk_at "w1" | walk_at "fld")
def refs (vs : List V) : List Addr := vs.filterMap fun v => match v with
  | .ref a => some a
  | _ => none
def WE (G : List Nd) (H : Hp) (o : Option (List Tr)) (v : V) : Prop := match o with
  | none => v = .non
  | some l => ∃ a ids, v = .ref a ∧ H a = some (.lst (ivs ids)) ∧ Paired (Den G) l ids
/-- what waits, the innermost first -/
structure WtAt (G : List Nd) (H : Hp) (z : Hz) (wl : Addr) (w : Wt) (vs : List V) : Prop where
  ls : H wl = some (.lst vs.reverse)
  pr : Paired (WE G H) w vs
  nd : (wl :: refs vs).Nodup
  ft : ∀ a ∈ wl :: refs vs, a ∉ foot z
def tot (w : Wt) : Nat := (w.map fun o => match o with
  | none => 4
  | some l => l.length + 1).sum
theorem WtAt.keep {G G' : List Nd} {H H' : Hp} {z : Hz} {wl : Addr} {w : Wt} {vs : List V} (h : WtAt G H z wl w vs) (e : Ext G G') (k : ∀ b o, b ∈ wl :: refs vs → H b = some o → H' b = some o) : WtAt G' H' z wl w vs := by
  refine ⟨k _ _ (by simp) h.ls, ?_, h.nd, h.ft⟩
  have go : ∀ {w : Wt} {vs : List V}, Paired (WE G H) w vs → (∀ b o, b ∈ refs vs → H b = some o → H' b = some o) → Paired (WE G' H') w vs := by
    intro w vs p
    induction p with
    | nil => intro _; exact .nil
    | cons f r ih =>
      rename_i o v w' vs'
      intro kk
      refine .cons ?_ (ih fun b u hb q => kk b u ?_ q)
      · cases o with
        | none => exact f
        | some l =>
          obtain ⟨a, ids, rfl, ha, hp⟩ := f
          exact ⟨a, ids, rfl, kk a _ (by simp [refs]) ha, paired_imp (fun _ _ d => d.mono e) hp⟩
      · simp only [refs, List.mem_filterMap] at hb ⊢
        obtain ⟨x, hx, ex⟩ := hb
        exact ⟨x, by simp [hx], ex⟩
  exact go h.pr fun b o hb q => k b o (by simp [hb]) q
theorem WtAt.kp {G G' : List Nd} {H H' : Hp} {z : Hz} {wl : Addr} {w : Wt} {vs : List V} (h : WtAt G H z wl w vs) (e : Ext G G') (k : Kp (foot z) H H') : WtAt G' H' z wl w vs :=
  h.keep e fun b o hb q => k b o (h.ft b hb) q
theorem WtAt.pop {G : List Nd} {H : Hp} {z : Hz} {wl : Addr} {o : Option (List Tr)} {w : Wt} {v : V} {vs : List V} (h : WtAt G H z wl (o :: w) (v :: vs)) : WtAt G (upd H wl (.lst vs.reverse)) z wl w vs := by
  cases h.pr with
  | cons f r =>
    have nd := h.nd
    have sub : ∀ a ∈ refs vs, a ∈ refs (v :: vs) := fun a ha => by
      simp only [refs, List.mem_filterMap] at ha ⊢
      obtain ⟨x, hx, ex⟩ := ha
      exact ⟨x, by simp [hx], ex⟩
    have nd' : (wl :: refs vs).Nodup := by
      rw [List.nodup_cons] at nd ⊢
      refine ⟨fun q => nd.1 (sub _ q), ?_⟩
      have := nd.2
      unfold refs at this ⊢
      rw [List.filterMap_cons] at this
      split at this
      · exact this
      · exact (List.nodup_cons.mp this).2
    refine ⟨upd_same, ?_, nd', fun a ha => h.ft a ?_⟩
    · have go : ∀ {w : Wt} {us : List V}, Paired (WE G H) w us → wl ∉ refs us → Paired (WE G (upd H wl (.lst vs.reverse))) w us := by
        intro w us p
        induction p with
        | nil => intro _; exact .nil
        | cons f r ih =>
          rename_i o v w' us'
          intro hn
          refine .cons ?_ (ih fun q => hn ?_)
          · cases o with
            | none => exact f
            | some l =>
              obtain ⟨a, ids, rfl, ha, hp⟩ := f
              exact ⟨a, ids, rfl, (upd_ne (fun q => hn (by simp [refs, q]))).trans ha, hp⟩
          · simp only [refs, List.mem_filterMap] at q ⊢
            obtain ⟨x, hx, ex⟩ := q
            exact ⟨x, by simp [hx], ex⟩
      exact go r (List.nodup_cons.mp nd').1
    · rcases List.mem_cons.mp ha with q | q
      · rw [q]; exact List.mem_cons_self
      · exact List.mem_cons_of_mem _ (sub a q)
/-- a member more for the innermost list -/
theorem WtAt.add {G : List Nd} {H : Hp} {z : Hz} {wl a : Addr} {l : List Tr} {w : Wt} {vs : List V} {ids : List Nat} {t : Tr} {i : Nat} (h : WtAt G H z wl (some l :: w) (.ref a :: vs)) (ha : H a = some (.lst (ivs ids))) (dt : Den G t i) :
    WtAt G (upd H a (.lst (ivs ids ++ [.int (i : Int)]))) z wl (some (l ++ [t]) :: w) (.ref a :: vs) := by
  have er : refs (.ref a :: vs) = a :: refs vs := rfl
  have nd := h.nd
  rw [er] at nd
  have n1 : wl ≠ a := fun q => (List.nodup_cons.mp nd).1 (by simp [q])
  have n2 : a ∉ refs vs := (List.nodup_cons.mp (List.nodup_cons.mp nd).2).1
  cases h.pr with
  | cons f r =>
    obtain ⟨a', ids', e, ha', hp⟩ := f
    cases e
    rw [ha] at ha'
    have e2 : ivs ids' = ivs ids := (HO.lst.inj (Option.some.inj ha')).symm
    refine ⟨(upd_ne n1).trans h.ls, .cons ⟨a, ids' ++ [i], rfl, ?_, hp.snoc dt⟩ ?_, h.nd, h.ft⟩
    · rw [show ivs (ids' ++ [i]) = ivs ids ++ [.int (i : Int)] from by rw [← e2]; simp [ivs]]
      exact upd_same
    · have go : ∀ {w : Wt} {us : List V}, Paired (WE G H) w us → a ∉ refs us → Paired (WE G (upd H a (.lst (ivs ids ++ [.int (i : Int)])))) w us := by
        intro w us p
        induction p with
        | nil => intro _; exact .nil
        | cons f r ih =>
          rename_i o v w' us'
          intro hn
          refine .cons ?_ (ih fun q => hn ?_)
          · cases o with
            | none => exact f
            | some l =>
              obtain ⟨a', ids, rfl, ha, hp⟩ := f
              exact ⟨a', ids, rfl, (upd_ne (fun q => hn (by simp [refs, q]))).trans ha, hp⟩
          · simp only [refs, List.mem_filterMap] at q ⊢
            obtain ⟨x, hx, ex⟩ := q
            exact ⟨x, by simp [hx], ex⟩
      exact go r n2
end Wh
set_option Elab.async false
set_option linter.all false
set_option maxRecDepth 100000
set_option maxHeartbeats 1000000
/-! Reading a text: settling a value. -/
namespace Wh
open PySem L2 PySem.Spec PyProof.Rows
local macro_rules | `(tactic| walk_at "ne") => `(tactic| first | with_reducible assumption | (apply Ne.symm; with_reducible assumption))
local macro_rules | `(tactic| walk_at "hp") => `(tactic| first | with_reducible assumption | with_reducible exact upd_same | ((with_reducible refine (upd_ne ?n).trans ?h); (case n => walk_at "ne"); (case h => walk_at "hp")) | ((with_reducible show upd _ _ _ _ = _); exact upd_same))
local macro_rules | `(tactic| walk_at "cond") => `(tactic| first | with_reducible assumption | exact (rfl : (_ : Bool) = true) | ((try dsimp only) <;> first | with_reducible assumption | decide | omega) | exact ⟨by first | decide | omega | decide +kernel, by first | decide | omega | decide +kernel⟩ | decide +kernel | exact .inr ⟨by decide, by decide⟩ | exact .inl ⟨by decide, by decide⟩)
local macro_rules | `(tactic| walk_at "sq") => `(tactic| first | with_reducible assumption | exact SqL.of (by walk_at "hp"))
local macro_rules | `(tactic| walk_at "sz") => `(tactic| first | with_reducible assumption | (show _ ≤ 16777216; omega))
local macro_rules | `(tactic| walk_at "at") => `(tactic| first | with_reducible assumption | exact atI_nat (by with_reducible assumption) | exact atI_nat (j := 0) (rfl : (_ : Option Nat) = some _) | exact atI_nat (by assumption))
local macro_rules | `(tactic| walk_at "w1") => `(tactic| (fail_if_success with_reducible show @ite _ _ _ _ _); first
  | refine ⟨_, rfl, ?_⟩
  | refine ⟨_, _, (rfl : _ = V.int _), (rfl : _ = V.int _), And.intro (by walk_at "cond") ?_⟩
  | refine ⟨_, _, (rfl : _ = V.int _), (rfl : _ = V.int _), ?_⟩
  | refine ⟨_, _, (rfl : _ = V.str _), (rfl : _ = V.str _), And.intro (by walk_at "sz") ?_⟩
  | refine ⟨_, _, (rfl : _ = V.str _), (rfl : _ = V.str _), ?_⟩
  | refine ⟨_, _, _, _, (rfl : _ = V.ref _), (rfl : _ = V.int _), (by walk_at "sq"), rfl, ?_⟩
  | refine ⟨_, _, _, _, (rfl : _ = V.ref _), (rfl : _ = V.int _), (by walk_at "hp"), rfl, ?_⟩
  | refine ⟨Or.inl ⟨rfl, _, (by walk_at "sq")⟩, ?_⟩
  | refine ⟨_, _, _, (rfl : _ = V.ref _), (rfl : (_ : List V) = _), (by walk_at "hp"), (by with_reducible assumption), ?_⟩
  | refine ⟨_, _, (rfl : (_ : List V) = _), Or.inl ((by walk_at "sq")), ?_⟩
  | refine ⟨_, _, _, _, (rfl : _ = V.ref _), (rfl : _ = V.int _), (by walk_at "sq"), (by walk_at "at"), ?_⟩
  | refine ⟨_, _, _, (rfl : _ = V.str _), (rfl : _ = V.int _), (by walk_at "sz"), (by walk_at "at"), ?_⟩
  | refine ⟨_, _, (rfl : (_ : List V) = [V.str _]), SX.int_S (by assumption) (by simp) (by assumption), (by assumption), ?_⟩
  | refine ⟨_, _, (rfl : (_ : List V) = [_, _]), ?_⟩
  | refine ⟨_, _, (rfl : _ = V.ref _), (by walk_at "sq"), ?_⟩
  | refine ⟨(rfl : (_ : Bool) = true), ?_⟩
  | refine ⟨(rfl : (_ : V) = V.non), ?_⟩
  | refine And.intro (by walk_at "sz") ?_
  | refine ⟨⟨_, (rfl : _ = V.str _)⟩, ?_⟩
  | refine ⟨_, (rfl : _ = V.str _), (rfl : (_ : List V) = _), trivial, ?_⟩
  | refine .inl ⟨_, rfl, ?_⟩)
local macro_rules | `(tactic| walk_at "w") => `(tactic| repeat walk_at "w1")
local macro_rules | `(tactic| walk_at "fld") => `(tactic| (fail_if_success with_reducible show @ite _ _ _ _ _); first
  | refine ⟨_, _, _, _, _, (rfl : _ = V.ref _), (by walk_at "hp"), Txt.cl_Heap _, Txt.nf__shapes _, hz_shapes _, ?_⟩
  | refine ⟨_, _, _, _, _, (rfl : _ = V.ref _), (by walk_at "hp"), Txt.cl_Heap _, Txt.nf__faces _, hz_faces _, ?_⟩
  | refine ⟨_, _, _, _, _, (rfl : _ = V.ref _), (by walk_at "hp"), Txt.cl_Heap _, Txt.nf__firsts _, hz_firsts _, ?_⟩
  | refine ⟨_, _, _, _, _, (rfl : _ = V.ref _), (by walk_at "hp"), Txt.cl_Heap _, Txt.nf__seconds _, hz_seconds _, ?_⟩
  | refine ⟨_, _, _, _, _, (rfl : _ = V.ref _), (by walk_at "hp"), Txt.cl_Heap _, Txt.nf__hefts _, hz_hefts _, ?_⟩
  | refine ⟨_, _, _, _, _, (rfl : _ = V.ref _), (by walk_at "hp"), Txt.cl_Heap _, Txt.nf__numbers _, hz_numbers _, ?_⟩
  | refine ⟨_, _, _, _, _, (rfl : _ = V.ref _), (by walk_at "hp"), Txt.cl_Heap _, Txt.nf__names _, hz_names _, ?_⟩
  | refine ⟨_, _, _, _, _, (rfl : _ = V.ref _), (by walk_at "hp"), Txt.cl_Heap _, Txt.nf__pairs _, hz_pairs _, ?_⟩)
local macro_rules | `(tactic| walk_at "wf") => `(tactic| repeat first | walk_at "w1" | walk_at "fld")
theorem iteFe {c : Bool} {A B : Prop} (h : c = false) (b : B) : if c = true then A else B := by rw [h]; exact iteF b
theorem iteTe {c : Bool} {A B : Prop} (h : c = true) (b : A) : if c = true then A else B := by rw [h]; exact iteT b
/-- a result: None, or the id of this value -/
def RV (G : List Nd) (r : Option Tr) (v : V) : Prop := match r with
  | none => v = .non
  | some u => ∃ j : Nat, v = .int (j : Int) ∧ Den G u j
theorem HA.not_foot {C : Addr} {H : Hp} {z : Hz} {G D : List Nd} (h : HA C H z G D) {p : Addr} (n : H p = none) : p ∉ foot z := fun q => by
  simp only [foot, List.mem_cons, List.not_mem_nil, or_false] at q
  rcases q with q | q | q | q | q | q | q | q <;> subst q
  · rw [h.l1] at n; cases n
  · rw [h.l2] at n; cases n
  · rw [h.l3] at n; cases n
  · rw [h.l4] at n; cases n
  · rw [h.l5] at n; cases n
  · rw [h.d6] at n; cases n
  · rw [h.d7] at n; cases n
  · rw [h.d8] at n; cases n
def lenAt (a : Addr) (H : Hp) : Nat := match H a with
  | some (.lst xs) => xs.length
  | _ => 0
theorem lenAt_eq {a : Addr} {H : Hp} {xs : List V} (h : H a = some (.lst xs)) : lenAt a H = xs.length := by unfold lenAt; rw [h]
theorem S_quote : Str.ofString "quote" = SX.S quoL := by decide +kernel
theorem tot_cons (o : Option (List Tr)) (w : Wt) : tot (o :: w) = (match o with | none => 4 | some l => l.length + 1) + tot w := by simp [tot] <;> rfl
section
variable {P : Program} {w : World} {K : PySem.W.Frag} {mg : Str → Option Value} {base : Heap}
def spSettle (C : Addr) : Sp := fun us H Q _ => ∃ (z : Hz) (G : List Nd) (wl : Addr) (ws : Wt) (vs : List V) (t : Tr) (i : Nat), us = [.ref z.p, .ref wl, .int (i : Int)] ∧ HA C H z G G ∧ WF G ∧ WtAt G H z wl ws vs ∧ Den G t i ∧ G.length + tot ws + 9 < 16000000 ∧
  ∀ (v : V) (G' : List Nd) (H' : Hp) (vs' : List V), HA C H' z G' G' → WF G' → Ext G G' → WtAt G' H' z wl (settle ws t).1 vs' → G'.length + tot (settle ws t).1 ≤ G.length + tot ws + 1 → (∀ a ∈ refs vs', a ∈ refs vs) → Kp (foot z ++ (wl :: refs vs)) H H' →
    RV G' (settle ws t).2 v → Q v H'
theorem ok_settle (T : Txt K mg) : FnOk P w K mg base CX0 4 T.a_settle T.d_settle ["heap", "waiting", "value"] (spSettle T.C_Heap) := by
  refine T.settle.fn.ok sc_settle (fun vs H Q E h => ?_) (fun cdv A outer s H vs Q E hr h => ?_)
  · obtain ⟨z, G, wl, ws, vs, t, i, rfl, _⟩ := h
    rfl
  · obtain ⟨z, G, wl, ws, vs, t, i, rfl, hA, wf, hW, den, hl, k⟩ := h
    refine ⟨_, (pss_cons (ps_while PassesOwn.never (PW.pt (pw_and (pt_truth (pv 1) (by intro _; rfl)) (pw_and1 (pt_cmpR op_isN (pe_ix ix_list (pv 1) (pe_un un_neg pe_int) (fun _ _ => rfl)) pe_non (nomark _))))) (pss_cons (ps_expr (pe_bm0 PySem.F.plainAttrs_list PySem.F.slot_list_pop PySem.F.type_list_pop mt_pop (pv 1)))
      (pss_one (ps_set (i := 2) sc_settle.nd rfl (Or.inl rfl) (pe_meth (pv 0) T.cl_Heap T.Heap_listed.me (ok_Heap_listed (P := P) (w := w) (base := base) T) (hr.mono (by decide)) T.Heap_listed.b .nil pass0 (pa_cons (pe_lst (pa_cons (pe_meth (pv 0) T.cl_Heap T.Heap_name.me (ok_Heap_name (P := P) (w := w) (base := base) T) (hr.mono (by decide)) T.Heap_name.b .nil pass0 (pa_cons pe_str pa_nil)) (pa_cons (pv 2) pa_nil))) pa_nil))))))
      (pss_cons (ps_if (pt_not (pt_truth (pv 1) (by intro _; rfl))) (pss_one (ps_ret (pv 2))) pss_nil)
      (pss_cons (ps_expr (pe_bm PySem.F.plainAttrs_list PySem.F.slot_list_append PySem.F.type_list_append mt_append (pe_ix ix_list (pv 1) (pe_un un_neg pe_int) (fun _ _ => rfl)) (pa_cons (pv 2) pa_nil)))
      (pss_one (ps_ret pe_non))))), ?_⟩
    try dsimp only [cxOf, Cx.nox]
    refine while_by (fun σ H1 => ∃ (w1 : Wt) (vs1 : List V) (t1 : Tr) (i1 : Nat) (G1 : List Nd), σ = [some (.ref z.p), some (.ref wl), some (.int (i1 : Int))] ∧ settle w1 t1 = settle ws t ∧ HA T.C_Heap H1 z G1 G1 ∧ WF G1 ∧ Ext G G1 ∧ WtAt G1 H1 z wl w1 vs1 ∧
      Den G1 t1 i1 ∧ G1.length + tot w1 ≤ G.length + tot ws ∧ (∀ a ∈ refs vs1, a ∈ refs vs) ∧ Kp (foot z ++ (wl :: refs vs)) H H1) (fun _ H1 => lenAt wl H1) ?_ ?_ ?_
    · exact ⟨ws, vs, t, i, G, rfl, rfl, hA, wf, .refl G, hW, den, Nat.le_refl _, fun _ h => h, .refl H⟩
    · rintro σ H1 ⟨w1, vs1, t1, i1, G1, rfl, es, hA1, wf1, ex1, hW1, den1, le1, sub1, kp1⟩
      have hls := hW1.ls
      have ob1 := hA1.ob
      refine ⟨_, rfl, _, .inl ⟨_, SqL.of hls, rfl⟩, ?_⟩
      cases hp : hW1.pr with
      | nil =>
        refine iteFe rfl ?_
        refine iteF ?_
        walk_at "wf"
        refine ⟨_, .inl ⟨_, SqL.of hls, rfl⟩, ?_⟩
        refine iteTe rfl ?_
        walk_at "wf"
        rw [← es] at k
        exact k _ G1 H1 [] hA1 wf1 ex1 hW1 (by show G1.length + tot [] ≤ _; omega) sub1 kp1 ⟨i1, rfl, den1⟩
      | cons f r =>
        rename_i o v w2 vs2
        refine iteTe (by simp) ?_
        have hat : atI (v :: vs2).reverse (-1) = some v := by rw [List.reverse_cons]; exact atI_last _ _
        have hpop : (v :: vs2).reverse[(v :: vs2).reverse.length - 1]? = some v := by simp
        walk_at "wf"
        cases o with
        | none =>
          have ev : v = .non := f
          subst ev
          refine iteTe (by simp) ?_
          walk_at "wf"
          have e2 : (V.non :: vs2).reverse.dropLast = vs2.reverse := by simp
          have hW2 := hW1.pop
          have hA2 : HA T.C_Heap (upd H1 wl (.lst vs2.reverse)) z G1 G1 := hA1.apart ⟨ne_of hls ob1 (fun q => by cases q), hW1.ft wl (by simp)⟩
          rw [e2]
          have ob2 := hA2.ob
          rw [tot_cons] at le1
          refine ⟨_, _, _, rfl, ob2, hz_no_listed _, ?_⟩
          walk_at "wf"
          refine ⟨_, _, _, rfl, ob2, hz_no_name _, ?_⟩
          walk_at "wf"
          refine ⟨z, G1, quoL, by rw [S_quote]; rfl, hA2, wf1, by dsimp only at le1; omega, by decide, fun q G3 H3 hA3 wf3 ex3 le3 nd3 kp3 => ?_⟩
          walk_at "wf"
          refine ⟨(show 2 ≤ sizeLine by decide), fun p hpn => ?_⟩
          have hA4 := hA3.new (o := .lst [.int (q : Int), .int (i1 : Int)]) hpn
          have hW3 := hW2.kp ex3 kp3
          have hW4 : WtAt G3 (upd H3 p (.lst [.int (q : Int), .int (i1 : Int)])) z wl w2 vs2 := hW3.keep (.refl G3) fun b o _ e => (upd_ne (ne_of_none e hpn)).trans e
          walk_at "wf"
          refine ⟨z, G3, p, [q, i1], [.nam quoL, t1], rfl, hA4, wf3, SqL.of upd_same, hA3.not_foot hpn, .cons nd3 (.cons (den1.mono ex3) .nil), by dsimp only [List.length] at *; omega, fun j G5 H5 hA5 wf5 ex5 le5 den5 kp5 => ?_⟩
          walk_at "wf"
          have hW5 := hW4.kp ex5 kp5
          refine ⟨⟨w2, vs2, quo t1, j, G5, rfl, es, hA5, wf5, (ex1.trans ex3).trans ex5, hW5, den5, by dsimp only [List.length] at *; omega, sub1, ?_⟩, ?_⟩
          · exact (((kp1.at (by simp)).trans (kp3.mono (by simp +contextual))).new' hpn).trans (kp5.mono (by simp +contextual))
          · rw [lenAt_eq hW5.ls, lenAt_eq hls]; simp
        | some l =>
          obtain ⟨a, ids, rfl, ha, hpl⟩ := f
          refine iteFe (by simp) ?_
          walk_at "wf"
          refine ⟨_, .inl ⟨_, SqL.of hls, rfl⟩, ?_⟩
          refine iteFe (by simp) ?_
          rw [tot_cons] at le1
          have hll := paired_len hpl
          have sz : (ivs ids).length < sizeLine := by rw [ivs_len]; show _ < 16777216; dsimp only at le1; omega
          walk_at "wf"
          rw [← es] at k
          refine k .non G1 _ (.ref a :: vs2) (hA1.apart ⟨ne_of ha ob1 (fun q => by cases q), hW1.ft a (by simp [refs])⟩) wf1 ex1 (hW1.add ha den1) ?_ sub1 (kp1.at ?_) rfl
          · show _ + tot (some (l ++ [t1]) :: w2) ≤ _
            rw [tot_cons]; dsimp only at *; rw [List.length_append]; simp; omega
          · have := sub1 a (by simp [refs])
            simp [this]
    · rintro σ H1 Q1 Q2 hh ⟨v, e, k, tv, q⟩
      refine ⟨v, e, k, tv, ?_⟩
      cases k with
      | false => exact iteF (hh _ _ (by simpa using q))
      | true =>
        have q' := (if_pos rfl : (if true = true then _ else _) = _) ▸ q
        refine iteT ?_
        obtain ⟨v1, e1, i1, e2, p, xs, i2, v2, e3, e4, s1, a1, n1, k1, ek, q1⟩ := q'
        exact ⟨v1, e1, i1, e2, p, xs, i2, v2, e3, e4, s1, a1, n1, k1, ek, hh _ _ q1⟩
end
end Wh
set_option Elab.async false
set_option linter.all false
set_option maxRecDepth 100000
set_option maxHeartbeats 1000000
/-! Reading a text: a part, the end of a part. -/
namespace Wh
open PySem L2 PySem.Spec PyProof.Rows
local macro_rules | `(tactic| walk_at "ne") => `(tactic| first | with_reducible assumption | (apply Ne.symm; with_reducible assumption))
local macro_rules | `(tactic| walk_at "hp") => `(tactic| first | with_reducible assumption | with_reducible exact upd_same | ((with_reducible refine (upd_ne ?n).trans ?h); (case n => walk_at "ne"); (case h => walk_at "hp")) | ((with_reducible show upd _ _ _ _ = _); exact upd_same))
local macro_rules | `(tactic| walk_at "cond") => `(tactic| first | with_reducible assumption | exact (rfl : (_ : Bool) = true) | ((try dsimp only) <;> first | with_reducible assumption | decide | omega) | exact ⟨by first | decide | omega | decide +kernel, by first | decide | omega | decide +kernel⟩ | decide +kernel | exact .inr ⟨by decide, by decide⟩ | exact .inl ⟨by decide, by decide⟩)
local macro_rules | `(tactic| walk_at "sq") => `(tactic| first | with_reducible assumption | exact SqL.of (by walk_at "hp"))
local macro_rules | `(tactic| walk_at "sz") => `(tactic| first | with_reducible assumption | (show _ ≤ 16777216; omega))
local macro_rules | `(tactic| walk_at "at") => `(tactic| first | with_reducible assumption | exact atI_nat (by with_reducible assumption) | exact atI_nat (j := 0) (rfl : (_ : Option Nat) = some _) | exact atI_nat (by assumption))
local macro_rules | `(tactic| walk_at "w1") => `(tactic| (fail_if_success with_reducible show @ite _ _ _ _ _); first
  | refine ⟨_, rfl, ?_⟩
  | refine ⟨_, _, (rfl : _ = V.int _), (rfl : _ = V.int _), And.intro (by walk_at "cond") ?_⟩
  | refine ⟨_, _, (rfl : _ = V.int _), (rfl : _ = V.int _), ?_⟩
  | refine ⟨_, _, (rfl : _ = V.str _), (rfl : _ = V.str _), And.intro (by walk_at "sz") ?_⟩
  | refine ⟨_, _, (rfl : _ = V.str _), (rfl : _ = V.str _), ?_⟩
  | refine ⟨_, _, _, _, (rfl : _ = V.ref _), (rfl : _ = V.int _), (by walk_at "sq"), rfl, ?_⟩
  | refine ⟨_, _, _, _, (rfl : _ = V.ref _), (rfl : _ = V.int _), (by walk_at "hp"), rfl, ?_⟩
  | refine ⟨Or.inl ⟨rfl, _, (by walk_at "sq")⟩, ?_⟩
  | refine ⟨_, _, _, (rfl : _ = V.ref _), (rfl : (_ : List V) = _), (by walk_at "hp"), (by with_reducible assumption), ?_⟩
  | refine ⟨_, _, (rfl : (_ : List V) = _), Or.inl ((by walk_at "sq")), ?_⟩
  | refine ⟨_, _, _, _, (rfl : _ = V.ref _), (rfl : _ = V.int _), (by walk_at "sq"), (by walk_at "at"), ?_⟩
  | refine ⟨_, _, _, (rfl : _ = V.str _), (rfl : _ = V.int _), (by walk_at "sz"), (by walk_at "at"), ?_⟩
  | refine ⟨_, _, (rfl : (_ : List V) = [V.str _]), SX.int_S (by assumption) (by simp) (by assumption), (by assumption), ?_⟩
  | refine ⟨_, _, (rfl : (_ : List V) = [_, _]), ?_⟩
  | refine ⟨_, _, (rfl : _ = V.ref _), (by walk_at "sq"), ?_⟩
  | refine ⟨(rfl : (_ : Bool) = true), ?_⟩
  | refine ⟨(rfl : (_ : V) = V.non), ?_⟩
  | refine And.intro (by walk_at "sz") ?_
  | refine ⟨⟨_, (rfl : _ = V.str _)⟩, ?_⟩
  | refine ⟨_, (rfl : _ = V.str _), (rfl : (_ : List V) = _), trivial, ?_⟩
  | refine .inl ⟨_, rfl, ?_⟩)
local macro_rules | `(tactic| walk_at "w") => `(tactic| repeat walk_at "w1")
local macro_rules | `(tactic| walk_at "fld") => `(tactic| (fail_if_success with_reducible show @ite _ _ _ _ _); first
  | refine ⟨_, _, _, _, _, (rfl : _ = V.ref _), (by walk_at "hp"), Txt.cl_Heap _, Txt.nf__shapes _, hz_shapes _, ?_⟩
  | refine ⟨_, _, _, _, _, (rfl : _ = V.ref _), (by walk_at "hp"), Txt.cl_Heap _, Txt.nf__faces _, hz_faces _, ?_⟩
  | refine ⟨_, _, _, _, _, (rfl : _ = V.ref _), (by walk_at "hp"), Txt.cl_Heap _, Txt.nf__firsts _, hz_firsts _, ?_⟩
  | refine ⟨_, _, _, _, _, (rfl : _ = V.ref _), (by walk_at "hp"), Txt.cl_Heap _, Txt.nf__seconds _, hz_seconds _, ?_⟩
  | refine ⟨_, _, _, _, _, (rfl : _ = V.ref _), (by walk_at "hp"), Txt.cl_Heap _, Txt.nf__hefts _, hz_hefts _, ?_⟩
  | refine ⟨_, _, _, _, _, (rfl : _ = V.ref _), (by walk_at "hp"), Txt.cl_Heap _, Txt.nf__numbers _, hz_numbers _, ?_⟩
  | refine ⟨_, _, _, _, _, (rfl : _ = V.ref _), (by walk_at "hp"), Txt.cl_Heap _, Txt.nf__names _, hz_names _, ?_⟩
  | refine ⟨_, _, _, _, _, (rfl : _ = V.ref _), (by walk_at "hp"), Txt.cl_Heap _, Txt.nf__pairs _, hz_pairs _, ?_⟩)
local macro_rules | `(tactic| walk_at "wf") => `(tactic| repeat first | walk_at "w1" | walk_at "fld")
section
variable {P : Program} {w : World} {K : PySem.W.Frag} {mg : Str → Option Value} {base : Heap}
theorem tot_len : ∀ w : Wt, w.length ≤ tot w
  | [] => Nat.zero_le _
  | o :: w => by
    have := tot_len w
    rw [tot_cons, List.length_cons]
    cases o <;> dsimp only <;> omega
theorem paired_upd {G : List Nd} {H : Hp} {a : Addr} {o : HO} : ∀ {w : Wt} {us : List V}, Paired (WE G H) w us → a ∉ refs us → Paired (WE G (upd H a o)) w us := by
  intro w us p
  induction p with
  | nil => intro _; exact .nil
  | cons f r ih =>
    rename_i e v w' us'
    intro hn
    refine .cons ?_ (ih fun q => hn ?_)
    · cases e with
      | none => exact f
      | some l =>
        obtain ⟨a', ids, rfl, ha, hp⟩ := f
        exact ⟨a', ids, rfl, (upd_ne (fun q => hn (by simp [refs, q]))).trans ha, hp⟩
    · simp only [refs, List.mem_filterMap] at q ⊢
      obtain ⟨x, hx, ex⟩ := q
      exact ⟨x, by simp [hx], ex⟩
theorem refs_some {G : List Nd} {H : Hp} : ∀ {w : Wt} {us : List V}, Paired (WE G H) w us → ∀ a ∈ refs us, ∃ l, H a = some (.lst l) := by
  intro w us p
  induction p with
  | nil => intro a h; cases h
  | cons f r ih =>
    rename_i e v w' us'
    intro a h
    simp only [refs, List.mem_filterMap] at h
    obtain ⟨x, hx, ex⟩ := h
    rcases List.mem_cons.mp hx with q | q
    · subst q
      cases e with
      | none => rw [show x = .non from f] at ex; cases ex
      | some l =>
        obtain ⟨a', ids, rfl, ha, hp⟩ := f
        cases ex
        exact ⟨_, ha⟩
    · exact ih a (by simp only [refs, List.mem_filterMap]; exact ⟨x, q, ex⟩)
theorem WtAt.pushN {G : List Nd} {H : Hp} {z : Hz} {wl : Addr} {w : Wt} {vs : List V} (h : WtAt G H z wl w vs) : WtAt G (upd H wl (.lst (vs.reverse ++ [.non]))) z wl (none :: w) (.non :: vs) :=
  ⟨by rw [List.reverse_cons]; exact upd_same, .cons rfl (paired_upd h.pr (List.nodup_cons.mp h.nd).1), h.nd, h.ft⟩
theorem WtAt.pushL {G : List Nd} {H : Hp} {z : Hz} {wl p : Addr} {w : Wt} {vs : List V} (h : WtAt G H z wl w vs) (n : H p = none) (nf : p ∉ foot z) :
    WtAt G (upd (upd H p (.lst [])) wl (.lst (vs.reverse ++ [.ref p]))) z wl (some [] :: w) (.ref p :: vs) := by
  have nw : wl ≠ p := ne_of_none h.ls n
  have np : p ∉ refs vs := fun q => by
    obtain ⟨l, e⟩ := refs_some h.pr p q
    rw [n] at e; cases e
  have hn := List.nodup_cons.mp h.nd
  refine ⟨by rw [List.reverse_cons]; exact upd_same, .cons ⟨p, [], rfl, (upd_ne nw.symm).trans upd_same, .nil⟩ (paired_upd (paired_upd h.pr np) hn.1), ?_, ?_⟩
  · show (wl :: p :: refs vs).Nodup
    rw [List.nodup_cons, List.nodup_cons]
    refine ⟨fun q => ?_, np, hn.2⟩
    rcases List.mem_cons.mp q with q | q
    · exact nw q
    · exact hn.1 q
  · intro a ha
    rcases List.mem_cons.mp (show a ∈ wl :: p :: refs vs from ha) with q | q
    · exact h.ft a (by simp [q])
    · rcases List.mem_cons.mp q with q | q
      · rw [q]; exact nf
      · exact h.ft a (by simp [q])
theorem S_open : Str.ofString "(" = SX.S [40] := by decide +kernel
theorem S_tick : Str.ofString "'" = SX.S [39] := by decide +kernel
theorem S_close : Str.ofString ")" = SX.S [41] := by decide +kernel
/-- what a part does -/
def spTk (C : Addr) : Sp := fun us H Q _ => ∃ (z : Hz) (G : List Nd) (wl : Addr) (ws : Wt) (vs : List V) (c : Nat) (r : List Nat) (at_ : Int) (q : Wt × Option Tr), us = [.ref z.p, .ref wl, .str (SX.S (c :: r)), .int at_] ∧ HA C H z G G ∧ WF G ∧ WtAt G H z wl ws vs ∧
  Wh.take ws (c :: r) = some q ∧ (c :: r).length ≤ 1000000 ∧ G.length + tot ws + 20 < 16000000 ∧
  ∀ (v : V) (G' : List Nd) (H' : Hp) (vs' : List V), HA C H' z G' G' → WF G' → Ext G G' → WtAt G' H' z wl q.1 vs' → G'.length + tot q.1 ≤ G.length + tot ws + 4 → (∀ a ∈ refs vs', a ∈ refs vs ∨ H a = none) → Kp (foot z ++ (wl :: refs vs)) H H' → RV G' q.2 v → Q v H'
theorem ok_take (T : Txt K mg) : FnOk P w K mg base CX0 5 T.a_take T.d_take ["heap", "waiting", "part", "at"] (spTk T.C_Heap) := by
  refine T.take.fn.ok sc_take (fun vs H Q E h => ?_) (fun cdv A outer s H vs Q E hr h => ?_)
  · obtain ⟨z, G, wl, ws, vs, c, r, at_, q, rfl, _⟩ := h
    rfl
  · obtain ⟨z, G, wl, ws, vs, c, r, at_, q, rfl, hA, wf, hW, ht, hc, hl, k⟩ := h
    have hls := hW.ls
    have ob := hA.ob
    have hlen := paired_len hW.pr
    have htl := tot_len ws
    have sz : vs.reverse.length < sizeLine := by rw [List.length_reverse]; show _ < 16777216; omega
    refine ⟨_, (pss_cons (ps_if (pt_cmpR op_eq (pv 2) pe_str (nomark _)) (pss_cons (ps_expr (pe_bm PySem.F.plainAttrs_list PySem.F.slot_list_append PySem.F.type_list_append mt_append (pv 1) (pa_cons (pe_lst pa_nil) pa_nil)))
      (pss_one (ps_ret pe_non))) pss_nil)
      (pss_cons (ps_if (pt_cmpR op_eq (pv 2) pe_str (nomark _)) (pss_cons (ps_expr (pe_bm PySem.F.plainAttrs_list PySem.F.slot_list_append PySem.F.type_list_append mt_append (pv 1) (pa_cons pe_non pa_nil)))
      (pss_one (ps_ret pe_non))) pss_nil)
      (pss_cons (ps_if (pt_cmpR op_eq (pv 2) pe_str (nomark _)) (pss_cons (ps_if (PW.pt (pw_or (pt_not (pt_truth (pv 1) (by intro _; rfl))) (pw_or1 (pt_cmpR op_isN (pe_ix ix_list (pv 1) (pe_un un_neg pe_int) (fun _ _ => rfl)) pe_non (nomark _))))) (pss_one ps_never) pss_nil)
      (pss_cons (ps_set (i := 4) sc_take.nd rfl (Or.inl rfl) (pe_bm0 PySem.F.plainAttrs_list PySem.F.slot_list_pop PySem.F.type_list_pop mt_pop (pv 1)))
      (pss_one (ps_ret (pe_call (ok_settle (P := P) (w := w) (base := base) T) (hr.mono (by decide)) rfl T.settle.mg T.settle.fn.kp T.settle.b .nil pass0 (pa_cons (pv 0) (pa_cons (pv 1) (pa_cons (pe_meth (pv 0) T.cl_Heap T.Heap_listed.me (ok_Heap_listed (P := P) (w := w) (base := base) T) (hr.mono (by decide)) T.Heap_listed.b .nil pass0 (pa_cons (pv 4) pa_nil)) pa_nil)))))))) pss_nil)
      (pss_cons (ps_set (i := 5) sc_take.nd rfl (Or.inl rfl) (pe_call (ok_atom (P := P) (w := w) (base := base) T) (hr.mono (by decide)) rfl T.atom.mg T.atom.fn.kp T.atom.b .nil pass0 (pa_cons (pv 0) (pa_cons (pv 2) pa_nil))))
      (pss_cons (ps_if (pt_cmpR op_isN (pv 5) pe_non (nomark _)) (pss_one ps_never) pss_nil)
      (pss_one (ps_ret (pe_call (ok_settle (P := P) (w := w) (base := base) T) (hr.mono (by decide)) rfl T.settle.mg T.settle.fn.kp T.settle.b .nil pass0 (pa_cons (pv 0) (pa_cons (pv 1) (pa_cons (pv 5) pa_nil))))))))))), ?_⟩
    try dsimp only [cxOf, Cx.nox]
    walk_at "wf"
    refine iteD (fun e1 => ?_) (fun e1 => ?_)
    · have e := (str_eq S_open).mp e1
      walk_at "wf"
      refine ⟨Nat.zero_le _, fun p hp => ?_⟩
      have n1 : wl ≠ p := ne_of_none hls hp
      walk_at "wf"
      rw [e] at ht
      have hq : (some [] :: ws, none) = q := by
        unfold Wh.take at ht; rw [if_pos rfl] at ht; exact Option.some.inj ht
      subst hq
      refine k .non G _ (.ref p :: vs) ((hA.new hp).apart ⟨ne_of hls ob (fun q => by cases q), hW.ft wl (by simp)⟩) wf (.refl G) (hW.pushL hp (hA.not_foot hp)) (by dsimp only; rw [tot_cons]; simp; omega) (fun a ha => ?_) (((Kp.refl H).new hp).at (by simp)) rfl
      rcases List.mem_cons.mp (show a ∈ p :: refs vs from ha) with h | h
      · exact .inr (by rw [h]; exact hp)
      · exact .inl h
    · walk_at "wf"
      refine iteD (fun e2 => ?_) (fun e2 => ?_)
      · have e := (str_eq S_tick).mp e2
        walk_at "wf"
        rw [e] at ht
        have hq : (none :: ws, none) = q := by
          unfold Wh.take at ht; rw [if_neg (by decide), if_pos rfl] at ht; exact Option.some.inj ht
        subst hq
        exact k .non G _ (.non :: vs) (hA.apart ⟨ne_of hls ob (fun q => by cases q), hW.ft wl (by simp)⟩) wf (.refl G) hW.pushN (by dsimp only; rw [tot_cons]; dsimp only; omega) (fun a ha => .inl ha) ((Kp.refl H).at (by simp)) rfl
      · walk_at "wf"
        refine iteD (fun e3 => ?_) (fun e3 => ?_)
        · have e := (str_eq S_close).mp e3
          rw [e] at ht
          unfold Wh.take at ht
          rw [if_neg (by decide), if_neg (by decide), if_pos rfl] at ht
          cases hp : hW.pr with
          | nil => cases ht
          | cons f rr =>
            rename_i o v w2 vs2
            cases o with
            | none => cases ht
            | some l =>
              obtain ⟨a, ids, rfl, ha, hpl⟩ := f
              have hq : settle w2 (mkl l) = q := Option.some.inj ht
              subst hq
              have hat : atI (V.ref a :: vs2).reverse (-1) = some (.ref a) := by rw [List.reverse_cons]; exact atI_last _ _
              have hpop : (V.ref a :: vs2).reverse[(V.ref a :: vs2).reverse.length - 1]? = some (.ref a) := by simp
              walk_at "wf"
              refine ⟨_, .inl ⟨_, SqL.of hls, rfl⟩, ?_⟩
              refine iteFe (by simp) ?_
              walk_at "wf"
              refine iteFe (by simp) ?_
              walk_at "wf"
              have e2 : (V.ref a :: vs2).reverse.dropLast = vs2.reverse := by simp
              rw [e2]
              have hW2 := hW.pop
              have hA2 : HA T.C_Heap (upd H wl (.lst vs2.reverse)) z G G := hA.apart ⟨ne_of hls ob (fun q => by cases q), hW.ft wl (by simp)⟩
              have ob2 := hA2.ob
              have nwa : a ≠ wl := fun q => (List.nodup_cons.mp hW.nd).1 (by simp [refs, q])
              have ha2 : (upd H wl (.lst vs2.reverse)) a = some (.lst (ivs ids)) := (upd_ne nwa).trans ha
              have hll := paired_len hpl
              rw [tot_cons] at hl k
              dsimp only at hl k
              refine ⟨_, _, _, rfl, ob2, hz_no_listed _, ?_⟩
              walk_at "wf"
              refine ⟨z, G, a, ids, l, rfl, hA2, wf, SqL.of ha2, hW.ft a (by simp [refs]), hpl, by omega, fun j G5 H5 hA5 wf5 ex5 le5 den5 kp5 => ?_⟩
              walk_at "wf"
              refine ⟨z, G5, wl, w2, vs2, mkl l, j, rfl, hA5, wf5, hW2.kp ex5 kp5, den5, by omega, fun v G' H' vs' hA' wf' ex' hW' le' sub' kp' rv => ?_⟩
              refine k v G' H' vs' hA' wf' (ex5.trans ex') hW' (by omega) (fun b hb => .inl ?_) ((((Kp.refl H).at (by simp)).trans (kp5.mono (by simp +contextual))).trans (kp'.mono ?_)) rv
              · exact List.mem_cons_of_mem _ (sub' b hb)
              · intro b hb
                simp only [List.mem_append, List.mem_cons] at hb ⊢
                rcases hb with h | h | h
                · exact .inl h
                · exact .inr (.inl h)
                · exact .inr (.inr (List.mem_cons_of_mem _ h))
        · walk_at "wf"
          have ht2 : (atom (c :: r)).map (settle ws) = some q := by
            unfold Wh.take at ht
            rw [if_neg (fun e => e1 ((str_eq S_open).mpr e)), if_neg (fun e => e2 ((str_eq S_tick).mpr e)), if_neg (fun e => e3 ((str_eq S_close).mpr e))] at ht
            exact ht
          refine ⟨z, G, c, r, rfl, hA, wf, by omega, hc, fun e0 => ?_, fun t et i G1 H1 hA1 wf1 ex1 le1 den1 kp1 => ?_⟩
          · rw [e0] at ht2; cases ht2
          · rw [et] at ht2
            have hq : settle ws t = q := Option.some.inj ht2
            subst hq
            walk_at "wf"
            refine iteFe (by simp) ?_
            walk_at "wf"
            refine ⟨z, G1, wl, ws, vs, t, i, rfl, hA1, wf1, hW.kp ex1 kp1, den1, by omega, fun v G' H' vs' hA' wf' ex' hW' le' sub' kp' rv => ?_⟩
            exact k v G' H' vs' hA' wf' (ex1.trans ex') hW' (by omega) (fun b hb => .inl (sub' b hb)) ((kp1.mono (by simp +contextual)).trans kp') rv
end
end Wh
set_option Elab.async false
set_option linter.all false
set_option maxRecDepth 100000
set_option maxHeartbeats 1000000
/-! Reading a text: the loop. -/
namespace Wh
open PySem L2 PySem.Spec PyProof.Rows
local macro_rules | `(tactic| walk_at "ne") => `(tactic| first | with_reducible assumption | (apply Ne.symm; with_reducible assumption))
local macro_rules | `(tactic| walk_at "hp") => `(tactic| first | with_reducible assumption | with_reducible exact upd_same | ((with_reducible refine (upd_ne ?n).trans ?h); (case n => walk_at "ne"); (case h => walk_at "hp")) | ((with_reducible show upd _ _ _ _ = _); exact upd_same))
local macro_rules | `(tactic| walk_at "cond") => `(tactic| first | with_reducible assumption | exact (rfl : (_ : Bool) = true) | ((try dsimp only) <;> first | with_reducible assumption | decide | omega) | exact ⟨by first | decide | omega | decide +kernel, by first | decide | omega | decide +kernel⟩ | decide +kernel | exact .inr ⟨by decide, by decide⟩ | exact .inl ⟨by decide, by decide⟩)
local macro_rules | `(tactic| walk_at "sq") => `(tactic| first | with_reducible assumption | exact SqL.of (by walk_at "hp"))
local macro_rules | `(tactic| walk_at "sz") => `(tactic| first | with_reducible assumption | (show _ ≤ 16777216; omega))
local macro_rules | `(tactic| walk_at "at") => `(tactic| first | with_reducible assumption | exact atI_nat (by with_reducible assumption) | exact atI_nat (j := 0) (rfl : (_ : Option Nat) = some _) | exact atI_nat (by assumption))
local macro_rules | `(tactic| walk_at "w1") => `(tactic| (fail_if_success with_reducible show @ite _ _ _ _ _); first
  | refine ⟨_, rfl, ?_⟩
  | refine ⟨_, _, (rfl : _ = V.int _), (rfl : _ = V.int _), And.intro (by walk_at "cond") ?_⟩
  | refine ⟨_, _, (rfl : _ = V.int _), (rfl : _ = V.int _), ?_⟩
  | refine ⟨_, _, (rfl : _ = V.str _), (rfl : _ = V.str _), And.intro (by walk_at "sz") ?_⟩
  | refine ⟨_, _, (rfl : _ = V.str _), (rfl : _ = V.str _), ?_⟩
  | refine ⟨_, _, _, _, (rfl : _ = V.ref _), (rfl : _ = V.int _), (by walk_at "sq"), rfl, ?_⟩
  | refine ⟨_, _, _, _, (rfl : _ = V.ref _), (rfl : _ = V.int _), (by walk_at "hp"), rfl, ?_⟩
  | refine ⟨Or.inl ⟨rfl, _, (by walk_at "sq")⟩, ?_⟩
  | refine ⟨_, _, _, (rfl : _ = V.ref _), (rfl : (_ : List V) = _), (by walk_at "hp"), (by with_reducible assumption), ?_⟩
  | refine ⟨_, _, (rfl : (_ : List V) = _), Or.inl ((by walk_at "sq")), ?_⟩
  | refine ⟨_, _, _, _, (rfl : _ = V.ref _), (rfl : _ = V.int _), (by walk_at "sq"), (by walk_at "at"), ?_⟩
  | refine ⟨_, _, _, (rfl : _ = V.str _), (rfl : _ = V.int _), (by walk_at "sz"), (by walk_at "at"), ?_⟩
  | refine ⟨_, _, (rfl : (_ : List V) = [V.str _]), SX.int_S (by assumption) (by simp) (by assumption), (by assumption), ?_⟩
  | refine ⟨_, _, (rfl : (_ : List V) = [_, _]), ?_⟩
  | refine ⟨_, _, (rfl : _ = V.ref _), (by walk_at "sq"), ?_⟩
  | refine ⟨(rfl : (_ : Bool) = true), ?_⟩
  | refine ⟨(rfl : (_ : V) = V.non), ?_⟩
  | refine And.intro (by walk_at "sz") ?_
  | refine ⟨⟨_, (rfl : _ = V.str _)⟩, ?_⟩
  | refine ⟨_, (rfl : _ = V.str _), (rfl : (_ : List V) = _), trivial, ?_⟩
  | refine .inl ⟨_, rfl, ?_⟩)
local macro_rules | `(tactic| walk_at "w") => `(tactic| repeat walk_at "w1")
local macro_rules | `(tactic| walk_at "fld") => `(tactic| (fail_if_success with_reducible show @ite _ _ _ _ _); first
  | refine ⟨_, _, _, _, _, (rfl : _ = V.ref _), (by walk_at "hp"), Txt.cl_Heap _, Txt.nf__shapes _, hz_shapes _, ?_⟩
  | refine ⟨_, _, _, _, _, (rfl : _ = V.ref _), (by walk_at "hp"), Txt.cl_Heap _, Txt.nf__faces _, hz_faces _, ?_⟩
  | refine ⟨_, _, _, _, _, (rfl : _ = V.ref _), (by walk_at "hp"), Txt.cl_Heap _, Txt.nf__firsts _, hz_firsts _, ?_⟩
  | refine ⟨_, _, _, _, _, (rfl : _ = V.ref _), (by walk_at "hp"), Txt.cl_Heap _, Txt.nf__seconds _, hz_seconds _, ?_⟩
  | refine ⟨_, _, _, _, _, (rfl : _ = V.ref _), (by walk_at "hp"), Txt.cl_Heap _, Txt.nf__hefts _, hz_hefts _, ?_⟩
  | refine ⟨_, _, _, _, _, (rfl : _ = V.ref _), (by walk_at "hp"), Txt.cl_Heap _, Txt.nf__numbers _, hz_numbers _, ?_⟩
  | refine ⟨_, _, _, _, _, (rfl : _ = V.ref _), (by walk_at "hp"), Txt.cl_Heap _, Txt.nf__names _, hz_names _, ?_⟩
  | refine ⟨_, _, _, _, _, (rfl : _ = V.ref _), (by walk_at "hp"), Txt.cl_Heap _, Txt.nf__pairs _, hz_pairs _, ?_⟩)
local macro_rules | `(tactic| walk_at "wf") => `(tactic| repeat first | walk_at "w1" | walk_at "fld")
section
variable {P : Program} {w : World} {K : PySem.W.Frag} {mg : Str → Option Value} {base : Heap}
theorem iteMem {c : Nat} {z : Str} {f : Nat → Bool} {A B : Prop} (hm : ∀ c, c ∈ z.cps.toList ↔ f c = true) (h1 : f c = true → A) (h2 : f c = false → B) : if decide (c ∈ z.cps.toList) = true then A else B :=
  iteD (fun h => h1 ((hm c).mp h)) (fun h => h2 (by
    cases q : f c with
    | false => rfl
    | true => exact absurd ((hm c).mpr q) h))
theorem iteNotMem {c : Nat} {z : Str} {f : Nat → Bool} {A B : Prop} (hm : ∀ c, c ∈ z.cps.toList ↔ f c = true) (h1 : f c = false → A) (h2 : f c = true → B) : if (!decide (c ∈ z.cps.toList)) = true then A else B :=
  iteND (fun h => h1 (by
    cases q : f c with
    | false => rfl
    | true => exact absurd ((hm c).mpr q) h)) (fun h => h2 ((hm c).mp h))
def spEnd : Sp := fun us H Q _ => ∃ (l : List Nat) (a : Nat) (c : Nat) (r : List Nat), us = [.str (SX.S l), .int (a : Int)] ∧ l.drop a = c :: r ∧ l.length ≤ 1000000 ∧ Q (.int ((a + 1 + (if isW c = true then (r.takeWhile isW).length else 0) : Nat) : Int)) H
theorem drop_at {l : List Nat} {a c : Nat} {r : List Nat} (h : l.drop a = c :: r) : l[a]? = some c := by
  have := congrArg (fun x => x[0]?) h
  simpa using this
theorem ok_end_of_part (T : Txt K mg) : FnOk P w K mg base CX0 1 T.a_end_of_part T.d_end_of_part ["text", "at"] spEnd := by
  refine T.end_of_part.fn.ok sc_end_of_part (fun vs H Q E h => ?_) (fun cdv A outer s H vs Q E hr h => ?_)
  · obtain ⟨l, a, c, r, rfl, _⟩ := h
    rfl
  · obtain ⟨l, a, c, r, rfl, hd, hl, k⟩ := h
    have sz : (SX.S l).length ≤ sizeLine := by rw [SX.S_len]; show _ ≤ 16777216; omega
    have hat : atI (SX.S l).cps.toList (a : Int) = some c := atI_nat (drop_at hd)
    have hlen : a + (c :: r).length = l.length := by
      have := congrArg List.length hd
      rw [List.length_drop] at this
      simp at this ⊢; omega
    refine ⟨_, (pss_cons (ps_set (i := 2) sc_end_of_part.nd rfl (Or.inl rfl) (pe_op op_add (pv 1) pe_int))
      (pss_cons (ps_if (pt_cmpR op_in_sign (pe_ix ix_str (pv 0) (pv 1) (fun _ _ => rfl)) (pe_glob (v := .str "abcdefghijklmnopqrstuvwxyzABCDEFGHIJKLMNOPQRSTUVWXYZ0123456789") rfl T.c_WORD_SIGNS ⟨_, rfl⟩) rfl) (pss_one (ps_while PassesOwn.never (PW.pt (pw_and (pt_cmpR op_lt (pv 2) (pe_callB call_len_str (by rfl) T.b_len (by decide +kernel) (pa_cons (pv 0) pa_nil)) (nomark _)) (pw_and1 (pt_cmpR op_in_sign (pe_ix ix_str (pv 0) (pv 2) (fun _ _ => rfl)) (pe_glob (v := .str "abcdefghijklmnopqrstuvwxyzABCDEFGHIJKLMNOPQRSTUVWXYZ0123456789") rfl T.c_WORD_SIGNS ⟨_, rfl⟩) rfl)))) (pss_one (ps_aug (i := 2) sc_end_of_part.nd rfl (Or.inl rfl) pe_int ip_add)))) pss_nil)
      (pss_one (ps_ret (pv 2))))), ?_⟩
    try dsimp only [cxOf, Cx.nox]
    walk_at "wf"
    refine iteMem mem_words (fun hw => ?_) (fun hw => ?_)
    · refine while_by (fun σ H1 => H1 = H ∧ ∃ p rest, r = p ++ rest ∧ p.all isW = true ∧ σ = [some (.str (SX.S l)), some (.int (a : Int)), some (.int ((a + 1 + p.length : Nat) : Int))]) (fun σ _ => l.length - natAt 2 σ) ?_ ?_ ?_
      · exact ⟨rfl, [], r, rfl, rfl, rfl⟩
      · rintro σ H1 ⟨rfl, p, rest, er, hp, rfl⟩
        walk_at "wf"
        refine iteD (fun hlt => ?_) (fun hlt => ?_)
        · rw [SX.S_len] at hlt
          cases rest with
          | nil => rw [er] at hlen; simp at hlen; omega
          | cons d rest' =>
            have hd2 : l[a + 1 + p.length]? = some d := by
              have := congrArg (fun x => x[1 + p.length]?) hd
              simp only [List.getElem?_drop] at this
              rw [show a + 1 + p.length = a + (1 + p.length) from by omega, this, er]
              rw [show 1 + p.length = p.length + 1 from by omega, List.getElem?_cons_succ]
              simp
            have hat2 : atI (SX.S l).cps.toList ((a + 1 + p.length : Nat) : Int) = some d := atI_nat hd2
            walk_at "wf"
            refine iteMem mem_words (fun hw2 => ?_) (fun hw2 => ?_)
            · walk_at "wf"
              refine ⟨⟨rfl, p ++ [d], rest', by rw [er]; simp, by simp [hp, hw2], ?_⟩, ?_⟩
              · show [some _, some _, some (V.int (((a + 1 + p.length : Nat) : Int) + 1))] = _
                rw [show ((a + 1 + (p ++ [d]).length : Nat) : Int) = ((a + 1 + p.length : Nat) : Int) + 1 from by simp; omega]
              · show l.length - Int.toNat (((a + 1 + p.length : Nat) : Int) + 1) < l.length - Int.toNat ((a + 1 + p.length : Nat) : Int)
                omega
            · walk_at "wf"
              have e : (r.takeWhile isW).length = p.length := by
                rw [er, List.takeWhile_append_of_pos (fun x hx => List.all_eq_true.mp hp x hx)]
                simp [hw2]
              rw [if_pos hw, e] at k
              exact k
        · rw [SX.S_len] at hlt
          refine iteF ?_
          walk_at "wf"
          have e0 : rest = [] := by
            cases rest with
            | nil => rfl
            | cons d r' => rw [er] at hlen; simp at hlen; omega
          subst e0
          have e : (r.takeWhile isW).length = p.length := by
            rw [er, List.takeWhile_append_of_pos (fun x hx => List.all_eq_true.mp hp x hx)]
            simp
          rw [if_pos hw, e] at k
          exact k
      · rintro σ H1 Q1 Q2 hh ⟨v, e, v2, e2, z2, e3, s3, i, j, ei, ej, k1, ek, q⟩
        refine ⟨v, e, v2, e2, z2, e3, s3, i, j, ei, ej, k1, ek, ?_⟩
        cases k1 with
        | false => exact iteF (hh _ _ (by simpa using q))
        | true =>
          have q' := (if_pos rfl : (if true = true then _ else _) = _) ▸ q
          refine iteT ?_
          obtain ⟨v1, e1, v3, e3, z4, i4, c4, h1, h2, h3, h4, c5, z5, h5, h6, k6, ek, q1⟩ := q'
          exact ⟨v1, e1, v3, e3, z4, i4, c4, h1, h2, h3, h4, c5, z5, h5, h6, k6, ek, hh _ _ q1⟩
    · walk_at "wf"
      rw [if_neg (by rw [hw]; decide)] at k
      exact k
end
end Wh
set_option Elab.async false
set_option linter.all false
set_option maxRecDepth 100000
set_option maxHeartbeats 1000000
/-! Reading a text: read. -/
namespace Wh
open PySem L2 PySem.Spec PyProof.Rows
local macro_rules | `(tactic| walk_at "ne") => `(tactic| first | with_reducible assumption | (apply Ne.symm; with_reducible assumption))
local macro_rules | `(tactic| walk_at "hp") => `(tactic| first | with_reducible assumption | with_reducible exact upd_same | ((with_reducible refine (upd_ne ?n).trans ?h); (case n => walk_at "ne"); (case h => walk_at "hp")) | ((with_reducible show upd _ _ _ _ = _); exact upd_same))
local macro_rules | `(tactic| walk_at "cond") => `(tactic| first | with_reducible assumption | exact (rfl : (_ : Bool) = true) | ((try dsimp only) <;> first | with_reducible assumption | decide | omega) | exact ⟨by first | decide | omega | decide +kernel, by first | decide | omega | decide +kernel⟩ | decide +kernel | exact .inr ⟨by decide, by decide⟩ | exact .inl ⟨by decide, by decide⟩)
local macro_rules | `(tactic| walk_at "sq") => `(tactic| first | with_reducible assumption | exact SqL.of (by walk_at "hp"))
local macro_rules | `(tactic| walk_at "sz") => `(tactic| first | with_reducible assumption | (show _ ≤ 16777216; omega))
local macro_rules | `(tactic| walk_at "at") => `(tactic| first | with_reducible assumption | exact atI_nat (by with_reducible assumption) | exact atI_nat (j := 0) (rfl : (_ : Option Nat) = some _) | exact atI_nat (by assumption))
local macro_rules | `(tactic| walk_at "w1") => `(tactic| (fail_if_success with_reducible show @ite _ _ _ _ _); first
  | refine ⟨_, rfl, ?_⟩
  | refine ⟨_, _, (rfl : _ = V.int _), (rfl : _ = V.int _), And.intro (by walk_at "cond") ?_⟩
  | refine ⟨_, _, (rfl : _ = V.int _), (rfl : _ = V.int _), ?_⟩
  | refine ⟨_, _, (rfl : _ = V.str _), (rfl : _ = V.str _), And.intro (by walk_at "sz") ?_⟩
  | refine ⟨_, _, (rfl : _ = V.str _), (rfl : _ = V.str _), ?_⟩
  | refine ⟨_, _, _, _, (rfl : _ = V.ref _), (rfl : _ = V.int _), (by walk_at "sq"), rfl, ?_⟩
  | refine ⟨_, _, _, _, (rfl : _ = V.ref _), (rfl : _ = V.int _), (by walk_at "hp"), rfl, ?_⟩
  | refine ⟨Or.inl ⟨rfl, _, (by walk_at "sq")⟩, ?_⟩
  | refine ⟨_, _, _, (rfl : _ = V.ref _), (rfl : (_ : List V) = _), (by walk_at "hp"), (by with_reducible assumption), ?_⟩
  | refine ⟨_, _, (rfl : (_ : List V) = _), Or.inl ((by walk_at "sq")), ?_⟩
  | refine ⟨_, _, _, _, (rfl : _ = V.ref _), (rfl : _ = V.int _), (by walk_at "sq"), (by walk_at "at"), ?_⟩
  | refine ⟨_, _, _, (rfl : _ = V.str _), (rfl : _ = V.int _), (by walk_at "sz"), (by walk_at "at"), ?_⟩
  | refine ⟨_, _, (rfl : (_ : List V) = [V.str _]), SX.int_S (by assumption) (by simp) (by assumption), (by assumption), ?_⟩
  | refine ⟨_, _, (rfl : (_ : List V) = [_, _]), ?_⟩
  | refine ⟨_, _, (rfl : _ = V.ref _), (by walk_at "sq"), ?_⟩
  | refine ⟨(rfl : (_ : Bool) = true), ?_⟩
  | refine ⟨(rfl : (_ : V) = V.non), ?_⟩
  | refine And.intro (by walk_at "sz") ?_
  | refine ⟨⟨_, (rfl : _ = V.str _)⟩, ?_⟩
  | refine ⟨_, (rfl : _ = V.str _), (rfl : (_ : List V) = _), trivial, ?_⟩
  | refine .inl ⟨_, rfl, ?_⟩)
local macro_rules | `(tactic| walk_at "w") => `(tactic| repeat walk_at "w1")
local macro_rules | `(tactic| walk_at "fld") => `(tactic| (fail_if_success with_reducible show @ite _ _ _ _ _); first
  | refine ⟨_, _, _, _, _, (rfl : _ = V.ref _), (by walk_at "hp"), Txt.cl_Heap _, Txt.nf__shapes _, hz_shapes _, ?_⟩
  | refine ⟨_, _, _, _, _, (rfl : _ = V.ref _), (by walk_at "hp"), Txt.cl_Heap _, Txt.nf__faces _, hz_faces _, ?_⟩
  | refine ⟨_, _, _, _, _, (rfl : _ = V.ref _), (by walk_at "hp"), Txt.cl_Heap _, Txt.nf__firsts _, hz_firsts _, ?_⟩
  | refine ⟨_, _, _, _, _, (rfl : _ = V.ref _), (by walk_at "hp"), Txt.cl_Heap _, Txt.nf__seconds _, hz_seconds _, ?_⟩
  | refine ⟨_, _, _, _, _, (rfl : _ = V.ref _), (by walk_at "hp"), Txt.cl_Heap _, Txt.nf__hefts _, hz_hefts _, ?_⟩
  | refine ⟨_, _, _, _, _, (rfl : _ = V.ref _), (by walk_at "hp"), Txt.cl_Heap _, Txt.nf__numbers _, hz_numbers _, ?_⟩
  | refine ⟨_, _, _, _, _, (rfl : _ = V.ref _), (by walk_at "hp"), Txt.cl_Heap _, Txt.nf__names _, hz_names _, ?_⟩
  | refine ⟨_, _, _, _, _, (rfl : _ = V.ref _), (by walk_at "hp"), Txt.cl_Heap _, Txt.nf__pairs _, hz_pairs _, ?_⟩)
local macro_rules | `(tactic| walk_at "wf") => `(tactic| repeat first | walk_at "w1" | walk_at "fld")
section
variable {P : Program} {w : World} {K : PySem.W.Frag} {mg : Str → Option Value} {base : Heap}
theorem cut_S {l : List Nat} {a e : Nat} (h : a ≤ e) (he : e ≤ l.length) : cutS (SX.S l) (some (a : Int)) (some (e : Int)) = SX.S ((l.drop a).take (e - a)) := by
  unfold cutS
  rw [HT.sIx_nat, HT.sIx_nat, SX.S_len, Nat.min_eq_left he, Nat.min_eq_left (by omega)]
def kOf (c : Nat) (r : List Nat) : Nat := if isW c = true then (r.takeWhile isW).length else 0
theorem take_tw (r : List Nat) : r.take (r.takeWhile isW).length = r.takeWhile isW := by
  have h := List.takeWhile_append_dropWhile (p := isW) (l := r)
  have : (r.takeWhile isW ++ r.dropWhile isW).take (r.takeWhile isW).length = r.takeWhile isW := List.take_left
  rw [h] at this
  exact this
theorem drop_tw (r : List Nat) : r.drop (r.takeWhile isW).length = r.dropWhile isW := by
  have h := List.takeWhile_append_dropWhile (p := isW) (l := r)
  have : (r.takeWhile isW ++ r.dropWhile isW).drop (r.takeWhile isW).length = r.dropWhile isW := List.drop_left
  rw [h] at this
  exact this
theorem kOf_le (c : Nat) (r : List Nat) : kOf c r ≤ r.length := by
  unfold kOf
  split
  · have := congrArg List.length (List.takeWhile_append_dropWhile (p := isW) (l := r))
    rw [List.length_append] at this
    omega
  · exact Nat.zero_le _
theorem tk_step {c : Nat} {r : List Nat} (hb : isB c = false) : tk (c :: r) = (c :: r.take (kOf c r)) :: tk (r.drop (kOf c r)) := by
  unfold kOf
  cases hw : isW c with
  | true =>
    rw [if_pos rfl, take_tw, drop_tw, tk_step_W hw]
  | false =>
    rw [if_neg (by decide), tk_step_S hw hb]
    rfl
theorem kOf_blank {c : Nat} (r : List Nat) (hb : isB c = true) : kOf c r = 0 := by
  unfold kOf
  rw [blank_notW hb]
  rfl
def spRead (C : Addr) : Sp := fun us H Q _ => ∃ (z : Hz) (G : List Nd) (l : List Nat) (t : Tr), us = [.ref z.p, .str (SX.S l)] ∧ HA C H z G G ∧ WF G ∧ l.length ≤ 1000000 ∧ G.length + 4 * l.length + 100 < 16000000 ∧ run [] none (tk l) = some ([], some t) ∧
  ∀ (i : Nat) (G' : List Nd) (H' : Hp), HA C H' z G' G' → WF G' → Ext G G' → G'.length ≤ G.length + 4 * l.length → Den G' t i → Kp (foot z) H H' → Q (.int (i : Int)) H'
theorem ok_read (T : Txt K mg) : FnOk P w K mg base CX0 6 T.a_read T.d_read ["heap", "text"] (spRead T.C_Heap) := by
  refine T.read.fn.ok sc_read (fun vs H Q E h => ?_) (fun cdv A outer s H vs Q E hr h => ?_)
  · obtain ⟨z, G, l, t, rfl, _⟩ := h
    rfl
  · obtain ⟨z, G, l, t, rfl, hA, wf, hl, hs, hrun, k⟩ := h
    have sz : (SX.S l).length ≤ sizeLine := by rw [SX.S_len]; show _ ≤ 16777216; omega
    refine ⟨_, (pss_cons (ps_set (i := 2) sc_read.nd rfl (Or.inl rfl) (pe_lst pa_nil))
      (pss_cons (ps_set (i := 3) sc_read.nd rfl (Or.inl rfl) pe_non)
      (pss_cons (ps_set (i := 4) sc_read.nd rfl (Or.inl rfl) pe_int)
      (pss_cons (ps_while PassesOwn.never (pt_cmpR op_lt (pv 4) (pe_callB call_len_str (by rfl) T.b_len (by decide +kernel) (pa_cons (pv 1) pa_nil)) (nomark _)) (pss_cons (ps_set (i := 5) sc_read.nd rfl (Or.inl rfl) (pe_call (ok_end_of_part (P := P) (w := w) (base := base) T) (hr.mono (by decide)) rfl T.end_of_part.mg T.end_of_part.fn.kp T.end_of_part.b .nil pass0 (pa_cons (pv 1) (pa_cons (pv 4) pa_nil))))
      (pss_cons (ps_if (pt_cmpR op_notIn_sign (pe_ix ix_str (pv 1) (pv 4) (fun _ _ => rfl)) (pe_glob (v := .str " \n") rfl T.c_BLANKS ⟨_, rfl⟩) rfl) (pss_cons (ps_if (pt_cmpR op_notN (pv 3) pe_non (nomark _)) (pss_one ps_never) pss_nil)
      (pss_one (ps_set (i := 3) sc_read.nd rfl (Or.inl rfl) (pe_call (ok_take (P := P) (w := w) (base := base) T) (hr.mono (by decide)) rfl T.take.mg T.take.fn.kp T.take.b .nil pass0 (pa_cons (pv 0) (pa_cons (pv 2) (pa_cons (pe_slice sl_str (pv 1) (po_some (pv 4)) (po_some (pv 5))) (pa_cons (pv 4) pa_nil)))))))) pss_nil)
      (pss_one (ps_set (i := 4) sc_read.nd rfl (Or.inl rfl) (pv 5))))))
      (pss_cons (ps_if (pt_cmpR op_isN (pv 3) pe_non (nomark _)) (pss_one ps_never) pss_nil)
      (pss_one (ps_ret (pv 3)))))))), ?_⟩
    try dsimp only [cxOf, Cx.nox]
    walk_at "wf"
    refine ⟨Nat.zero_le _, fun wl hwl => ?_⟩
    walk_at "wf"
    refine while_by (fun σ H1 => ∃ (ws : Wt) (vs : List V) (r : Option Tr) (v : V) (a : Nat) (G1 : List Nd) (e : Option V), σ = [some (.ref z.p), some (.str (SX.S l)), some (.ref wl), some v, some (.int (a : Int)), e] ∧ a ≤ l.length ∧
      HA T.C_Heap H1 z G1 G1 ∧ WF G1 ∧ Ext G G1 ∧ WtAt G1 H1 z wl ws vs ∧ G1.length + tot ws ≤ G.length + 4 * a ∧ RV G1 r v ∧ run ws r (tk (l.drop a)) = some ([], some t) ∧ (∀ b ∈ wl :: refs vs, H b = none) ∧ Kp (foot z) H H1) (fun σ _ => l.length - natAt 4 σ) ?_ ?_ ?_
    · refine ⟨[], [], none, .non, 0, G, none, rfl, Nat.zero_le _, hA.new hwl, wf, .refl G, ⟨upd_same, .nil, by simp [refs], fun a ha => ?_⟩, by simp [tot], rfl, hrun, fun b hb => ?_, (Kp.refl H).new hwl⟩
      · rw [show a = wl from by simpa [refs] using ha]; exact hA.not_foot hwl
      · rw [show b = wl from by simpa [refs] using hb]; exact hwl
    · rintro σ H1 ⟨ws, vs, r, v, a, G1, e, rfl, ha, hA1, wf1, ex1, hW1, le1, rv1, run1, new1, kp1⟩
      walk_at "wf"
      refine iteD (fun hlt => ?_) (fun hlt => ?_)
      · rw [SX.S_len] at hlt
        have hlt' : a < l.length := by omega
        cases hd : l.drop a with
        | nil => rw [List.drop_eq_nil_iff] at hd; omega
        | cons c rr =>
          have hlen : a + (rr.length + 1) = l.length := by
            have := congrArg List.length hd
            rw [List.length_drop] at this
            simp at this; omega
          have hk := kOf_le c rr
          have hdn : l.drop (a + 1 + kOf c rr) = rr.drop (kOf c rr) := by
            rw [Nat.add_assoc, ← List.drop_drop, hd, Nat.add_comm 1, List.drop_succ_cons]
          have hat : atI (SX.S l).cps.toList (a : Int) = some c := atI_nat (drop_at hd)
          walk_at "wf"
          refine ⟨l, a, c, rr, rfl, hd, hl, ?_⟩
          rw [show (if isW c = true then (rr.takeWhile isW).length else 0) = kOf c rr from rfl]
          walk_at "wf"
          refine iteNotMem mem_blanks (fun hb => ?_) (fun hb => ?_)
          · rw [hd, tk_step hb] at run1
            cases r with
            | some u => cases run1
            | none =>
              have hv : v = .non := rv1
              subst hv
              cases ht : Wh.take ws (c :: rr.take (kOf c rr)) with
              | none => simp only [run, ht] at run1; cases run1
              | some q =>
                simp only [run, ht] at run1
                walk_at "wf"
                refine iteNS rfl ?_
                have ecut : cutS (SX.S l) (some (a : Int)) (some ((a + 1 + kOf c rr : Nat) : Int)) = SX.S (c :: rr.take (kOf c rr)) := by
                  rw [cut_S (by omega) (by omega), hd, show a + 1 + kOf c rr - a = kOf c rr + 1 from by omega, List.take_succ_cons]
                walk_at "wf"
                refine ⟨z, G1, wl, ws, vs, c, rr.take (kOf c rr), (a : Int), q, by rw [ecut]; rfl, hA1, wf1, hW1, ht, by simp [List.length_take]; omega, by omega, fun v2 G2 H2 vs2 hA2 wf2 ex2 hW2 le2 sub2 kp2 rv2 => ?_⟩
                walk_at "wf"
                refine ⟨⟨q.1, vs2, q.2, v2, a + 1 + kOf c rr, G2, _, rfl, by omega, hA2, wf2, ex1.trans ex2, hW2, by omega, rv2, by rw [hdn]; exact run1, fun b hb => ?_, fun b o nb hb => ?_⟩, ?_⟩
                · rcases List.mem_cons.mp hb with h | h
                  · rw [h]; exact new1 wl (by simp)
                  · rcases sub2 b h with h2 | h2
                    · exact new1 b (by simp [h2])
                    · exact kp1.none (hW2.ft b hb) h2
                · refine kp2 b o (fun q => ?_) (kp1 b o nb hb)
                  rcases List.mem_append.mp q with q | q
                  · exact nb q
                  · rw [new1 b q] at hb; cases hb
                · show l.length - Int.toNat ((a + 1 + kOf c rr : Nat) : Int) < l.length - Int.toNat (a : Int)
                  omega
          · rw [hd, tk_step_B hb] at run1
            have k0 := kOf_blank rr hb
            walk_at "wf"
            rw [k0] at hdn ⊢
            refine ⟨⟨ws, vs, r, v, a + 1, G1, _, rfl, by omega, hA1, wf1, ex1, hW1, by omega, rv1, ?_, new1, kp1⟩, ?_⟩
            · rw [show l.drop (a + 1) = rr from hdn]; exact run1
            · show l.length - Int.toNat ((a + 1 + 0 : Nat) : Int) < l.length - Int.toNat (a : Int)
              omega
      · rw [SX.S_len] at hlt
        have e0 : l.drop a = [] := List.drop_eq_nil_iff.mpr (by omega)
        rw [e0] at run1
        have e1 : (ws, r) = ([], some t) := Option.some.inj run1
        cases e1
        obtain ⟨j, rfl, dj⟩ := rv1
        walk_at "wf"
        refine iteFe (by simp) ?_
        walk_at "wf"
        exact k j G1 H1 hA1 wf1 ex1 (by simp [tot] at le1; omega) dj kp1
    · rintro σ H1 Q1 Q2 hh ⟨v, e, v2, e2, z2, e3, s3, i, j, ei, ej, k1, ek, q⟩
      exact ⟨v, e, v2, e2, z2, e3, s3, i, j, ei, ej, k1, ek, hh _ _ q⟩
end
end Wh
set_option Elab.async false
set_option linter.all false
set_option maxRecDepth 100000
set_option maxHeartbeats 1000000
/-! Writing a value. -/
namespace Wh
open PySem L2 PySem.Spec PyProof.Rows
local macro_rules | `(tactic| walk_at "ne") => `(tactic| first | with_reducible assumption | (apply Ne.symm; with_reducible assumption))
local macro_rules | `(tactic| walk_at "hp") => `(tactic| first | with_reducible assumption | with_reducible exact upd_same | ((with_reducible refine (upd_ne ?n).trans ?h); (case n => walk_at "ne"); (case h => walk_at "hp")) | ((with_reducible show upd _ _ _ _ = _); exact upd_same))
local macro_rules | `(tactic| walk_at "cond") => `(tactic| first | with_reducible assumption | exact (rfl : (_ : Bool) = true) | ((try dsimp only) <;> first | with_reducible assumption | decide | omega) | exact ⟨by first | decide | omega | decide +kernel, by first | decide | omega | decide +kernel⟩ | decide +kernel | exact .inr ⟨by decide, by decide⟩ | exact .inl ⟨by decide, by decide⟩)
local macro_rules | `(tactic| walk_at "sq") => `(tactic| first | with_reducible assumption | exact SqL.of (by walk_at "hp"))
local macro_rules | `(tactic| walk_at "sz") => `(tactic| first | with_reducible assumption | (show _ ≤ 16777216; omega))
local macro_rules | `(tactic| walk_at "at") => `(tactic| first | with_reducible assumption | exact atI_nat (by with_reducible assumption) | exact atI_nat (j := 0) (rfl : (_ : Option Nat) = some _) | exact atI_nat (by assumption))
local macro_rules | `(tactic| walk_at "w1") => `(tactic| (fail_if_success with_reducible show @ite _ _ _ _ _); first
  | refine ⟨_, rfl, ?_⟩
  | refine ⟨_, _, (rfl : _ = V.int _), (rfl : _ = V.int _), And.intro (by walk_at "cond") ?_⟩
  | refine ⟨_, _, (rfl : _ = V.int _), (rfl : _ = V.int _), ?_⟩
  | refine ⟨_, _, (rfl : _ = V.str _), (rfl : _ = V.str _), And.intro (by walk_at "sz") ?_⟩
  | refine ⟨_, _, (rfl : _ = V.str _), (rfl : _ = V.str _), ?_⟩
  | refine ⟨_, _, _, _, (rfl : _ = V.ref _), (rfl : _ = V.int _), (by walk_at "sq"), rfl, ?_⟩
  | refine ⟨_, _, _, _, (rfl : _ = V.ref _), (rfl : _ = V.int _), (by walk_at "hp"), rfl, ?_⟩
  | refine ⟨Or.inl ⟨rfl, _, (by walk_at "sq")⟩, ?_⟩
  | refine ⟨_, _, _, (rfl : _ = V.ref _), (rfl : (_ : List V) = _), (by walk_at "hp"), (by with_reducible assumption), ?_⟩
  | refine ⟨_, _, (rfl : (_ : List V) = _), Or.inl ((by walk_at "sq")), ?_⟩
  | refine ⟨_, _, _, _, (rfl : _ = V.ref _), (rfl : _ = V.int _), (by walk_at "sq"), (by walk_at "at"), ?_⟩
  | refine ⟨_, _, _, (rfl : _ = V.str _), (rfl : _ = V.int _), (by walk_at "sz"), (by walk_at "at"), ?_⟩
  | refine ⟨_, _, (rfl : (_ : List V) = [V.str _]), SX.int_S (by assumption) (by simp) (by assumption), (by assumption), ?_⟩
  | refine ⟨_, _, (rfl : (_ : List V) = [_, _]), ?_⟩
  | refine ⟨_, _, (rfl : _ = V.ref _), (by walk_at "sq"), ?_⟩
  | refine ⟨(rfl : (_ : Bool) = true), ?_⟩
  | refine ⟨(rfl : (_ : V) = V.non), ?_⟩
  | refine And.intro (by walk_at "sz") ?_
  | refine ⟨⟨_, (rfl : _ = V.str _)⟩, ?_⟩
  | refine ⟨_, (rfl : _ = V.str _), (rfl : (_ : List V) = _), trivial, ?_⟩
  | refine .inl ⟨_, rfl, ?_⟩)
local macro_rules | `(tactic| walk_at "w") => `(tactic| repeat walk_at "w1")
local macro_rules | `(tactic| walk_at "fld") => `(tactic| (fail_if_success with_reducible show @ite _ _ _ _ _); first
  | refine ⟨_, _, _, _, _, (rfl : _ = V.ref _), (by walk_at "hp"), Txt.cl_Heap _, Txt.nf__shapes _, hz_shapes _, ?_⟩
  | refine ⟨_, _, _, _, _, (rfl : _ = V.ref _), (by walk_at "hp"), Txt.cl_Heap _, Txt.nf__faces _, hz_faces _, ?_⟩
  | refine ⟨_, _, _, _, _, (rfl : _ = V.ref _), (by walk_at "hp"), Txt.cl_Heap _, Txt.nf__firsts _, hz_firsts _, ?_⟩
  | refine ⟨_, _, _, _, _, (rfl : _ = V.ref _), (by walk_at "hp"), Txt.cl_Heap _, Txt.nf__seconds _, hz_seconds _, ?_⟩
  | refine ⟨_, _, _, _, _, (rfl : _ = V.ref _), (by walk_at "hp"), Txt.cl_Heap _, Txt.nf__hefts _, hz_hefts _, ?_⟩
  | refine ⟨_, _, _, _, _, (rfl : _ = V.ref _), (by walk_at "hp"), Txt.cl_Heap _, Txt.nf__numbers _, hz_numbers _, ?_⟩
  | refine ⟨_, _, _, _, _, (rfl : _ = V.ref _), (by walk_at "hp"), Txt.cl_Heap _, Txt.nf__names _, hz_names _, ?_⟩
  | refine ⟨_, _, _, _, _, (rfl : _ = V.ref _), (by walk_at "hp"), Txt.cl_Heap _, Txt.nf__pairs _, hz_pairs _, ?_⟩)
local macro_rules | `(tactic| walk_at "wf") => `(tactic| repeat first | walk_at "w1" | walk_at "fld")
section
variable {P : Program} {w : World} {K : PySem.W.Frag} {mg : Str → Option Value} {base : Heap}
theorem face_quote {G : List Nd} {a : Tr} {d : Nd} (h : NodeIs G a d) : faceV d = V.str (Str.ofString "quote") ↔ isQ a = true := by
  cases a with
  | nil => cases h; simp [faceV, isQ]
  | num n => cases h; simp [faceV, isQ]
  | nam l =>
    cases h
    show V.str (SX.S l) = _ ↔ (l == quoL) = true
    rw [str_eq S_quote]
    simp
  | cons a b => obtain ⟨x, y, rfl, _⟩ := h; simp [faceV, isQ]
theorem scal_face (d : Nd) (x : Str) : scal (faceV d) (.str x) = true := by cases d <;> rfl
def spQuoted (C : Addr) : Sp := fun us H Q _ => ∃ (z : Hz) (G : List Nd) (i : Nat) (a b : Tr), us = [.ref z.p, .int (i : Int)] ∧ HA C H z G G ∧ WF G ∧ Den G (.cons a b) i ∧ Pr (.cons a b) ∧ ∀ v, RV G (quoted (.cons a b)) v → Q v H
theorem quoted_nil (a : Tr) : quoted (.cons a .nil) = none := rfl
theorem quoted_long (a b c d : Tr) : quoted (.cons a (.cons b (.cons c d))) = none := rfl
theorem quoted_not {a b : Tr} (h : ¬ isQ a = true) : quoted (.cons a b) = none := by
  cases b with
  | cons c d =>
    cases d with
    | nil => show (if isQ a = true then some c else none) = none; rw [if_neg h]
    | _ => rfl
  | _ => rfl
theorem quoted_yes {a c : Tr} (h : isQ a = true) : quoted (.cons a (.cons c .nil)) = some c := by
  show (if isQ a = true then some c else none) = some c
  rw [if_pos h]
theorem ok_quoted (T : Txt K mg) : FnOk P w K mg base CX0 2 T.a_quoted T.d_quoted ["heap", "value"] (spQuoted T.C_Heap) := by
  refine T.quoted.fn.ok sc_quoted (fun vs H Q E h => ?_) (fun cdv A outer s H vs Q E hr h => ?_)
  · obtain ⟨z, G, i, a, b, rfl, _⟩ := h
    rfl
  · obtain ⟨z, G, i, a, b, rfl, hA, wf, ⟨x, y, hi, da, db⟩, pr, k⟩ := h
    have ob := hA.ob
    obtain ⟨nx, hx, hnx⟩ := da.node
    obtain ⟨ny, hy, hny⟩ := db.node
    refine ⟨_, (pss_cons (ps_if (pt_cmpR op_ne (pe_meth (pv 0) T.cl_Heap T.Heap_face.me (ok_Heap_face (P := P) (w := w) (base := base) T) (hr.mono (by decide)) T.Heap_face.b .nil pass0 (pa_cons (pe_meth (pv 0) T.cl_Heap T.Heap_first.me (ok_Heap_first (P := P) (w := w) (base := base) T) (hr.mono (by decide)) T.Heap_first.b .nil pass0 (pa_cons (pv 1) pa_nil)) pa_nil)) pe_str (nomark _)) (pss_one (ps_ret pe_non)) pss_nil)
      (pss_cons (ps_set (i := 2) sc_quoted.nd rfl (Or.inl rfl) (pe_meth (pv 0) T.cl_Heap T.Heap_second.me (ok_Heap_second (P := P) (w := w) (base := base) T) (hr.mono (by decide)) T.Heap_second.b .nil pass0 (pa_cons (pv 1) pa_nil)))
      (pss_cons (ps_if (PW.pt (pw_or (pt_cmpR op_eq (pv 2) (pe_glob (v := .int 0) rfl T.c_NIL ⟨_, rfl⟩) (nomark _)) (pw_or1 (pt_cmpR op_ne (pe_meth (pv 0) T.cl_Heap T.Heap_second.me (ok_Heap_second (P := P) (w := w) (base := base) T) (hr.mono (by decide)) T.Heap_second.b .nil pass0 (pa_cons (pv 2) pa_nil)) (pe_glob (v := .int 0) rfl T.c_NIL ⟨_, rfl⟩) (nomark _))))) (pss_one (ps_ret pe_non)) pss_nil)
      (pss_one (ps_ret (pe_meth (pv 0) T.cl_Heap T.Heap_first.me (ok_Heap_first (P := P) (w := w) (base := base) T) (hr.mono (by decide)) T.Heap_first.b .nil pass0 (pa_cons (pv 2) pa_nil))))))), ?_⟩
    try dsimp only [cxOf, Cx.nox]
    walk_at "wf"
    refine ⟨_, _, _, rfl, ob, hz_no_face _, ?_⟩
    walk_at "wf"
    refine ⟨_, _, _, rfl, ob, hz_no_first _, ?_⟩
    walk_at "wf"
    refine ⟨z, G, G, i, .pr x y, rfl, hA, hi, ?_⟩
    walk_at "wf"
    refine ⟨z, G, G, x, nx, rfl, hA, hx, ?_⟩
    refine ⟨scal_face _ _, ?_⟩
    walk_at "wf"
    refine iteND (fun hq => ?_) (fun hq => ?_)
    · walk_at "wf"
      exact k .non (by rw [quoted_not (fun q => hq ((face_quote hnx).mpr q))]; rfl)
    · have q := (face_quote hnx).mp hq
      walk_at "wf"
      refine ⟨_, _, _, rfl, ob, hz_no_second _, ?_⟩
      walk_at "wf"
      refine ⟨z, G, G, i, .pr x y, rfl, hA, hi, ?_⟩
      walk_at "wf"
      refine iteD (fun h0 => ?_) (fun h0 => ?_)
      · refine iteT ?_
        walk_at "wf"
        have y0 : y = 0 := by
          have := V.int.inj (show V.int (y : Int) = V.int 0 from h0)
          omega
        have eb : b = .nil := by
          have hz := wf.z
          rw [y0, hz] at hy
          cases hy
          cases b with
          | nil => rfl
          | num n => cases hny
          | nam n => cases hny
          | cons e f => obtain ⟨_, _, e, _⟩ := hny; cases e
        subst eb
        exact k .non rfl
      · have hb0 : b ≠ .nil := fun e => by
          subst e
          have := wf.nil_at db
          exact h0 (by show V.int (y : Int) = V.int 0; rw [this]; rfl)
        cases b with
        | nil => exact absurd rfl hb0
        | num n => exact absurd pr.2.2 (by simp [isL])
        | nam n => exact absurd pr.2.2 (by simp [isL])
        | cons c d =>
          obtain ⟨x2, y2, rfl, dc, dd⟩ := hny
          walk_at "wf"
          refine ⟨_, _, _, rfl, ob, hz_no_second _, ?_⟩
          walk_at "wf"
          refine ⟨z, G, G, y, .pr x2 y2, rfl, hA, hy, ?_⟩
          walk_at "wf"
          refine iteND (fun h2 => ?_) (fun h2 => ?_)
          · walk_at "wf"
            have hd0 : d ≠ .nil := fun e => by
              subst e
              have := wf.nil_at dd
              exact h2 (by show V.int (y2 : Int) = V.int 0; rw [this]; rfl)
            have e : quoted (.cons a (.cons c d)) = none := by
              cases d with
              | nil => exact absurd rfl hd0
              | _ => rfl
            exact k .non (by rw [e]; rfl)
          · have y0 : y2 = 0 := by
              have := V.int.inj (show V.int (y2 : Int) = V.int 0 from h2)
              omega
            have ed : d = .nil := by
              obtain ⟨nd, hd1, hd2⟩ := dd.node
              have hz := wf.z
              rw [y0, hz] at hd1
              cases hd1
              cases d with
              | nil => rfl
              | num n => cases hd2
              | nam n => cases hd2
              | cons e f => obtain ⟨_, _, e, _⟩ := hd2; cases e
            subst ed
            walk_at "wf"
            refine ⟨_, _, _, rfl, ob, hz_no_first _, ?_⟩
            walk_at "wf"
            refine ⟨z, G, G, y, .pr x2 y2, rfl, hA, hy, ?_⟩
            exact k _ (by rw [quoted_yes q]; exact ⟨x2, rfl, dc⟩)
/-! ### the members on the stack -/
def sp1 : V := .str (SX.S [32])
def inter : List V → List V
  | [] => []
  | x :: r => x :: r.flatMap fun y => [sp1, y]
theorem S_space : Str.ofString " " = SX.S [32] := by decide +kernel
def pmL (xs : List V) (j : Nat) : List V := if j = 0 then (inter xs).reverse else ((xs.drop j).flatMap fun y => [sp1, y]).reverse
theorem pmL_step {xs : List V} {j : Nat} {x : V} (h : xs[j]? = some x) : pmL xs j = pmL xs (j + 1) ++ (x :: if 0 < j then [sp1] else []) := by
  have hj := (List.getElem?_eq_some_iff.mp h)
  obtain ⟨hl, hx⟩ := hj
  unfold pmL
  rw [if_neg (by omega : ¬ j + 1 = 0)]
  cases j with
  | zero =>
    cases xs with
    | nil => simp at hl
    | cons y r =>
      simp at hx
      subst hx
      simp [inter]
  | succ j =>
    rw [if_neg (by omega), if_pos (by omega), List.drop_eq_getElem_cons hl, hx]
    simp [List.flatMap_cons]
def spPut (K : PySem.W.Frag) : Sp := fun us H Q _ => ∃ (a td : Addr) (ids : List Nat) (bs : List V), us = [.ref a, .ref td] ∧ H a = some (.lst (ivs ids)) ∧ H td = some (.lst bs) ∧ a ≠ td ∧ bs.length + 2 * ids.length < 16000000 ∧
  ∀ H', H' td = some (.lst (bs ++ (inter (ivs ids)).reverse)) → Kp [td] H H' → Q .non H'
theorem ok_put_members (T : Txt K mg) : FnOk P w K mg base CX0 1 T.a_put_members T.d_put_members ["ids", "todo"] (spPut K) := by
  refine T.put_members.fn.ok sc_put_members (fun vs H Q E h => ?_) (fun cdv A outer s H vs Q E hr h => ?_)
  · obtain ⟨a, td, ids, bs, rfl, _⟩ := h
    rfl
  · obtain ⟨a, td, ids, bs, rfl, ha, htd, nat_, hl, k⟩ := h
    refine ⟨_, (pss_one (ps_for PassesOwn.never rfl (pi_revR (by rfl) T.b_reversed (prg_1 (by rfl) T.b_range (pe_callB call_len_seq (by rfl) T.b_len (by decide +kernel) (pa_cons (pv 0) pa_nil)))) (pg_name (i := 2) sc_put_members.nd rfl (Or.inl rfl)) (pss_cons (ps_expr (pe_bm PySem.F.plainAttrs_list PySem.F.slot_list_append PySem.F.type_list_append mt_append (pv 1) (pa_cons (pe_ix ix_list (pv 0) (pv 2) (fun _ _ => rfl)) pa_nil)))
      (pss_one (ps_if (pt_cmpR op_gt (pv 2) pe_int (nomark _)) (pss_one (ps_expr (pe_bm PySem.F.plainAttrs_list PySem.F.slot_list_append PySem.F.type_list_append mt_append (pv 1) (pa_cons pe_str pa_nil)))) pss_nil))))), ?_⟩
    try dsimp only [cxOf, Cx.nox]
    walk_at "wf"
    have hn : (ivs ids).length = ids.length := ivs_len ids
    rw [hn]
    have hb : ∀ j, (pmL (ivs ids) j).length ≤ 2 * ids.length := fun j => by
      have f : ∀ l : List V, (l.flatMap fun y => [sp1, y]).length = 2 * l.length := fun l => by
        induction l with
        | nil => rfl
        | cons x r ih => simp only [List.flatMap_cons, List.length_append, List.length_cons, List.length_nil, ih]; omega
      unfold pmL
      split
      · rw [List.length_reverse]
        cases e : ivs ids with
        | nil => simp [inter]
        | cons x r =>
          have : r.length + 1 = ids.length := by rw [← hn, e]; rfl
          simp only [inter, List.length_cons, f]; omega
      · rw [List.length_reverse, f, List.length_drop, hn]; omega
    refine ⟨by omega, by omega, by omega, by omega, for_it walk_rangeC (fun i σ H1 => (∃ kk, σ = [some (.ref a), some (.ref td), kk]) ∧ H1 td = some (.lst (bs ++ pmL (ivs ids) (ids.length - i))) ∧ Kp [td] H H1) ?_ (fun _ _ _ _ _ => trivial) ?_ ?_⟩
    · refine ⟨⟨none, rfl⟩, ?_, .refl H⟩
      rw [htd]
      have : pmL (ivs ids) (ids.length - 0) = [] := by
        unfold pmL
        rw [Nat.sub_zero]
        split
        · have : ids = [] := List.length_eq_zero_iff.mp (by assumption)
          subst this; rfl
        · rw [← hn, List.drop_length]; rfl
      rw [this, List.append_nil]
    · rintro i x σ H1 H2 hi ⟨⟨kk, rfl⟩, h1, kp⟩ ⟨rfl, rfl⟩
      have hi' : i < ids.length := by omega
      have hk : ids.length - 1 - i < ids.length := by omega
      have ha1 := kp a _ (by simp [nat_]) ha
      have hg : (ivs ids)[ids.length - 1 - i]? = some (.int ((ids[ids.length - 1 - i] : Nat) : Int)) := by
        unfold ivs
        rw [List.getElem?_map, List.getElem?_eq_getElem hk]
        rfl
      have st := pmL_step hg
      rw [show ids.length - 1 - i + 1 = ids.length - i from by omega] at st
      have ex : (0 + (((ids.length : Int) - 0).toNat : Int) - 1) + (i : Int) * -1 = ((ids.length - 1 - i : Nat) : Int) := by omega
      show gName 2 (V.int (0 + (((ids.length : Int) - 0).toNat : Int) - 1 + (i : Int) * -1)) _ _ _
      rw [ex]
      have z1 : (bs ++ pmL (ivs ids) (ids.length - i)).length < sizeLine := by
        have := hb (ids.length - i)
        rw [List.length_append]; show _ < 16777216; omega
      have z2 : (bs ++ pmL (ivs ids) (ids.length - i) ++ [V.int ((ids[ids.length - 1 - i] : Nat) : Int)]).length < sizeLine := by
        have := hb (ids.length - i)
        rw [List.length_append, List.length_append]; show _ < 16777216; simp; omega
      walk_at "wf"
      refine iteD (fun hp => ?_) (fun hp => ?_)
      · walk_at "wf"
        refine ⟨⟨_, rfl⟩, ?_, (kp.at (by simp)).at (by simp)⟩
        rw [show ids.length - (i + 1) = ids.length - 1 - i from by omega, st, if_pos (by omega)]
        simp only [List.append_assoc]
        exact upd_same
      · walk_at "wf"
        refine ⟨⟨_, rfl⟩, ?_, kp.at (by simp)⟩
        rw [show ids.length - (i + 1) = ids.length - 1 - i from by omega, st, if_neg (by omega)]
        simp only [List.append_assoc]
        exact upd_same
    · rintro σ H1 ⟨⟨kk, rfl⟩, h1, kp⟩
      refine k H1 ?_ kp
      rw [h1, show ids.length - ((ids.length : Int) - 0).toNat = 0 from by omega]
      rfl
end
end Wh
set_option Elab.async false
set_option linter.all false
set_option maxRecDepth 100000
set_option maxHeartbeats 1000000
/-! Writing a value: write; plain. -/
namespace Wh
open PySem L2 PySem.Spec PyProof.Rows
local macro_rules | `(tactic| walk_at "ne") => `(tactic| first | with_reducible assumption | (apply Ne.symm; with_reducible assumption))
local macro_rules | `(tactic| walk_at "hp") => `(tactic| first | with_reducible assumption | with_reducible exact upd_same | ((with_reducible refine (upd_ne ?n).trans ?h); (case n => walk_at "ne"); (case h => walk_at "hp")) | ((with_reducible show upd _ _ _ _ = _); exact upd_same))
local macro_rules | `(tactic| walk_at "cond") => `(tactic| first | with_reducible assumption | exact (rfl : (_ : Bool) = true) | ((try dsimp only) <;> first | with_reducible assumption | decide | omega) | exact ⟨by first | decide | omega | decide +kernel, by first | decide | omega | decide +kernel⟩ | decide +kernel | exact .inr ⟨by decide, by decide⟩ | exact .inl ⟨by decide, by decide⟩)
local macro_rules | `(tactic| walk_at "sq") => `(tactic| first | with_reducible assumption | exact SqL.of (by walk_at "hp"))
local macro_rules | `(tactic| walk_at "sz") => `(tactic| first | with_reducible assumption | (show _ ≤ 16777216; omega))
local macro_rules | `(tactic| walk_at "at") => `(tactic| first | with_reducible assumption | exact atI_nat (by with_reducible assumption) | exact atI_nat (j := 0) (rfl : (_ : Option Nat) = some _) | exact atI_nat (by assumption))
local macro_rules | `(tactic| walk_at "w1") => `(tactic| (fail_if_success with_reducible show @ite _ _ _ _ _); first
  | refine ⟨_, rfl, ?_⟩
  | refine ⟨_, _, (rfl : _ = V.int _), (rfl : _ = V.int _), And.intro (by walk_at "cond") ?_⟩
  | refine ⟨_, _, (rfl : _ = V.int _), (rfl : _ = V.int _), ?_⟩
  | refine ⟨_, _, (rfl : _ = V.str _), (rfl : _ = V.str _), And.intro (by walk_at "sz") ?_⟩
  | refine ⟨_, _, (rfl : _ = V.str _), (rfl : _ = V.str _), ?_⟩
  | refine ⟨_, _, _, _, (rfl : _ = V.ref _), (rfl : _ = V.int _), (by walk_at "sq"), rfl, ?_⟩
  | refine ⟨_, _, _, _, (rfl : _ = V.ref _), (rfl : _ = V.int _), (by walk_at "hp"), rfl, ?_⟩
  | refine ⟨Or.inl ⟨rfl, _, (by walk_at "sq")⟩, ?_⟩
  | refine ⟨_, _, _, (rfl : _ = V.ref _), (rfl : (_ : List V) = _), (by walk_at "hp"), (by with_reducible assumption), ?_⟩
  | refine ⟨_, _, (rfl : (_ : List V) = _), Or.inl ((by walk_at "sq")), ?_⟩
  | refine ⟨_, _, _, _, (rfl : _ = V.ref _), (rfl : _ = V.int _), (by walk_at "sq"), (by walk_at "at"), ?_⟩
  | refine ⟨_, _, _, (rfl : _ = V.str _), (rfl : _ = V.int _), (by walk_at "sz"), (by walk_at "at"), ?_⟩
  | refine ⟨_, _, (rfl : (_ : List V) = [V.str _]), SX.int_S (by assumption) (by simp) (by assumption), (by assumption), ?_⟩
  | refine ⟨_, _, (rfl : (_ : List V) = [_, _]), ?_⟩
  | refine ⟨_, _, (rfl : _ = V.ref _), (by walk_at "sq"), ?_⟩
  | refine ⟨(rfl : (_ : Bool) = true), ?_⟩
  | refine ⟨(rfl : (_ : V) = V.non), ?_⟩
  | refine And.intro (by walk_at "sz") ?_
  | refine ⟨⟨_, (rfl : _ = V.str _)⟩, ?_⟩
  | refine ⟨_, (rfl : _ = V.str _), (rfl : (_ : List V) = _), trivial, ?_⟩
  | refine .inl ⟨_, rfl, ?_⟩)
local macro_rules | `(tactic| walk_at "w") => `(tactic| repeat walk_at "w1")
local macro_rules | `(tactic| walk_at "fld") => `(tactic| (fail_if_success with_reducible show @ite _ _ _ _ _); first
  | refine ⟨_, _, _, _, _, (rfl : _ = V.ref _), (by walk_at "hp"), Txt.cl_Heap _, Txt.nf__shapes _, hz_shapes _, ?_⟩
  | refine ⟨_, _, _, _, _, (rfl : _ = V.ref _), (by walk_at "hp"), Txt.cl_Heap _, Txt.nf__faces _, hz_faces _, ?_⟩
  | refine ⟨_, _, _, _, _, (rfl : _ = V.ref _), (by walk_at "hp"), Txt.cl_Heap _, Txt.nf__firsts _, hz_firsts _, ?_⟩
  | refine ⟨_, _, _, _, _, (rfl : _ = V.ref _), (by walk_at "hp"), Txt.cl_Heap _, Txt.nf__seconds _, hz_seconds _, ?_⟩
  | refine ⟨_, _, _, _, _, (rfl : _ = V.ref _), (by walk_at "hp"), Txt.cl_Heap _, Txt.nf__hefts _, hz_hefts _, ?_⟩
  | refine ⟨_, _, _, _, _, (rfl : _ = V.ref _), (by walk_at "hp"), Txt.cl_Heap _, Txt.nf__numbers _, hz_numbers _, ?_⟩
  | refine ⟨_, _, _, _, _, (rfl : _ = V.ref _), (by walk_at "hp"), Txt.cl_Heap _, Txt.nf__names _, hz_names _, ?_⟩
  | refine ⟨_, _, _, _, _, (rfl : _ = V.ref _), (by walk_at "hp"), Txt.cl_Heap _, Txt.nf__pairs _, hz_pairs _, ?_⟩)
local macro_rules | `(tactic| walk_at "wf") => `(tactic| repeat first | walk_at "w1" | walk_at "fld")
/-! ### the stack -/
def wgt : Tr → Nat
  | .cons a b => wgt a + wgt b + 2
  | _ => 1
theorem wgt_pos : ∀ t : Tr, 1 ≤ wgt t
  | .nil => Nat.le_refl _
  | .num _ => Nat.le_refl _
  | .nam _ => Nat.le_refl _
  | .cons a b => by simp only [wgt]; omega
abbrev It := Sum (List Nat) (Tr × Nat)
def outI : It → List Nat
  | .inl l => l
  | .inr p => can p.1
def wI : It → Nat
  | .inl _ => 1
  | .inr p => wgt p.1
def itV : It → V
  | .inl l => .str (SX.S l)
  | .inr p => .int (p.2 : Int)
def okI (G : List Nd) : It → Prop
  | .inl _ => True
  | .inr p => Den G p.1 p.2 ∧ Pr p.1
def wS (st : List It) : Nat := (st.map wI).sum
def interI : List (Tr × Nat) → List It
  | [] => []
  | p :: r => .inr p :: r.flatMap fun q => [.inl [32], .inr q]
theorem interI_V (ps : List (Tr × Nat)) : (interI ps).map itV = inter (ivs (ps.map Prod.snd)) := by
  cases ps with
  | nil => rfl
  | cons p r =>
    have h : ∀ l : List (Tr × Nat), (l.flatMap fun q => ([.inl [32], .inr q] : List It)).map itV = (ivs (l.map Prod.snd)).flatMap fun y => [sp1, y] := fun l => by
      induction l with
      | nil => rfl
      | cons x l ih => simp only [List.flatMap_cons, List.map_append, ih, List.map_cons, ivs]; rfl
    show itV (.inr p) :: _ = V.int (p.2 : Int) :: _
    rw [h r]
    rfl
theorem interI_out (t : Tr) (i : Nat) (ps : List (Tr × Nat)) : (interI ((t, i) :: ps)).flatMap outI = can t ++ ps.flatMap (fun q => 32 :: can q.1) := by
  have h : ∀ l : List (Tr × Nat), (l.flatMap fun q => ([.inl [32], .inr q] : List It)).flatMap outI = l.flatMap fun q => 32 :: can q.1 := fun l => by
    induction l with
    | nil => rfl
    | cons x l ih => simp only [List.flatMap_cons, List.flatMap_append, ih]; simp [outI]
  simp only [interI, List.flatMap_cons, h]
  simp [outI]
theorem interI_w (ps : List (Tr × Nat)) : wS (interI ps) + 1 ≤ (ps.map fun q => wgt q.1 + 1).sum + 1 := by
  cases ps with
  | nil => simp [interI, wS]
  | cons p r =>
    have h : ∀ l : List (Tr × Nat), wS (l.flatMap fun q => ([.inl [32], .inr q] : List It)) = (l.map fun q => wgt q.1 + 1).sum := fun l => by
      induction l with
      | nil => rfl
      | cons x l ih =>
        simp only [wS] at ih ⊢
        simp only [List.flatMap_cons, List.map_append, List.sum_append, ih, List.map_cons, List.sum_cons, List.map_nil, List.sum_nil, wI]
        omega
    have := h r
    simp only [wS] at this ⊢
    simp only [interI, List.map_cons, List.sum_cons, wI, this]
    omega
theorem wgt_spread : ∀ {t : Tr}, isL t = true → Pr t → wgt t = ((spread t).map fun u => wgt u + 2).sum + 1
  | .nil, _, _ => rfl
  | .num _, h, _ => by cases h
  | .nam _, h, _ => by cases h
  | .cons a b, _, p => by
    have := wgt_spread p.2.2 p.2.1
    simp only [wgt, spread, List.map_cons, List.sum_cons, this]
    omega
theorem tail_spread : ∀ {t : Tr}, isL t = true → Pr t → tail t = (spread t).flatMap (fun u => 32 :: can u) ++ [41] := by
  intro t h p
  rw [← mkl_spread h p, tail_mkl, spread_mkl]
theorem wgt_can : ∀ {t : Tr}, Pr t → (isL t = true → wgt t ≤ 6 * (tail t).length) ∧ wgt t ≤ 6 * (can t).length
  | .nil, _ => ⟨fun _ => by decide, by decide⟩
  | .num n, _ => ⟨fun h => (by cases h), by
      obtain ⟨c, r, e, _⟩ := numL_head n
      rw [can_num, e]; simp only [wgt, List.length_cons]; omega⟩
  | .nam l, h => ⟨fun h => (by cases h), by
      cases l with
      | nil => cases h
      | cons c r => rw [can_nam]; simp only [wgt, List.length_cons]; omega⟩
  | .cons a b, p => by
    obtain ⟨pa, pb, lb⟩ := p
    have ha := (wgt_can pa).2
    have hb := (wgt_can pb).1 lb
    refine ⟨fun _ => ?_, ?_⟩
    · rw [tail_cons]; simp only [wgt, List.length_cons, List.length_append]; omega
    · cases q : quoted (.cons a b) with
      | none => rw [can_plain q]; simp only [wgt, List.length_cons, List.length_append]; omega
      | some c =>
        rw [can_quoted q]
        cases b with
        | cons c' d =>
          cases d with
          | nil =>
            change (if isQ a = true then some c' else none) = some c at q
            by_cases z : isQ a = true
            · rw [if_pos z] at q
              cases q
              have hc := (wgt_can pb.1).2
              rw [isQ_can z]
              simp only [wgt, List.length_cons]; omega
            · rw [if_neg z] at q; cases q
          | _ => simp [quoted] at q
        | _ => simp [quoted] at q
termination_by t => sizeOf t
theorem quoted_pr {a b c : Tr} (p : Pr (.cons a b)) (h : quoted (.cons a b) = some c) : Pr c ∧ wgt c + 2 ≤ wgt (.cons a b) := by
  cases b with
  | cons c' d =>
    cases d with
    | nil =>
      change (if isQ a = true then some c' else none) = some c at h
      by_cases z : isQ a = true
      · rw [if_pos z] at h
        cases h
        exact ⟨p.2.1.1, by simp only [wgt]; omega⟩
      · rw [if_neg z] at h; cases h
    | _ => simp [quoted] at h
  | _ => simp [quoted] at h
theorem spread_pr : ∀ {t : Tr}, Pr t → ∀ u ∈ spread t, Pr u
  | .nil, _, u, h => by cases h
  | .num _, _, u, h => by cases h
  | .nam _, _, u, h => by cases h
  | .cons a b, p, u, h => by
    rcases List.mem_cons.mp (show u ∈ a :: spread b from h) with rfl | h
    · exact p.1
    · exact spread_pr p.2.1 u h
theorem zip_ok {G : List Nd} : ∀ {ts : List Tr} {ids : List Nat}, Paired (Den G) ts ids → (∀ u ∈ ts, Pr u) → ∀ q ∈ ts.zip ids, Den G q.1 q.2 ∧ Pr q.1
  | _, _, .nil, _, q, h => by cases h
  | t :: ts, i :: ids, .cons f r, k, q, h => by
    rcases List.mem_cons.mp (show q ∈ (t, i) :: ts.zip ids from h) with rfl | h
    · exact ⟨f, k _ (by simp)⟩
    · exact zip_ok r (fun u hu => k u (by simp [hu])) q h
theorem interI_ok {G : List Nd} {ps : List (Tr × Nat)} (h : ∀ q ∈ ps, Den G q.1 q.2 ∧ Pr q.1) : ∀ y ∈ interI ps, okI G y := by
  cases ps with
  | nil => intro y hy; cases hy
  | cons p r =>
    intro y hy
    rcases List.mem_cons.mp hy with rfl | hy
    · exact h p (by simp)
    · obtain ⟨q, hq, hy⟩ := List.mem_flatMap.mp hy
      rcases List.mem_cons.mp hy with rfl | hy
      · trivial
      · rw [List.mem_singleton.mp hy]
        exact h q (by simp [hq])
theorem wS_len : ∀ st : List It, st.length ≤ wS st
  | [] => Nat.zero_le _
  | x :: st => by
    have := wS_len st
    have h : wS (x :: st) = wI x + wS st := rfl
    have hx : 1 ≤ wI x := by
      cases x with
      | inl l => exact Nat.le_refl _
      | inr p => exact wgt_pos p.1
    rw [h, List.length_cons]; omega
theorem joinL_nil : ∀ ws : List (List Nat), TL.joinL [] ws = ws.flatten
  | [] => rfl
  | [p] => by simp [TL.joinL]
  | p :: q :: r => by
    show p ++ ([] ++ TL.joinL [] (q :: r)) = _
    rw [joinL_nil (q :: r)]
    simp
section
variable {P : Program} {w : World} {K : PySem.W.Frag} {mg : Str → Option Value} {base : Heap}
def wvs (ws : List (List Nat)) : List V := ws.map fun l => V.str (SX.S l)
def spWrite (C : Addr) : Sp := fun us H Q _ => ∃ (z : Hz) (G : List Nd) (i : Nat) (t : Tr), us = [.ref z.p, .int (i : Int)] ∧ HA C H z G G ∧ WF G ∧ Den G t i ∧ Pr t ∧ G.length < 16000000 ∧ wgt t < 8000000 ∧ (can t).length ≤ 8000000 ∧
  ∀ H', Kp [] H H' → Q (.str (SX.S (can t))) H'
theorem ok_write (T : Txt K mg) : FnOk P w K mg base CX0 3 T.a_write T.d_write ["heap", "value"] (spWrite T.C_Heap) := by
  refine T.write.fn.ok sc_write (fun vs H Q E h => ?_) (fun cdv A outer s H vs Q E hr h => ?_)
  · obtain ⟨z, G, i, t, rfl, _⟩ := h
    rfl
  · obtain ⟨z, G, i, t, rfl, hA, wf, den, pr, hl, hw, hc, k⟩ := h
    refine ⟨_, (pss_cons (ps_set (i := 2) sc_write.nd rfl (Or.inl rfl) (pe_lst pa_nil))
      (pss_cons (ps_set (i := 3) sc_write.nd rfl (Or.inl rfl) (pe_lst (pa_cons (pv 1) pa_nil)))
      (pss_cons (ps_while PassesOwn.never (pt_truth (pv 3) (by intro _; rfl)) (pss_cons (ps_set (i := 4) sc_write.nd rfl (Or.inl rfl) (pe_bm0 PySem.F.plainAttrs_list PySem.F.slot_list_pop PySem.F.type_list_pop mt_pop (pv 3)))
      (pss_one (ps_if (pt_val (pe_callB call_isi (by rfl) T.b_isinstance (by decide +kernel) (pa_cons (pv 4) (pa_cons (pe_bltn (v := .ty "str") (u := .type "str") (by rfl) T.b_str (by decide +kernel) rfl) pa_nil)))) (pss_one (ps_expr (pe_bm PySem.F.plainAttrs_list PySem.F.slot_list_append PySem.F.type_list_append mt_append (pv 2) (pa_cons (pv 4) pa_nil)))) (pss_one (ps_if (pt_cmpR op_eq (pe_meth (pv 0) T.cl_Heap T.Heap_shape.me (ok_Heap_shape (P := P) (w := w) (base := base) T) (hr.mono (by decide)) T.Heap_shape.b .nil pass0 (pa_cons (pv 4) pa_nil)) (pe_glob (v := .int 1) rfl T.c_NUMBER ⟨_, rfl⟩) (nomark _)) (pss_one (ps_expr (pe_bm PySem.F.plainAttrs_list PySem.F.slot_list_append PySem.F.type_list_append mt_append (pv 2) (pa_cons (pe_callTy call_str_int (by rfl) T.b_str (by decide +kernel) (pa_cons (pe_meth (pv 0) T.cl_Heap T.Heap_face.me (ok_Heap_face (P := P) (w := w) (base := base) T) (hr.mono (by decide)) T.Heap_face.b .nil pass0 (pa_cons (pv 4) pa_nil)) pa_nil)) pa_nil)))) (pss_one (ps_if (pt_cmpR op_eq (pe_meth (pv 0) T.cl_Heap T.Heap_shape.me (ok_Heap_shape (P := P) (w := w) (base := base) T) (hr.mono (by decide)) T.Heap_shape.b .nil pass0 (pa_cons (pv 4) pa_nil)) (pe_glob (v := .int 2) rfl T.c_NAME ⟨_, rfl⟩) (nomark _)) (pss_one (ps_expr (pe_bm PySem.F.plainAttrs_list PySem.F.slot_list_append PySem.F.type_list_append mt_append (pv 2) (pa_cons (pe_meth (pv 0) T.cl_Heap T.Heap_face.me (ok_Heap_face (P := P) (w := w) (base := base) T) (hr.mono (by decide)) T.Heap_face.b .nil pass0 (pa_cons (pv 4) pa_nil)) pa_nil)))) (pss_one (ps_if (pt_cmpR op_eq (pe_meth (pv 0) T.cl_Heap T.Heap_shape.me (ok_Heap_shape (P := P) (w := w) (base := base) T) (hr.mono (by decide)) T.Heap_shape.b .nil pass0 (pa_cons (pv 4) pa_nil)) (pe_glob (v := .int 0) rfl T.c_EMPTY ⟨_, rfl⟩) (nomark _)) (pss_one (ps_expr (pe_bm PySem.F.plainAttrs_list PySem.F.slot_list_append PySem.F.type_list_append mt_append (pv 2) (pa_cons pe_str pa_nil)))) (pss_cons (ps_set (i := 5) sc_write.nd rfl (Or.inl rfl) (pe_call (ok_quoted (P := P) (w := w) (base := base) T) (hr.mono (by decide)) rfl T.quoted.mg T.quoted.fn.kp T.quoted.b .nil pass0 (pa_cons (pv 0) (pa_cons (pv 4) pa_nil))))
      (pss_one (ps_if (pt_cmpR op_notN (pv 5) pe_non (nomark _)) (pss_cons (ps_expr (pe_bm PySem.F.plainAttrs_list PySem.F.slot_list_append PySem.F.type_list_append mt_append (pv 2) (pa_cons pe_str pa_nil)))
      (pss_one (ps_expr (pe_bm PySem.F.plainAttrs_list PySem.F.slot_list_append PySem.F.type_list_append mt_append (pv 3) (pa_cons (pv 5) pa_nil))))) (pss_cons (ps_expr (pe_bm PySem.F.plainAttrs_list PySem.F.slot_list_append PySem.F.type_list_append mt_append (pv 2) (pa_cons pe_str pa_nil)))
      (pss_cons (ps_expr (pe_bm PySem.F.plainAttrs_list PySem.F.slot_list_append PySem.F.type_list_append mt_append (pv 3) (pa_cons pe_str pa_nil)))
      (pss_one (ps_expr (pe_call (ok_put_members (P := P) (w := w) (base := base) T) (hr.mono (by decide)) rfl T.put_members.mg T.put_members.fn.kp T.put_members.b .nil pass0 (pa_cons (pe_meth (pv 0) T.cl_Heap T.Heap_spread.me (ok_Heap_spread (P := P) (w := w) (base := base) T) (hr.mono (by decide)) T.Heap_spread.b .nil pass0 (pa_cons (pv 4) pa_nil)) (pa_cons (pv 3) pa_nil))))))))))))))))))))
      (pss_one (ps_ret (pe_join pe_str (pv 2))))))), ?_⟩
    try dsimp only [cxOf, Cx.nox]
    walk_at "wf"
    refine ⟨Nat.zero_le _, fun wr hwr => ?_⟩
    walk_at "wf"
    refine ⟨(show 1 ≤ sizeLine by decide), fun td htd => ?_⟩
    walk_at "wf"
    have ntw : td ≠ wr := fun q => by rw [q, upd_same] at htd; cases htd
    have htd0 : H td = none := by rw [upd_ne ntw] at htd; exact htd
    have Wsame : ∀ {m : Nat} {st : List It} {ws : List (List Nat)}, wS st = m → ws.length + m ≤ wgt t → (wvs ws).length < sizeLine ∧ (st.map itV).reverse.length + 2 < sizeLine := fun {m st ws} h1 h2 => by
      refine ⟨by unfold wvs; rw [List.length_map]; show _ < 16777216; omega, ?_⟩
      rw [List.length_reverse, List.length_map]
      have := wS_len st
      show _ < 16777216; omega
    refine ⟨fun m σ H1 => ∃ (st : List It) (ws : List (List Nat)) (pv iv : Option V), σ = [some (.ref z.p), some (.int (i : Int)), some (.ref wr), some (.ref td), pv, iv] ∧ H1 wr = some (.lst (wvs ws)) ∧ H1 td = some (.lst (st.map itV).reverse) ∧
      (∀ x ∈ st, okI G x) ∧ ws.flatten ++ st.flatMap outI = can t ∧ wS st = m ∧ ws.length + m ≤ wgt t ∧ Kp [] H H1, ⟨wgt t, [.inr (t, i)], [], none, none, rfl, (upd_ne ntw.symm).trans upd_same, upd_same, ?_, ?_, ?_, ?_, ?_⟩, ?_⟩
    · intro x hx
      rw [List.mem_singleton.mp hx]
      exact ⟨den, pr⟩
    · simp [outI]
    · simp [wS, wI]
    · simp
    · exact ((Kp.refl H).new hwr).new htd0
    · rintro m σ H1 ⟨st, ws, pv, iv, rfl, h1, h2, hok, hout, hm, hle, kp⟩
      have hA1 := hA.same kp.same
      have ob1 := hA1.ob
      obtain ⟨s1, s2⟩ := Wsame hm hle
      refine ⟨_, rfl, _, .inl ⟨_, SqL.of h2, rfl⟩, ?_⟩
      cases st with
      | nil =>
        refine iteFe rfl ?_
        walk_at "wf"
        refine ⟨_, _, ws.map SX.S, rfl, rfl, .inl (SqL.of (by rw [h1]; unfold wvs; rw [List.map_map]; rfl)), ?_, ?_⟩
        · have e : ((ws.map SX.S).map (·.length)).sum = ws.flatten.length := by
            rw [List.map_map, List.length_flatten]
            congr 1
          rw [e]
          have e0 : (Str.ofString "").length = 0 := by decide +kernel
          rw [e0, Nat.mul_zero]
          have : ws.flatten.length ≤ (can t).length := by rw [← hout]; simp
          omega
        · have e0 : Str.ofString "" = SX.S [] := by decide +kernel
          have e : ws.flatten = can t := by simpa using hout
          rw [e0, SX.join_S, joinL_nil, e]
          exact k H1 kp
      | cons x st =>
        refine iteTe (by simp) ?_
        have hx := hok x (by simp)
        have hok2 : ∀ y ∈ st, okI G y := fun y hy => hok y (by simp [hy])
        have hpop : (List.map itV (x :: st)).reverse[(List.map itV (x :: st)).reverse.length - 1]? = some (itV x) := by simp
        have edl : (List.map itV (x :: st)).reverse.dropLast = (st.map itV).reverse := by simp
        have hwx : wS (x :: st) = wI x + wS st := rfl
        refine ⟨_, fun _ _ h => h, ?_⟩
        walk_at "wf"
        rw [edl]
        have hA2 : HA T.C_Heap (upd H1 td (.lst (st.map itV).reverse)) z G G := hA1.apart ⟨fun q => (by rw [q, hA.ob] at htd0; cases htd0), hA.not_foot htd0⟩
        have ob2 := hA2.ob
        have kp2 : Kp [] H (upd H1 td (.lst (st.map itV).reverse)) := kp.new htd0
        have hwr2 : (upd H1 td (.lst (st.map itV).reverse)) wr = some (.lst (wvs ws)) := (upd_ne ntw.symm).trans h1
        have fin : ∀ (st2 : List It) (ws2 : List (List Nat)) (pv iv : Option V) (H2 : Hp), H2 wr = some (.lst (wvs ws2)) → H2 td = some (.lst (st2.map itV).reverse) → (∀ x ∈ st2, okI G x) → ws2.flatten ++ st2.flatMap outI = can t → wS st2 < m → ws2.length ≤ ws.length + 1 → Kp [] H H2 →
            ∃ m', m' < m ∧ ∃ (st : List It) (ws : List (List Nat)) (pv2 iv2 : Option V), [some (V.ref z.p), some (V.int (i : Int)), some (V.ref wr), some (V.ref td), pv, iv] = [some (.ref z.p), some (.int (i : Int)), some (.ref wr), some (.ref td), pv2, iv2] ∧ H2 wr = some (.lst (wvs ws)) ∧ H2 td = some (.lst (st.map itV).reverse) ∧
              (∀ x ∈ st, okI G x) ∧ ws.flatten ++ st.flatMap outI = can t ∧ wS st = m' ∧ ws.length + m' ≤ wgt t ∧ Kp [] H H2 :=
          fun st2 ws2 pv iv H2 a1 a2 a3 a4 a5 a6 a7 => ⟨wS st2, a5, st2, ws2, pv, iv, rfl, a1, a2, a3, a4, rfl, by omega, a7⟩
        have wapp : ∀ l : List Nat, wvs ws ++ [V.str (SX.S l)] = wvs (ws ++ [l]) := fun l => by unfold wvs; simp
        cases x with
        | inl l =>
          refine ⟨_, _, _, _, true, rfl, .ty _, .base (.str _), L2.kit_ty (by decide +kernel), ?_⟩
          walk_at "wf"
          refine iteT ?_
          walk_at "wf"
          refine fin st (ws ++ [l]) _ _ _ ?_ ?_ hok2 ?_ ?_ (by simp) (kp2.new hwr)
          · rw [← wapp]; exact upd_same
          · exact (upd_ne ntw).trans upd_same
          · rw [← hout]; simp [outI]
          · rw [← hm, hwx]; simp [wI]
        | inr p =>
          obtain ⟨u, j⟩ := p
          obtain ⟨du, pu⟩ := hx
          obtain ⟨d, hd, hdn⟩ := du.node
          refine ⟨_, _, _, _, false, rfl, .ty _, .base (.int _), L2.kit_ty (by decide +kernel), ?_⟩
          walk_at "wf"
          refine iteF ?_
          walk_at "wf"
          refine ⟨_, _, _, rfl, ob2, hz_no_shape _, ?_⟩
          walk_at "wf"
          refine ⟨z, G, G, j, d, rfl, hA2, hd, ?_⟩
          have hout2 : ws.flatten ++ (can u ++ st.flatMap outI) = can t := by rw [← hout]; simp [outI]
          have hw2 : wgt u + wS st = m := by rw [← hm, hwx]; rfl
          cases u with
          | num n =>
            cases hdn
            walk_at "wf"
            refine iteTe (by simp [shapeV]) ?_
            walk_at "wf"
            refine ⟨_, _, _, rfl, ob2, hz_no_face _, ?_⟩
            walk_at "wf"
            refine ⟨z, G, G, j, .num n, rfl, hA2, hd, ?_⟩
            have hlog : ((n : Int)).natAbs.log2 < 1920 := by
              rw [Int.natAbs_natCast]
              by_cases q : n = 0
              · subst q; decide
              · rw [Nat.log2_lt q]
                have hn : n ≤ 9999 := pu
                exact Nat.lt_of_le_of_lt hn (Nat.lt_of_lt_of_le (by decide : 9999 < 2 ^ 14) (Nat.pow_le_pow_right (by decide) (by decide)))
            walk_at "wf"
            rw [SX.num_S]
            walk_at "wf"
            refine fin st (ws ++ [can (.num n)]) _ _ _ ?_ ?_ hok2 ?_ ?_ (by simp) (kp2.new hwr)
            · rw [← wapp]; exact upd_same
            · exact (upd_ne ntw).trans upd_same
            · rw [← hout2]; simp
            · rw [← hw2]; simp [wgt]
          | nam n =>
            cases hdn
            walk_at "wf"
            refine iteFe (by simp [shapeV]) ?_
            walk_at "wf"
            refine ⟨_, _, _, rfl, ob2, hz_no_shape _, ?_⟩
            walk_at "wf"
            refine ⟨z, G, G, j, .nam n, rfl, hA2, hd, ?_⟩
            walk_at "wf"
            refine iteTe (by simp [shapeV]) ?_
            walk_at "wf"
            refine ⟨_, _, _, rfl, ob2, hz_no_face _, ?_⟩
            walk_at "wf"
            refine ⟨z, G, G, j, .nam n, rfl, hA2, hd, ?_⟩
            walk_at "wf"
            refine fin st (ws ++ [can (.nam n)]) _ _ _ ?_ ?_ hok2 ?_ ?_ (by simp) (kp2.new hwr)
            · rw [← wapp]; exact upd_same
            · exact (upd_ne ntw).trans upd_same
            · rw [← hout2]; simp
            · rw [← hw2]; simp [wgt]
          | nil =>
            cases hdn
            walk_at "wf"
            refine iteFe (by simp [shapeV]) ?_
            walk_at "wf"
            refine ⟨_, _, _, rfl, ob2, hz_no_shape _, ?_⟩
            walk_at "wf"
            refine ⟨z, G, G, j, .nil, rfl, hA2, hd, ?_⟩
            walk_at "wf"
            refine iteFe (by simp [shapeV]) ?_
            walk_at "wf"
            refine ⟨_, _, _, rfl, ob2, hz_no_shape _, ?_⟩
            walk_at "wf"
            refine ⟨z, G, G, j, .nil, rfl, hA2, hd, ?_⟩
            walk_at "wf"
            refine iteTe (by simp [shapeV]) ?_
            walk_at "wf"
            refine fin st (ws ++ [can .nil]) _ _ _ ?_ ?_ hok2 ?_ ?_ (by simp) (kp2.new hwr)
            · rw [← wapp, show SX.S (can .nil) = Str.ofString "()" from (by decide +kernel : Str.ofString "()" = SX.S [40, 41]).symm]; exact upd_same
            · exact (upd_ne ntw).trans upd_same
            · rw [← hout2]; simp
            · rw [← hw2]; simp [wgt]
          | cons a b =>
            obtain ⟨x1, y1, rfl, da, db⟩ := hdn
            walk_at "wf"
            refine iteFe (by simp [shapeV]) ?_
            walk_at "wf"
            refine ⟨_, _, _, rfl, ob2, hz_no_shape _, ?_⟩
            walk_at "wf"
            refine ⟨z, G, G, j, .pr x1 y1, rfl, hA2, hd, ?_⟩
            walk_at "wf"
            refine iteFe (by simp [shapeV]) ?_
            walk_at "wf"
            refine ⟨_, _, _, rfl, ob2, hz_no_shape _, ?_⟩
            walk_at "wf"
            refine ⟨z, G, G, j, .pr x1 y1, rfl, hA2, hd, ?_⟩
            walk_at "wf"
            refine iteFe (by simp [shapeV]) ?_
            walk_at "wf"
            refine ⟨z, G, j, a, b, rfl, hA2, wf, du, pu, fun v rv => ?_⟩
            walk_at "wf"
            cases qd : quoted (.cons a b) with
            | some c =>
              rw [qd] at rv
              obtain ⟨j2, rfl, dc⟩ := rv
              refine iteNN (by simp) ?_
              walk_at "wf"
              have pc : Pr c ∧ wgt c + 2 ≤ wgt (.cons a b) := quoted_pr pu qd
              have htd3 : (upd (upd H1 td (.lst (st.map itV).reverse)) wr (.lst (wvs ws ++ [.str (Str.ofString "'")]))) td = some (.lst (st.map itV).reverse) := (upd_ne ntw).trans upd_same
              have z3 : (st.map itV).reverse.length < sizeLine := by
                rw [List.map_cons, List.reverse_cons, List.length_append] at s2; omega
              walk_at "wf"
              refine fin (.inr (c, j2) :: st) (ws ++ [[39]]) _ _ _ ?_ ?_ ?_ ?_ ?_ (by simp) ((kp2.new hwr).new htd0)
              · rw [← wapp, ← S_tick]; exact (upd_ne ntw.symm).trans upd_same
              · rw [List.map_cons, List.reverse_cons]; exact upd_same
              · intro y hy
                rcases List.mem_cons.mp hy with rfl | hy
                · exact ⟨dc, pc.1⟩
                · exact hok2 y hy
              · rw [← hout2, can_quoted qd]; simp [outI]
              · have : wS (.inr (c, j2) :: st) = wgt c + wS st := rfl
                rw [this, ← hw2]; omega
            | none =>
              rw [qd] at rv
              have ev : v = .non := rv
              subst ev
              refine iteNS rfl ?_
              walk_at "wf"
              have htd3 : (upd (upd H1 td (.lst (st.map itV).reverse)) wr (.lst (wvs ws ++ [.str (Str.ofString "(")]))) td = some (.lst (st.map itV).reverse) := (upd_ne ntw).trans upd_same
              have z3 : (st.map itV).reverse.length < sizeLine := by
                rw [List.map_cons, List.reverse_cons, List.length_append] at s2; omega
              walk_at "wf"
              have hA3 : HA T.C_Heap (upd (upd (upd H1 td (.lst (st.map itV).reverse)) wr (.lst (wvs ws ++ [.str (Str.ofString "(")]))) td (.lst ((st.map itV).reverse ++ [.str (Str.ofString ")")]))) z G G :=
                (hA2.apart ⟨fun q => (by rw [q, hA.ob] at hwr; cases hwr), hA.not_foot hwr⟩).apart ⟨fun q => (by rw [q, hA.ob] at htd0; cases htd0), hA.not_foot htd0⟩
              have ob3 := hA3.ob
              refine ⟨_, _, _, rfl, ob3, hz_no_spread _, ?_⟩
              walk_at "wf"
              refine ⟨z, G, j, .cons a b, rfl, hA3, wf, du, pu, hl, (fun h => by cases h), fun _ p ids H4 hp hP hp4 kp4 => ?_⟩
              walk_at "wf"
              have npt : p ≠ td := fun q => (by rw [q, upd_same] at hp; cases hp)
              have npw : p ≠ wr := fun q => (by rw [q, upd_ne ntw.symm, upd_same] at hp; cases hp)
              have htd4 : H4 td = some (.lst ((st.map itV).reverse ++ [.str (Str.ofString ")")])) := kp4 _ _ (by simp) upd_same
              have hwr4 : H4 wr = some (.lst (wvs ws ++ [.str (Str.ofString "(")])) := kp4 _ _ (by simp) ((upd_ne ntw.symm).trans upd_same)
              have hpl := paired_len hP
              have hws : wgt (.cons a b) = ((spread (.cons a b)).map fun u => wgt u + 2).sum + 1 := wgt_spread rfl pu
              have hlen2 : 2 * ids.length ≤ wgt (.cons a b) := by
                rw [hws, ← hpl]
                have : ∀ l : List Tr, 2 * l.length ≤ (l.map fun u => wgt u + 2).sum := fun l => by
                  induction l with
                  | nil => simp
                  | cons x r ih => simp only [List.length_cons, List.map_cons, List.sum_cons]; omega
                have := this (spread (.cons a b))
                omega
              have hsl := wS_len st
              refine ⟨p, td, ids, _, rfl, hp4, htd4, npt, by rw [List.length_append, List.length_reverse, List.length_map]; simp; omega, fun H5 h5 kp5 => ?_⟩
              have hz1 : ((spread (.cons a b)).zip ids).map Prod.snd = ids := List.map_snd_zip (by omega)
              have hz0 : ((spread (.cons a b)).zip ids).map Prod.fst = spread (.cons a b) := List.map_fst_zip (by omega)
              refine fin (interI ((spread (.cons a b)).zip ids) ++ .inl [41] :: st) (ws ++ [[40]]) _ _ _ ?_ ?_ ?_ ?_ ?_ (by simp) ?_
              · rw [← wapp, ← S_open]; exact kp5 _ _ (by simp [ntw.symm]) hwr4
              · rw [h5, List.map_append, List.reverse_append, interI_V, hz1]
                simp [itV, S_close]
              · intro y hy
                rcases List.mem_append.mp hy with hy | hy
                · exact interI_ok (zip_ok hP (spread_pr pu)) y hy
                · rcases List.mem_cons.mp hy with rfl | hy
                  · trivial
                  · exact hok2 y hy
              · rw [← hout2, can_plain qd]
                cases hids : ids with
                | nil => rw [hids] at hpl; simp [spread] at hpl
                | cons i0 ir =>
                  show _ ++ List.flatMap outI (interI ((a, i0) :: (spread b).zip ir) ++ .inl [41] :: st) = _
                  rw [List.flatMap_append, interI_out, tail_spread pu.2.2 pu.2.1]
                  have ez : ((spread b).zip ir).flatMap (fun q => 32 :: can q.1) = (spread b).flatMap fun u => 32 :: can u := by
                    have hl2 : (spread b).length = ir.length := by rw [hids] at hpl; simpa [spread] using hpl
                    have := List.map_fst_zip (l₁ := spread b) (l₂ := ir) (by omega)
                    rw [List.flatMap_def, List.flatMap_def, ← this, List.map_map]
                    rw [this]
                    rfl
                  rw [ez]
                  simp [outI]
              · rw [← hw2]
                have e1 : wS (interI ((spread (.cons a b)).zip ids) ++ .inl [41] :: st) = wS (interI ((spread (.cons a b)).zip ids)) + (1 + wS st) := by simp [wS, wI]
                have e2 := interI_w ((spread (.cons a b)).zip ids)
                have e3 : ((spread (.cons a b)).zip ids).map (fun q => wgt q.1 + 1) = (spread (.cons a b)).map fun u => wgt u + 1 := by
                  rw [← hz0, List.map_map]
                  rw [hz0]
                  rfl
                have e4 : ∀ l : List Tr, (l.map fun u => wgt u + 2).sum = (l.map fun u => wgt u + 1).sum + l.length := fun l => by
                  induction l with
                  | nil => rfl
                  | cons x r ih => simp only [List.length_cons, List.map_cons, List.sum_cons]; omega
                rw [e3] at e2
                rw [e4] at hws
                have e5 : (spread (.cons a b)).length = (spread b).length + 1 := by simp [spread]
                rw [e1]; omega
              · have k5 : Kp [] H H4 := ((kp2.new hwr).new htd0).trans kp4
                intro b' o' _ hb'
                exact kp5 b' o' (by simpa using ne_of_none hb' htd0) (k5 b' o' (by simp) hb')
end
end Wh
set_option Elab.async false
set_option linter.all false
set_option maxRecDepth 100000
set_option maxHeartbeats 1000000
/-! The law's own draws. -/
namespace Wh
open PySem L2 PySem.Spec PyProof.Rows
local macro_rules | `(tactic| walk_at "ne") => `(tactic| first | with_reducible assumption | (apply Ne.symm; with_reducible assumption))
local macro_rules | `(tactic| walk_at "hp") => `(tactic| first | with_reducible assumption | with_reducible exact upd_same | ((with_reducible refine (upd_ne ?n).trans ?h); (case n => walk_at "ne"); (case h => walk_at "hp")) | ((with_reducible show upd _ _ _ _ = _); exact upd_same))
local macro_rules | `(tactic| walk_at "cond") => `(tactic| first | with_reducible assumption | exact (rfl : (_ : Bool) = true) | ((try dsimp only) <;> first | with_reducible assumption | decide | omega) | exact ⟨by first | decide | omega | decide +kernel, by first | decide | omega | decide +kernel⟩ | decide +kernel | exact .inr ⟨by decide, by decide⟩ | exact .inl ⟨by decide, by decide⟩)
local macro_rules | `(tactic| walk_at "sq") => `(tactic| first | with_reducible assumption | exact SqL.of (by walk_at "hp"))
local macro_rules | `(tactic| walk_at "sz") => `(tactic| first | with_reducible assumption | (show _ ≤ 16777216; omega))
local macro_rules | `(tactic| walk_at "at") => `(tactic| first | with_reducible assumption | exact atI_nat (by with_reducible assumption) | exact atI_nat (j := 0) (rfl : (_ : Option Nat) = some _) | exact atI_nat (by assumption))
local macro_rules | `(tactic| walk_at "w1") => `(tactic| (fail_if_success with_reducible show @ite _ _ _ _ _); first
  | refine ⟨_, rfl, ?_⟩
  | refine ⟨_, _, (rfl : _ = V.int _), (rfl : _ = V.int _), And.intro (by walk_at "cond") ?_⟩
  | refine ⟨_, _, (rfl : _ = V.int _), (rfl : _ = V.int _), ?_⟩
  | refine ⟨_, _, (rfl : _ = V.str _), (rfl : _ = V.str _), And.intro (by walk_at "sz") ?_⟩
  | refine ⟨_, _, (rfl : _ = V.str _), (rfl : _ = V.str _), ?_⟩
  | refine ⟨_, _, _, _, (rfl : _ = V.ref _), (rfl : _ = V.int _), (by walk_at "sq"), rfl, ?_⟩
  | refine ⟨_, _, _, _, (rfl : _ = V.ref _), (rfl : _ = V.int _), (by walk_at "hp"), rfl, ?_⟩
  | refine ⟨Or.inl ⟨rfl, _, (by walk_at "sq")⟩, ?_⟩
  | refine ⟨_, _, _, (rfl : _ = V.ref _), (rfl : (_ : List V) = _), (by walk_at "hp"), (by with_reducible assumption), ?_⟩
  | refine ⟨_, _, (rfl : (_ : List V) = _), Or.inl ((by walk_at "sq")), ?_⟩
  | refine ⟨_, _, _, _, (rfl : _ = V.ref _), (rfl : _ = V.int _), (by walk_at "sq"), (by walk_at "at"), ?_⟩
  | refine ⟨_, _, _, (rfl : _ = V.str _), (rfl : _ = V.int _), (by walk_at "sz"), (by walk_at "at"), ?_⟩
  | refine ⟨_, _, (rfl : (_ : List V) = [V.str _]), SX.int_S (by assumption) (by simp) (by assumption), (by assumption), ?_⟩
  | refine ⟨_, _, (rfl : (_ : List V) = [_, _]), ?_⟩
  | refine ⟨_, _, (rfl : _ = V.ref _), (by walk_at "sq"), ?_⟩
  | refine ⟨(rfl : (_ : Bool) = true), ?_⟩
  | refine ⟨(rfl : (_ : V) = V.non), ?_⟩
  | refine And.intro (by walk_at "sz") ?_
  | refine ⟨⟨_, (rfl : _ = V.str _)⟩, ?_⟩
  | refine ⟨_, (rfl : _ = V.str _), (rfl : (_ : List V) = _), trivial, ?_⟩
  | refine .inl ⟨_, rfl, ?_⟩)
local macro_rules | `(tactic| walk_at "w") => `(tactic| repeat walk_at "w1")
local macro_rules | `(tactic| walk_at "fld") => `(tactic| (fail_if_success with_reducible show @ite _ _ _ _ _); first
  | refine ⟨_, _, _, _, _, (rfl : _ = V.ref _), (by walk_at "hp"), Txt.cl_Heap _, Txt.nf__shapes _, hz_shapes _, ?_⟩
  | refine ⟨_, _, _, _, _, (rfl : _ = V.ref _), (by walk_at "hp"), Txt.cl_Heap _, Txt.nf__faces _, hz_faces _, ?_⟩
  | refine ⟨_, _, _, _, _, (rfl : _ = V.ref _), (by walk_at "hp"), Txt.cl_Heap _, Txt.nf__firsts _, hz_firsts _, ?_⟩
  | refine ⟨_, _, _, _, _, (rfl : _ = V.ref _), (by walk_at "hp"), Txt.cl_Heap _, Txt.nf__seconds _, hz_seconds _, ?_⟩
  | refine ⟨_, _, _, _, _, (rfl : _ = V.ref _), (by walk_at "hp"), Txt.cl_Heap _, Txt.nf__hefts _, hz_hefts _, ?_⟩
  | refine ⟨_, _, _, _, _, (rfl : _ = V.ref _), (by walk_at "hp"), Txt.cl_Heap _, Txt.nf__numbers _, hz_numbers _, ?_⟩
  | refine ⟨_, _, _, _, _, (rfl : _ = V.ref _), (by walk_at "hp"), Txt.cl_Heap _, Txt.nf__names _, hz_names _, ?_⟩
  | refine ⟨_, _, _, _, _, (rfl : _ = V.ref _), (by walk_at "hp"), Txt.cl_Heap _, Txt.nf__pairs _, hz_pairs _, ?_⟩)
local macro_rules | `(tactic| walk_at "wf") => `(tactic| repeat first | walk_at "w1" | walk_at "fld")
section
variable {P : Program} {w : World} {K : PySem.W.Frag} {mg : Str → Option Value} {base : Heap}
/-- a box: three numbers -/
def BoxAt (H : Hp) (b : Addr) : Prop := ∃ g c s : Int, H b = some (.lst [.int g, .int c, .int s])
def spTake : Sp := fun vs H Q _ => ∃ (b : Addr) (n : Int), vs = [.ref b, .int n] ∧ BoxAt H b ∧ 0 < n ∧ n < 1000000 ∧
  ∀ (d : Int) (H' : Hp), 0 ≤ d → d < n → BoxAt H' b → Kp [b] H H' → Q (.int d) H'
theorem ok_law_take (T : Txt K mg) : FnOk P w K mg base CX0 1 T.a_law_take T.d_law_take ["box", "size"] spTake := by
  refine T.law_take.fn.ok sc_law_take (fun vs H Q E h => ?_) (fun cdv A outer s H vs Q E hr h => ?_)
  · obtain ⟨b, n, rfl, _⟩ := h
    rfl
  · obtain ⟨b, n, rfl, ⟨g, c, z, hb⟩, h0, h1, k⟩ := h
    refine ⟨_, (pss_cons (ps_if (pt_cmpR op_gt (pe_ix ix_list (pv 0) pe_int (fun _ _ => rfl)) pe_int (nomark _)) (pss_cons (ps_set (i := 2) sc_law_take.nd rfl (Or.inl rfl) (pe_op op_mod (pe_callTy call_int1 (by rfl) T.b_int (by decide +kernel) (pa_cons (pe_ix ix_list (pv 0) pe_int (fun _ _ => rfl)) pa_nil)) (pv 1)))
      (pss_cons (ps_asg (pe_op op_fdiv (pe_ix ix_list (pv 0) pe_int (fun _ _ => rfl)) (pv 1)) (pg_sub (pv 0) pe_int set_list))
      (pss_one (ps_ret (pv 2))))) pss_nil)
      (pss_cons (ps_asg (pe_op op_add (pe_ix ix_list (pv 0) pe_int (fun _ _ => rfl)) pe_int) (pg_sub (pv 0) pe_int set_list))
      (pss_cons (ps_asg (pe_op op_mod (pe_callTy call_int1 (by rfl) T.b_int (by decide +kernel) (pa_cons (pe_op op_add (pe_op op_add (pe_op op_mul (pe_ix ix_list (pv 0) pe_int (fun _ _ => rfl)) pe_int) (pe_op op_mul (pe_ix ix_list (pv 0) pe_int (fun _ _ => rfl)) pe_int)) pe_int) pa_nil)) pe_int) (pg_sub (pv 0) pe_int set_list))
      (pss_cons (ps_set (i := 3) sc_law_take.nd rfl (Or.inl rfl) (pe_op op_mod (pe_callTy call_int1 (by rfl) T.b_int (by decide +kernel) (pa_cons (pe_op op_add (pe_op op_mul (pe_ix ix_list (pv 0) pe_int (fun _ _ => rfl)) pe_int) (pe_op op_mul (pe_ix ix_list (pv 0) pe_int (fun _ _ => rfl)) pe_int)) pa_nil)) pe_int))
      (pss_one (ps_ret (pe_op op_mod (pe_callTy call_int1 (by rfl) T.b_int (by decide +kernel) (pa_cons (pe_op op_fdiv (pv 3) pe_int) pa_nil)) (pv 1)))))))), ?_⟩
    try dsimp only [cxOf, Cx.nox]
    walk_at "w"
    refine iteD (fun c0 => ?_) (fun c0 => ?_)
    · walk_at "w"
      exact k _ _ (Int.emod_nonneg _ (by omega)) (Int.emod_lt_of_pos _ h0) ⟨_, _, _, upd_same⟩ ((Kp.refl H).at (by simp))
    · walk_at "w"
      exact k _ _ (Int.emod_nonneg _ (by omega)) (Int.emod_lt_of_pos _ h0) ⟨_, _, _, upd_same⟩ (((Kp.refl H).at (by simp)).at (by simp))
theorem cutV_to (xs : List V) (k : Nat) : cutV xs none (some (k : Int)) = xs.take k := by
  unfold cutV
  rw [HT.sIx_none, HT.sIx_nat, Nat.sub_zero, List.drop_zero]
  by_cases h : k ≤ xs.length
  · rw [Nat.min_eq_left h]
  · rw [Nat.min_eq_right (by omega), List.take_length, List.take_of_length_le (by omega)]
def spBox (K : PySem.W.Frag) : Sp := fun vs H Q _ => ∃ (a : Addr) (ns : List Int) (p : Nat), vs = [.ref a, .int (p : Int)] ∧ SqL K H a (ns.map V.int) ∧ ∀ (b : Addr) (H' : Hp), H b = none → BoxAt H' b → Kp [] H H' → Q (.ref b) H'
theorem ok_law_box (T : Txt K mg) : FnOk P w K mg base CX0 1 T.a_law_box T.d_law_box ["script", "place"] (spBox K) := by
  refine T.law_box.fn.ok sc_law_box (fun vs H Q E h => ?_) (fun cdv A outer s H vs Q E hr h => ?_)
  · obtain ⟨a, ns, p, rfl, _⟩ := h
    rfl
  · obtain ⟨a, ns, p, rfl, hS, k⟩ := h
    have fin : ∀ (b : Addr) (x y z : Int) (q : Addr) (o : HO), H q = none → (upd H q o) b = none → Q (.ref b) (upd (upd H q o) b (.lst [.int x, .int y, .int z])) := fun b x y z q o h1 h2 =>
      k b _ (by
        have : b ≠ q := fun e => by rw [e, upd_same] at h2; cases h2
        rw [upd_ne this] at h2; exact h2) ⟨_, _, _, upd_same⟩ (((Kp.refl H).new h1).new' h2)
    refine ⟨_, (pss_cons (ps_set (i := 2) sc_law_box.nd rfl (Or.inl rfl) pe_int)
      (pss_cons (ps_if (pt_cmpR op_lt (pv 1) (pe_callB call_len_seq (by rfl) T.b_len (by decide +kernel) (pa_cons (pv 0) pa_nil)) (nomark _)) (pss_one (ps_set (i := 2) sc_law_box.nd rfl (Or.inl rfl) (pe_callTy call_int1 (by rfl) T.b_int (by decide +kernel) (pa_cons (pe_ix ix_list (pv 0) (pv 1) (fun _ _ => rfl)) pa_nil)))) pss_nil)
      (pss_cons (ps_if (pt_cmpR op_lt (pv 2) pe_int (nomark _)) (pss_one (ps_set (i := 2) sc_law_box.nd rfl (Or.inl rfl) (pe_op op_sub (pe_un un_neg pe_int) (pv 2)))) pss_nil)
      (pss_cons (ps_set (i := 3) sc_law_box.nd rfl (Or.inl rfl) pe_int)
      (pss_cons (ps_if (pt_cmpR op_ge (pv 2) (pe_op op_powW pe_int pe_int) (nomark _)) (pss_one (ps_set (i := 3) sc_law_box.nd rfl (Or.inl rfl) (pe_op op_mod (pe_callTy call_int1 (by rfl) T.b_int (by decide +kernel) (pa_cons (pv 2) pa_nil)) (pe_op op_powW (pe_op op_powW pe_int pe_int) pe_int)))) pss_nil)
      (pss_cons (ps_set (i := 4) sc_law_box.nd rfl (Or.inl rfl) (pe_op op_add (pe_op op_add (pe_op op_mod (pe_callTy call_int1 (by rfl) T.b_int (by decide +kernel) (pa_cons (pv 2) pa_nil)) pe_int) (pe_op op_mul pe_int (pv 1))) (pe_op op_mod (pe_callTy call_int1 (by rfl) T.b_int (by decide +kernel) (pa_cons (pe_callB (cr_sum rfl) (by rfl) T.b_sum (by decide +kernel) (pa_cons (pe_slice sl_list (pv 0) po_none (po_some pe_int)) pa_nil)) pa_nil)) pe_int)))
      (pss_one (ps_ret (pe_lst (pa_cons (pv 3) (pa_cons pe_int (pa_cons (pv 4) pa_nil)))))))))))), ?_⟩
    try dsimp only [cxOf, Cx.nox]
    walk_at "w"
    refine iteD (fun h1 => ?_) (fun h1 => ?_)
    · have hp : p < ns.length := by rw [List.length_map] at h1; omega
      have hat : (ns.map V.int)[p]? = some (V.int ns[p]) := by rw [List.getElem?_map, List.getElem?_eq_getElem hp]; rfl
      walk_at "w"
      refine iteD (fun h2 => ?_) (fun h2 => ?_) <;>
      · walk_at "w"
        refine iteD (fun h3 => ?_) (fun h3 => ?_) <;>
        · walk_at "w"
          intro q hq
          refine ⟨q, ns.take 63, rfl, SqL.of (by rw [show (some 63 : Option Int) = some ((63 : Nat) : Int) from rfl, cutV_to, ← List.map_take]; exact upd_same), ?_⟩
          walk_at "w"
          first | exact ⟨(show 3 ≤ sizeLine by decide), fun b hb => fin b _ _ _ q _ hq hb⟩ | exact fun b hb => fin b _ _ _ q _ hq hb
    · walk_at "w"
      refine iteD (fun h2 => ?_) (fun h2 => ?_) <;>
      · walk_at "w"
        refine iteD (fun h3 => ?_) (fun h3 => ?_) <;>
        · walk_at "w"
          intro q hq
          refine ⟨q, ns.take 63, rfl, SqL.of (by rw [show (some 63 : Option Int) = some ((63 : Nat) : Int) from rfl, cutV_to, ← List.map_take]; exact upd_same), ?_⟩
          walk_at "w"
          first | exact ⟨(show 3 ≤ sizeLine by decide), fun b hb => fin b _ _ _ q _ hq hb⟩ | exact fun b hb => fin b _ _ _ q _ hq hb
end
end Wh
set_option Elab.async false
set_option linter.all false
set_option maxRecDepth 100000
set_option maxHeartbeats 1000000
/-! weight_of, size_of. -/
namespace Wh
open PySem L2 PySem.Spec PyProof.Rows
local macro_rules | `(tactic| walk_at "ne") => `(tactic| first | with_reducible assumption | (apply Ne.symm; with_reducible assumption))
local macro_rules | `(tactic| walk_at "hp") => `(tactic| first | with_reducible assumption | with_reducible exact upd_same | ((with_reducible refine (upd_ne ?n).trans ?h); (case n => walk_at "ne"); (case h => walk_at "hp")) | ((with_reducible show upd _ _ _ _ = _); exact upd_same))
local macro_rules | `(tactic| walk_at "cond") => `(tactic| first | with_reducible assumption | exact (rfl : (_ : Bool) = true) | ((try dsimp only) <;> first | with_reducible assumption | decide | omega) | exact ⟨by first | decide | omega | decide +kernel, by first | decide | omega | decide +kernel⟩ | decide +kernel | exact .inr ⟨by decide, by decide⟩ | exact .inl ⟨by decide, by decide⟩)
local macro_rules | `(tactic| walk_at "sq") => `(tactic| first | with_reducible assumption | exact SqL.of (by walk_at "hp"))
local macro_rules | `(tactic| walk_at "sz") => `(tactic| first | with_reducible assumption | (show _ ≤ 16777216; omega))
local macro_rules | `(tactic| walk_at "at") => `(tactic| first | with_reducible assumption | exact atI_nat (by with_reducible assumption) | exact atI_nat (j := 0) (rfl : (_ : Option Nat) = some _) | exact atI_nat (by assumption))
local macro_rules | `(tactic| walk_at "w1") => `(tactic| (fail_if_success with_reducible show @ite _ _ _ _ _); first
  | refine ⟨_, rfl, ?_⟩
  | refine ⟨_, _, (rfl : _ = V.int _), (rfl : _ = V.int _), And.intro (by walk_at "cond") ?_⟩
  | refine ⟨_, _, (rfl : _ = V.int _), (rfl : _ = V.int _), ?_⟩
  | refine ⟨_, _, (rfl : _ = V.str _), (rfl : _ = V.str _), And.intro (by walk_at "sz") ?_⟩
  | refine ⟨_, _, (rfl : _ = V.str _), (rfl : _ = V.str _), ?_⟩
  | refine ⟨_, _, _, _, (rfl : _ = V.ref _), (rfl : _ = V.int _), (by walk_at "sq"), rfl, ?_⟩
  | refine ⟨_, _, _, _, (rfl : _ = V.ref _), (rfl : _ = V.int _), (by walk_at "hp"), rfl, ?_⟩
  | refine ⟨Or.inl ⟨rfl, _, (by walk_at "sq")⟩, ?_⟩
  | refine ⟨_, _, _, (rfl : _ = V.ref _), (rfl : (_ : List V) = _), (by walk_at "hp"), (by with_reducible assumption), ?_⟩
  | refine ⟨_, _, (rfl : (_ : List V) = _), Or.inl ((by walk_at "sq")), ?_⟩
  | refine ⟨_, _, _, _, (rfl : _ = V.ref _), (rfl : _ = V.int _), (by walk_at "sq"), (by walk_at "at"), ?_⟩
  | refine ⟨_, _, _, (rfl : _ = V.str _), (rfl : _ = V.int _), (by walk_at "sz"), (by walk_at "at"), ?_⟩
  | refine ⟨_, _, (rfl : (_ : List V) = [V.str _]), SX.int_S (by assumption) (by simp) (by assumption), (by assumption), ?_⟩
  | refine ⟨_, _, (rfl : (_ : List V) = [_, _]), ?_⟩
  | refine ⟨_, _, (rfl : _ = V.ref _), (by walk_at "sq"), ?_⟩
  | refine ⟨(rfl : (_ : Bool) = true), ?_⟩
  | refine ⟨(rfl : (_ : V) = V.non), ?_⟩
  | refine And.intro (by walk_at "sz") ?_
  | refine ⟨⟨_, (rfl : _ = V.str _)⟩, ?_⟩
  | refine ⟨_, (rfl : _ = V.str _), (rfl : (_ : List V) = _), trivial, ?_⟩
  | refine .inl ⟨_, rfl, ?_⟩)
local macro_rules | `(tactic| walk_at "w") => `(tactic| repeat walk_at "w1")
local macro_rules | `(tactic| walk_at "fld") => `(tactic| (fail_if_success with_reducible show @ite _ _ _ _ _); first
  | refine ⟨_, _, _, _, _, (rfl : _ = V.ref _), (by walk_at "hp"), Txt.cl_Heap _, Txt.nf__shapes _, hz_shapes _, ?_⟩
  | refine ⟨_, _, _, _, _, (rfl : _ = V.ref _), (by walk_at "hp"), Txt.cl_Heap _, Txt.nf__faces _, hz_faces _, ?_⟩
  | refine ⟨_, _, _, _, _, (rfl : _ = V.ref _), (by walk_at "hp"), Txt.cl_Heap _, Txt.nf__firsts _, hz_firsts _, ?_⟩
  | refine ⟨_, _, _, _, _, (rfl : _ = V.ref _), (by walk_at "hp"), Txt.cl_Heap _, Txt.nf__seconds _, hz_seconds _, ?_⟩
  | refine ⟨_, _, _, _, _, (rfl : _ = V.ref _), (by walk_at "hp"), Txt.cl_Heap _, Txt.nf__hefts _, hz_hefts _, ?_⟩
  | refine ⟨_, _, _, _, _, (rfl : _ = V.ref _), (by walk_at "hp"), Txt.cl_Heap _, Txt.nf__numbers _, hz_numbers _, ?_⟩
  | refine ⟨_, _, _, _, _, (rfl : _ = V.ref _), (by walk_at "hp"), Txt.cl_Heap _, Txt.nf__names _, hz_names _, ?_⟩
  | refine ⟨_, _, _, _, _, (rfl : _ = V.ref _), (by walk_at "hp"), Txt.cl_Heap _, Txt.nf__pairs _, hz_pairs _, ?_⟩)
local macro_rules | `(tactic| walk_at "wf") => `(tactic| repeat first | walk_at "w1" | walk_at "fld")
section
variable {P : Program} {w : World} {K : PySem.W.Frag} {mg : Str → Option Value} {base : Heap}
def wtT : Tr → Nat
  | .cons a b => wtT a + wtT b
  | _ => 1
def szT : Tr → Nat
  | .cons a b => szT a + 1 + szT b
  | .num n => n
  | _ => 0
/-- a list of figures, one for each node -/
def Figs (G : List Nd) (f : Tr → Nat) (ws : List Int) (i : Nat) : Prop := ws.length = i ∧ ∀ (k : Nat) (t : Tr), k < i → Den G t k → ws[k]? = some ((f t : Nat) : Int)
theorem Figs.snoc {G : List Nd} {f : Tr → Nat} {ws : List Int} {i : Nat} {x : Int} (h : Figs G f ws i) (n : ∀ t, Den G t i → x = ((f t : Nat) : Int)) : Figs G f (ws ++ [x]) (i + 1) := by
  refine ⟨by simp [h.1], fun k t hk d => ?_⟩
  by_cases e : k = i
  · subst e
    have h1 := h.1
    rw [List.getElem?_append_right (by omega), h.1, Nat.sub_self, n t d]
    rfl
  · have := h.1
    rw [List.getElem?_append_left (by omega)]
    exact h.2 k t (by omega) d
/-- every node is a value -/
theorem WF.den {G : List Nd} (wf : WF G) : ∀ (k : Nat), k < G.length → ∃ t, Den G t k := fun k => by
  induction k using Nat.strongRecOn with
  | _ k ih =>
    intro hk
    have e : G[k]? = some G[k] := List.getElem?_eq_getElem hk
    cases q : G[k] with
    | nil => exact ⟨.nil, e.trans (by rw [q])⟩
    | num n => exact ⟨.num n, e.trans (by rw [q])⟩
    | nam l => exact ⟨.nam l, e.trans (by rw [q])⟩
    | pr i j =>
      have e2 : G[k]? = some (Nd.pr i j) := e.trans (by rw [q])
      obtain ⟨h1, h2⟩ := wf.lt k i j e2
      obtain ⟨a, ha⟩ := ih i h1 (by omega)
      obtain ⟨b, hb⟩ := ih j h2 (by omega)
      exact ⟨.cons a b, i, j, e2, ha, hb⟩
def nivs (ws : List Int) : List V := ws.map V.int
theorem nivs_len (ws : List Int) : (nivs ws).length = ws.length := by unfold nivs; rw [List.length_map]
theorem nivs_at {ws : List Int} {i : Nat} {x : Int} (h : ws[i]? = some x) : (nivs ws)[i]? = some (V.int x) := by unfold nivs; rw [List.getElem?_map, h]; rfl
theorem nivs_app (ws : List Int) (x : Int) : nivs ws ++ [V.int x] = nivs (ws ++ [x]) := by unfold nivs; rw [List.map_append]; rfl
def spFig (f : Tr → Nat) : Sp := fun us H Q _ => ∃ (l : List Nat) (t : Tr), us = [.str (SX.S l)] ∧ l.length ≤ 1000000 ∧ run [] none (tk l) = some ([], some t) ∧ ∀ H', Same H H' → Q (.int ((f t : Nat) : Int)) H'
theorem ok_weight_of (T : Txt K mg) : FnOk P w K mg base CX0 7 T.a_weight_of T.d_weight_of ["text"] (spFig wtT) := by
  refine T.weight_of.fn.ok sc_weight_of (fun vs H Q E h => ?_) (fun cdv A outer s H vs Q E hr h => ?_)
  · obtain ⟨l, t, rfl, _⟩ := h
    rfl
  · obtain ⟨l, t, rfl, hl, hrun, k⟩ := h
    refine ⟨_, (pss_cons (ps_set (i := 1) sc_weight_of.nd rfl (Or.inl rfl) (pe_make0 T.mk_Heap (ok_Heap__init (P := P) (w := w) (base := base) T) (hr.mono (by decide)) rfl T.m_Heap T.Heap__init.b .nil pass0))
      (pss_cons (ps_set (i := 2) sc_weight_of.nd rfl (Or.inl rfl) (pe_call (ok_read (P := P) (w := w) (base := base) T) (hr.mono (by decide)) rfl T.read.mg T.read.fn.kp T.read.b .nil pass0 (pa_cons (pv 1) (pa_cons (pv 0) pa_nil))))
      (pss_cons (ps_set (i := 3) sc_weight_of.nd rfl (Or.inl rfl) (pe_lst pa_nil))
      (pss_cons (ps_for PassesOwn.never rfl (pi_range1 (by rfl) T.b_range (pa_cons (pe_op op_add (pv 2) pe_int) pa_nil)) (pg_name (i := 4) sc_weight_of.nd rfl (Or.inl rfl)) (pss_one (ps_if (pt_cmpR op_eq (pe_meth (pv 1) T.cl_Heap T.Heap_shape.me (ok_Heap_shape (P := P) (w := w) (base := base) T) (hr.mono (by decide)) T.Heap_shape.b .nil pass0 (pa_cons (pv 4) pa_nil)) (pe_glob (v := .int 3) rfl T.c_PAIR ⟨_, rfl⟩) (nomark _)) (pss_one (ps_expr (pe_bm PySem.F.plainAttrs_list PySem.F.slot_list_append PySem.F.type_list_append mt_append (pv 3) (pa_cons (pe_op op_add (pe_ix ix_list (pv 3) (pe_meth (pv 1) T.cl_Heap T.Heap_first.me (ok_Heap_first (P := P) (w := w) (base := base) T) (hr.mono (by decide)) T.Heap_first.b .nil pass0 (pa_cons (pv 4) pa_nil)) (fun _ _ => rfl)) (pe_ix ix_list (pv 3) (pe_meth (pv 1) T.cl_Heap T.Heap_second.me (ok_Heap_second (P := P) (w := w) (base := base) T) (hr.mono (by decide)) T.Heap_second.b .nil pass0 (pa_cons (pv 4) pa_nil)) (fun _ _ => rfl))) pa_nil)))) (pss_one (ps_expr (pe_bm PySem.F.plainAttrs_list PySem.F.slot_list_append PySem.F.type_list_append mt_append (pv 3) (pa_cons pe_int pa_nil)))))))
      (pss_one (ps_ret (pe_ix ix_list (pv 3) (pv 2) (fun _ _ => rfl)))))))), ?_⟩
    try dsimp only [cxOf, Cx.nox]
    intro x dx nx ndx nex
    refine ⟨x, dx, rfl, upd_same, fun z H1 hz hf hA hk => ⟨rfl, ?_⟩⟩
    have s1 : Same H H1 := fun b o e => hk b o (ne_of_none e nx) (by rw [upd_ne (ne_of_none e nx), upd_ne (ne_of_none e ndx)]; exact e)
    subst hz
    walk_at "wf"
    refine ⟨z, [Nd.nil], l, t, rfl, hA, WF.one, hl, by simp; omega, hrun, fun i G' H2 hA2 wf2 ex2 le2 den2 kp2 => ?_⟩
    have s2 : Same H H2 := fun b o e => kp2 b o (fun q => by
      have := hf b q
      rw [upd_ne (ne_of_none e nx), upd_ne (ne_of_none e ndx), e] at this
      cases this) (s1 b o e)
    walk_at "wf"
    refine ⟨(show 0 ≤ sizeLine by decide), fun p np => ?_⟩
    generalize e3 : upd H2 p _ = H3
    have hA3 : HA T.C_Heap H3 z G' G' := by rw [← e3]; exact hA2.new np
    have hp3 : H3 p = some (.lst (nivs [])) := by rw [← e3]; exact upd_same
    have kp3 : Kp [] H2 H3 := by rw [← e3]; exact (Kp.refl H2).new np
    have pz : p ≠ z.p := fun q => by rw [q, hA2.ob] at np; cases np
    have pf : p ∉ foot z := hA2.not_foot np
    have pn : H p = none := s2.free np
    have hi := den2.lt
    have hG : G'.length ≤ 4000001 := by simp at le2; omega
    clear hA2
    walk_at "wf"
    refine ⟨by omega, by omega, for_it walk_range (fun j σ H4 => ∃ (ws : List Int) (o : Option V), σ = [some (.str (SX.S l)), some (.ref z.p), some (.int (i : Int)), some (.ref p), o] ∧ H4 p = some (.lst (nivs ws)) ∧ Figs G' wtT ws j ∧ HA T.C_Heap H4 z G' G' ∧ Same H H4) ?_ (fun _ _ _ _ _ => trivial) ?_ ?_⟩
    · exact ⟨[], none, rfl, hp3, ⟨rfl, fun k t h => absurd h (by omega)⟩, hA3, fun b o e => kp3 b o (by simp) (s2 b o e)⟩
    · rintro j x σ H4 H5 hj ⟨ws, o, rfl, hp4, fg, hA4, s4⟩ ⟨rfl, rfl⟩
      have hj' : j < G'.length := by omega
      have ob := hA4.ob
      have hl4 : (nivs ws).length < sizeLine := by rw [nivs_len, fg.1]; show _ < 16777216; omega
      obtain ⟨d, hd⟩ : ∃ d, G'[j]? = some d := ⟨_, List.getElem?_eq_getElem hj'⟩
      have ej : (0 + (j : Int)) = ((j : Nat) : Int) := by omega
      show gName 4 (V.int (0 + (j : Int))) _ _ _
      rw [ej]
      walk_at "wf"
      refine ⟨_, _, _, rfl, ob, hz_no_shape _, ?_⟩
      walk_at "wf"
      refine ⟨z, G', G', j, d, rfl, hA4, hd, ?_⟩
      have fin : ∀ v : Int, (∀ t, Den G' t j → v = ((wtT t : Nat) : Int)) → ∃ (ws' : List Int) (o' : Option V), ([some (V.str (SX.S l)), some (V.ref z.p), some (V.int (i : Int)), some (V.ref p), some (V.int ((j : Nat) : Int))] : List (Option V)) = [some (.str (SX.S l)), some (.ref z.p), some (.int (i : Int)), some (.ref p), o'] ∧ (upd H5 p (.lst (nivs ws ++ [V.int v]))) p = some (.lst (nivs ws')) ∧ Figs G' wtT ws' (j + 1) ∧ HA T.C_Heap (upd H5 p (.lst (nivs ws ++ [V.int v]))) z G' G' ∧ Same H (upd H5 p (.lst (nivs ws ++ [V.int v]))) := fun v hv =>
        ⟨ws ++ [v], _, rfl, by rw [← nivs_app]; exact upd_same, fg.snoc hv, hA4.apart ⟨pz, pf⟩, fun b o e => (upd_ne (ne_of_none e pn)).trans (s4 b o e)⟩
      cases d with
      | pr x y =>
        obtain ⟨hx, hy⟩ := wf2.lt j x y hd
        obtain ⟨tx, dx'⟩ := wf2.den x (by omega)
        obtain ⟨ty, dy'⟩ := wf2.den y (by omega)
        have ex := nivs_at (fg.2 x tx hx dx')
        have ey := nivs_at (fg.2 y ty hy dy')
        walk_at "wf"
        refine iteTe (by rfl) ?_
        walk_at "wf"
        refine ⟨_, _, _, rfl, ob, hz_no_first _, ?_⟩
        walk_at "wf"
        refine ⟨z, G', G', j, _, rfl, hA4, hd, ?_⟩
        dsimp only [firstV]
        walk_at "wf"
        refine ⟨_, _, _, rfl, ob, hz_no_second _, ?_⟩
        walk_at "wf"
        refine ⟨z, G', G', j, _, rfl, hA4, hd, ?_⟩
        dsimp only [secondV]
        walk_at "wf"
        refine fin _ fun t dt => ?_
        cases t with
        | cons a b =>
          obtain ⟨x', y', e, da, db⟩ := dt
          rw [hd] at e
          cases e
          have q1 := (fg.2 x a hx da).symm.trans (fg.2 x tx hx dx')
          have q2 := (fg.2 y b hy db).symm.trans (fg.2 y ty hy dy')
          have q1 := Option.some.inj q1
          have q2 := Option.some.inj q2
          show _ = (((wtT a + wtT b) : Nat) : Int)
          omega
        | nil => have := hd.symm.trans dt; cases this
        | num n => have := hd.symm.trans dt; cases this
        | nam n => have := hd.symm.trans dt; cases this
      | _ =>
        walk_at "wf"
        refine iteFe (by rfl) ?_
        walk_at "wf"
        refine fin _ fun t dt => ?_
        cases t with
        | cons a b => obtain ⟨x', y', e, da, db⟩ := dt; rw [hd] at e; cases e
        | _ => rfl
    · rintro σ H4 ⟨ws, o, rfl, hp4, fg, hA4, s4⟩
      have ei := nivs_at (fg.2 i t (by omega) den2)
      walk_at "wf"
      exact k H4 s4
end
end Wh
set_option Elab.async false
set_option linter.all false
set_option maxRecDepth 100000
set_option maxHeartbeats 1000000
/-! size_of. -/
namespace Wh
open PySem L2 PySem.Spec PyProof.Rows
local macro_rules | `(tactic| walk_at "ne") => `(tactic| first | with_reducible assumption | (apply Ne.symm; with_reducible assumption))
local macro_rules | `(tactic| walk_at "hp") => `(tactic| first | with_reducible assumption | with_reducible exact upd_same | ((with_reducible refine (upd_ne ?n).trans ?h); (case n => walk_at "ne"); (case h => walk_at "hp")) | ((with_reducible show upd _ _ _ _ = _); exact upd_same))
local macro_rules | `(tactic| walk_at "cond") => `(tactic| first | with_reducible assumption | exact (rfl : (_ : Bool) = true) | ((try dsimp only) <;> first | with_reducible assumption | decide | omega) | exact ⟨by first | decide | omega | decide +kernel, by first | decide | omega | decide +kernel⟩ | decide +kernel | exact .inr ⟨by decide, by decide⟩ | exact .inl ⟨by decide, by decide⟩)
local macro_rules | `(tactic| walk_at "sq") => `(tactic| first | with_reducible assumption | exact SqL.of (by walk_at "hp"))
local macro_rules | `(tactic| walk_at "sz") => `(tactic| first | with_reducible assumption | (show _ ≤ 16777216; omega))
local macro_rules | `(tactic| walk_at "at") => `(tactic| first | with_reducible assumption | exact atI_nat (by with_reducible assumption) | exact atI_nat (j := 0) (rfl : (_ : Option Nat) = some _) | exact atI_nat (by assumption))
local macro_rules | `(tactic| walk_at "w1") => `(tactic| (fail_if_success with_reducible show @ite _ _ _ _ _); first
  | refine ⟨_, rfl, ?_⟩
  | refine ⟨_, _, (rfl : _ = V.int _), (rfl : _ = V.int _), And.intro (by walk_at "cond") ?_⟩
  | refine ⟨_, _, (rfl : _ = V.int _), (rfl : _ = V.int _), ?_⟩
  | refine ⟨_, _, (rfl : _ = V.str _), (rfl : _ = V.str _), And.intro (by walk_at "sz") ?_⟩
  | refine ⟨_, _, (rfl : _ = V.str _), (rfl : _ = V.str _), ?_⟩
  | refine ⟨_, _, _, _, (rfl : _ = V.ref _), (rfl : _ = V.int _), (by walk_at "sq"), rfl, ?_⟩
  | refine ⟨_, _, _, _, (rfl : _ = V.ref _), (rfl : _ = V.int _), (by walk_at "hp"), rfl, ?_⟩
  | refine ⟨Or.inl ⟨rfl, _, (by walk_at "sq")⟩, ?_⟩
  | refine ⟨_, _, _, (rfl : _ = V.ref _), (rfl : (_ : List V) = _), (by walk_at "hp"), (by with_reducible assumption), ?_⟩
  | refine ⟨_, _, (rfl : (_ : List V) = _), Or.inl ((by walk_at "sq")), ?_⟩
  | refine ⟨_, _, _, _, (rfl : _ = V.ref _), (rfl : _ = V.int _), (by walk_at "sq"), (by walk_at "at"), ?_⟩
  | refine ⟨_, _, _, (rfl : _ = V.str _), (rfl : _ = V.int _), (by walk_at "sz"), (by walk_at "at"), ?_⟩
  | refine ⟨_, _, (rfl : (_ : List V) = [V.str _]), SX.int_S (by assumption) (by simp) (by assumption), (by assumption), ?_⟩
  | refine ⟨_, _, (rfl : (_ : List V) = [_, _]), ?_⟩
  | refine ⟨_, _, (rfl : _ = V.ref _), (by walk_at "sq"), ?_⟩
  | refine ⟨(rfl : (_ : Bool) = true), ?_⟩
  | refine ⟨(rfl : (_ : V) = V.non), ?_⟩
  | refine And.intro (by walk_at "sz") ?_
  | refine ⟨⟨_, (rfl : _ = V.str _)⟩, ?_⟩
  | refine ⟨_, (rfl : _ = V.str _), (rfl : (_ : List V) = _), trivial, ?_⟩
  | refine .inl ⟨_, rfl, ?_⟩)
local macro_rules | `(tactic| walk_at "w") => `(tactic| repeat walk_at "w1")
local macro_rules | `(tactic| walk_at "fld") => `(tactic| (fail_if_success with_reducible show @ite _ _ _ _ _); first
  | refine ⟨_, _, _, _, _, (rfl : _ = V.ref _), (by walk_at "hp"), Txt.cl_Heap _, Txt.nf__shapes _, hz_shapes _, ?_⟩
  | refine ⟨_, _, _, _, _, (rfl : _ = V.ref _), (by walk_at "hp"), Txt.cl_Heap _, Txt.nf__faces _, hz_faces _, ?_⟩
  | refine ⟨_, _, _, _, _, (rfl : _ = V.ref _), (by walk_at "hp"), Txt.cl_Heap _, Txt.nf__firsts _, hz_firsts _, ?_⟩
  | refine ⟨_, _, _, _, _, (rfl : _ = V.ref _), (by walk_at "hp"), Txt.cl_Heap _, Txt.nf__seconds _, hz_seconds _, ?_⟩
  | refine ⟨_, _, _, _, _, (rfl : _ = V.ref _), (by walk_at "hp"), Txt.cl_Heap _, Txt.nf__hefts _, hz_hefts _, ?_⟩
  | refine ⟨_, _, _, _, _, (rfl : _ = V.ref _), (by walk_at "hp"), Txt.cl_Heap _, Txt.nf__numbers _, hz_numbers _, ?_⟩
  | refine ⟨_, _, _, _, _, (rfl : _ = V.ref _), (by walk_at "hp"), Txt.cl_Heap _, Txt.nf__names _, hz_names _, ?_⟩
  | refine ⟨_, _, _, _, _, (rfl : _ = V.ref _), (by walk_at "hp"), Txt.cl_Heap _, Txt.nf__pairs _, hz_pairs _, ?_⟩)
local macro_rules | `(tactic| walk_at "wf") => `(tactic| repeat first | walk_at "w1" | walk_at "fld")
section
variable {P : Program} {w : World} {K : PySem.W.Frag} {mg : Str → Option Value} {base : Heap}
theorem ok_size_of (T : Txt K mg) : FnOk P w K mg base CX0 7 T.a_size_of T.d_size_of ["text"] (spFig szT) := by
  refine T.size_of.fn.ok sc_size_of (fun vs H Q E h => ?_) (fun cdv A outer s H vs Q E hr h => ?_)
  · obtain ⟨l, t, rfl, _⟩ := h
    rfl
  · obtain ⟨l, t, rfl, hl, hrun, k⟩ := h
    refine ⟨_, (pss_cons (ps_set (i := 1) sc_size_of.nd rfl (Or.inl rfl) (pe_make0 T.mk_Heap (ok_Heap__init (P := P) (w := w) (base := base) T) (hr.mono (by decide)) rfl T.m_Heap T.Heap__init.b .nil pass0))
      (pss_cons (ps_set (i := 2) sc_size_of.nd rfl (Or.inl rfl) (pe_call (ok_read (P := P) (w := w) (base := base) T) (hr.mono (by decide)) rfl T.read.mg T.read.fn.kp T.read.b .nil pass0 (pa_cons (pv 1) (pa_cons (pv 0) pa_nil))))
      (pss_cons (ps_set (i := 3) sc_size_of.nd rfl (Or.inl rfl) (pe_lst pa_nil))
      (pss_cons (ps_for PassesOwn.never rfl (pi_range1 (by rfl) T.b_range (pa_cons (pe_op op_add (pv 2) pe_int) pa_nil)) (pg_name (i := 4) sc_size_of.nd rfl (Or.inl rfl)) (pss_one (ps_if (pt_cmpR op_eq (pe_meth (pv 1) T.cl_Heap T.Heap_shape.me (ok_Heap_shape (P := P) (w := w) (base := base) T) (hr.mono (by decide)) T.Heap_shape.b .nil pass0 (pa_cons (pv 4) pa_nil)) (pe_glob (v := .int 3) rfl T.c_PAIR ⟨_, rfl⟩) (nomark _)) (pss_one (ps_expr (pe_bm PySem.F.plainAttrs_list PySem.F.slot_list_append PySem.F.type_list_append mt_append (pv 3) (pa_cons (pe_op op_add (pe_op op_add (pe_ix ix_list (pv 3) (pe_meth (pv 1) T.cl_Heap T.Heap_first.me (ok_Heap_first (P := P) (w := w) (base := base) T) (hr.mono (by decide)) T.Heap_first.b .nil pass0 (pa_cons (pv 4) pa_nil)) (fun _ _ => rfl)) pe_int) (pe_ix ix_list (pv 3) (pe_meth (pv 1) T.cl_Heap T.Heap_second.me (ok_Heap_second (P := P) (w := w) (base := base) T) (hr.mono (by decide)) T.Heap_second.b .nil pass0 (pa_cons (pv 4) pa_nil)) (fun _ _ => rfl))) pa_nil)))) (pss_one (ps_if (pt_cmpR op_eq (pe_meth (pv 1) T.cl_Heap T.Heap_shape.me (ok_Heap_shape (P := P) (w := w) (base := base) T) (hr.mono (by decide)) T.Heap_shape.b .nil pass0 (pa_cons (pv 4) pa_nil)) (pe_glob (v := .int 1) rfl T.c_NUMBER ⟨_, rfl⟩) (nomark _)) (pss_one (ps_expr (pe_bm PySem.F.plainAttrs_list PySem.F.slot_list_append PySem.F.type_list_append mt_append (pv 3) (pa_cons (pe_meth (pv 1) T.cl_Heap T.Heap_face.me (ok_Heap_face (P := P) (w := w) (base := base) T) (hr.mono (by decide)) T.Heap_face.b .nil pass0 (pa_cons (pv 4) pa_nil)) pa_nil)))) (pss_one (ps_expr (pe_bm PySem.F.plainAttrs_list PySem.F.slot_list_append PySem.F.type_list_append mt_append (pv 3) (pa_cons pe_int pa_nil)))))))))
      (pss_one (ps_ret (pe_ix ix_list (pv 3) (pv 2) (fun _ _ => rfl)))))))), ?_⟩
    try dsimp only [cxOf, Cx.nox]
    intro x dx nx ndx nex
    refine ⟨x, dx, rfl, upd_same, fun z H1 hz hf hA hk => ⟨rfl, ?_⟩⟩
    have s1 : Same H H1 := fun b o e => hk b o (ne_of_none e nx) (by rw [upd_ne (ne_of_none e nx), upd_ne (ne_of_none e ndx)]; exact e)
    subst hz
    walk_at "wf"
    refine ⟨z, [Nd.nil], l, t, rfl, hA, WF.one, hl, by simp; omega, hrun, fun i G' H2 hA2 wf2 ex2 le2 den2 kp2 => ?_⟩
    have s2 : Same H H2 := fun b o e => kp2 b o (fun q => by
      have := hf b q
      rw [upd_ne (ne_of_none e nx), upd_ne (ne_of_none e ndx), e] at this
      cases this) (s1 b o e)
    walk_at "wf"
    refine ⟨(show 0 ≤ sizeLine by decide), fun p np => ?_⟩
    generalize e3 : upd H2 p _ = H3
    have hA3 : HA T.C_Heap H3 z G' G' := by rw [← e3]; exact hA2.new np
    have hp3 : H3 p = some (.lst (nivs [])) := by rw [← e3]; exact upd_same
    have kp3 : Kp [] H2 H3 := by rw [← e3]; exact (Kp.refl H2).new np
    have pz : p ≠ z.p := fun q => by rw [q, hA2.ob] at np; cases np
    have pf : p ∉ foot z := hA2.not_foot np
    have pn : H p = none := s2.free np
    have hi := den2.lt
    have hG : G'.length ≤ 4000001 := by simp at le2; omega
    clear hA2
    walk_at "wf"
    refine ⟨by omega, by omega, for_it walk_range (fun j σ H4 => ∃ (ws : List Int) (o : Option V), σ = [some (.str (SX.S l)), some (.ref z.p), some (.int (i : Int)), some (.ref p), o] ∧ H4 p = some (.lst (nivs ws)) ∧ Figs G' szT ws j ∧ HA T.C_Heap H4 z G' G' ∧ Same H H4) ?_ (fun _ _ _ _ _ => trivial) ?_ ?_⟩
    · exact ⟨[], none, rfl, hp3, ⟨rfl, fun k t h => absurd h (by omega)⟩, hA3, fun b o e => kp3 b o (by simp) (s2 b o e)⟩
    · rintro j x σ H4 H5 hj ⟨ws, o, rfl, hp4, fg, hA4, s4⟩ ⟨rfl, rfl⟩
      have hj' : j < G'.length := by omega
      have ob := hA4.ob
      have hl4 : (nivs ws).length < sizeLine := by rw [nivs_len, fg.1]; show _ < 16777216; omega
      obtain ⟨d, hd⟩ : ∃ d, G'[j]? = some d := ⟨_, List.getElem?_eq_getElem hj'⟩
      have ej : (0 + (j : Int)) = ((j : Nat) : Int) := by omega
      show gName 4 (V.int (0 + (j : Int))) _ _ _
      rw [ej]
      walk_at "wf"
      refine ⟨_, _, _, rfl, ob, hz_no_shape _, ?_⟩
      walk_at "wf"
      refine ⟨z, G', G', j, d, rfl, hA4, hd, ?_⟩
      have fin : ∀ v : Int, (∀ t, Den G' t j → v = ((szT t : Nat) : Int)) → ∃ (ws' : List Int) (o' : Option V), ([some (V.str (SX.S l)), some (V.ref z.p), some (V.int (i : Int)), some (V.ref p), some (V.int ((j : Nat) : Int))] : List (Option V)) = [some (.str (SX.S l)), some (.ref z.p), some (.int (i : Int)), some (.ref p), o'] ∧ (upd H5 p (.lst (nivs ws ++ [V.int v]))) p = some (.lst (nivs ws')) ∧ Figs G' szT ws' (j + 1) ∧ HA T.C_Heap (upd H5 p (.lst (nivs ws ++ [V.int v]))) z G' G' ∧ Same H (upd H5 p (.lst (nivs ws ++ [V.int v]))) := fun v hv =>
        ⟨ws ++ [v], _, rfl, by rw [← nivs_app]; exact upd_same, fg.snoc hv, hA4.apart ⟨pz, pf⟩, fun b o e => (upd_ne (ne_of_none e pn)).trans (s4 b o e)⟩
      cases d with
      | pr x y =>
        obtain ⟨hx, hy⟩ := wf2.lt j x y hd
        obtain ⟨tx, dx'⟩ := wf2.den x (by omega)
        obtain ⟨ty, dy'⟩ := wf2.den y (by omega)
        have ex := nivs_at (fg.2 x tx hx dx')
        have ey := nivs_at (fg.2 y ty hy dy')
        walk_at "wf"
        refine iteTe (by rfl) ?_
        walk_at "wf"
        refine ⟨_, _, _, rfl, ob, hz_no_first _, ?_⟩
        walk_at "wf"
        refine ⟨z, G', G', j, _, rfl, hA4, hd, ?_⟩
        dsimp only [firstV]
        walk_at "wf"
        refine ⟨_, _, _, rfl, ob, hz_no_second _, ?_⟩
        walk_at "wf"
        refine ⟨z, G', G', j, _, rfl, hA4, hd, ?_⟩
        dsimp only [secondV]
        walk_at "wf"
        refine fin _ fun t dt => ?_
        cases t with
        | cons a b =>
          obtain ⟨x', y', e, da, db⟩ := dt
          rw [hd] at e
          cases e
          have q1 := (fg.2 x a hx da).symm.trans (fg.2 x tx hx dx')
          have q2 := (fg.2 y b hy db).symm.trans (fg.2 y ty hy dy')
          have q1 := Option.some.inj q1
          have q2 := Option.some.inj q2
          show _ = (((szT a + 1 + szT b) : Nat) : Int)
          omega
        | nil => have := hd.symm.trans dt; cases this
        | num n => have := hd.symm.trans dt; cases this
        | nam n => have := hd.symm.trans dt; cases this
      | num n =>
        walk_at "wf"
        refine iteFe (by rfl) ?_
        walk_at "wf"
        refine ⟨_, _, _, rfl, ob, hz_no_shape _, ?_⟩
        walk_at "wf"
        refine ⟨z, G', G', j, _, rfl, hA4, hd, ?_⟩
        walk_at "wf"
        refine iteTe (by rfl) ?_
        walk_at "wf"
        refine ⟨_, _, _, rfl, ob, hz_no_face _, ?_⟩
        walk_at "wf"
        refine ⟨z, G', G', j, _, rfl, hA4, hd, ?_⟩
        dsimp only [faceV]
        walk_at "wf"
        refine fin _ fun t dt => ?_
        cases t with
        | cons a b => obtain ⟨x', y', e, da, db⟩ := dt; rw [hd] at e; cases e
        | nil => have := hd.symm.trans dt; cases this
        | num m => have := hd.symm.trans dt; cases this; rfl
        | nam m => have := hd.symm.trans dt; cases this
      | nil =>
        walk_at "wf"
        refine iteFe (by rfl) ?_
        walk_at "wf"
        refine ⟨_, _, _, rfl, ob, hz_no_shape _, ?_⟩
        walk_at "wf"
        refine ⟨z, G', G', j, _, rfl, hA4, hd, ?_⟩
        walk_at "wf"
        refine iteFe (by rfl) ?_
        walk_at "wf"
        refine fin _ fun t dt => ?_
        cases t with
        | cons a b => obtain ⟨x', y', e, da, db⟩ := dt; rw [hd] at e; cases e
        | nil => rfl
        | num m => have := hd.symm.trans dt; cases this
        | nam m => have := hd.symm.trans dt; cases this
      | nam m =>
        walk_at "wf"
        refine iteFe (by rfl) ?_
        walk_at "wf"
        refine ⟨_, _, _, rfl, ob, hz_no_shape _, ?_⟩
        walk_at "wf"
        refine ⟨z, G', G', j, _, rfl, hA4, hd, ?_⟩
        walk_at "wf"
        refine iteFe (by rfl) ?_
        walk_at "wf"
        refine fin _ fun t dt => ?_
        cases t with
        | cons a b => obtain ⟨x', y', e, da, db⟩ := dt; rw [hd] at e; cases e
        | nil => have := hd.symm.trans dt; cases this
        | num m => have := hd.symm.trans dt; cases this
        | nam m => rfl
    · rintro σ H4 ⟨ws, o, rfl, hp4, fg, hA4, s4⟩
      have ei := nivs_at (fg.2 i t (by omega) den2)
      walk_at "wf"
      exact k H4 s4
end
end Wh
set_option Elab.async false
set_option linter.all false
set_option maxRecDepth 100000
set_option maxHeartbeats 1000000
/-! members, list_text. -/
namespace Wh
open PySem L2 PySem.Spec PyProof.Rows
local macro_rules | `(tactic| walk_at "ne") => `(tactic| first | with_reducible assumption | (apply Ne.symm; with_reducible assumption))
local macro_rules | `(tactic| walk_at "hp") => `(tactic| first | with_reducible assumption | with_reducible exact upd_same | ((with_reducible refine (upd_ne ?n).trans ?h); (case n => walk_at "ne"); (case h => walk_at "hp")) | ((with_reducible show upd _ _ _ _ = _); exact upd_same))
local macro_rules | `(tactic| walk_at "cond") => `(tactic| first | with_reducible assumption | exact (rfl : (_ : Bool) = true) | ((try dsimp only) <;> first | with_reducible assumption | decide | omega) | exact ⟨by first | decide | omega | decide +kernel, by first | decide | omega | decide +kernel⟩ | decide +kernel | exact .inr ⟨by decide, by decide⟩ | exact .inl ⟨by decide, by decide⟩)
local macro_rules | `(tactic| walk_at "sq") => `(tactic| first | with_reducible assumption | exact SqL.of (by walk_at "hp"))
local macro_rules | `(tactic| walk_at "sz") => `(tactic| first | with_reducible assumption | (show _ ≤ 16777216; omega))
local macro_rules | `(tactic| walk_at "at") => `(tactic| first | with_reducible assumption | exact atI_nat (by with_reducible assumption) | exact atI_nat (j := 0) (rfl : (_ : Option Nat) = some _) | exact atI_nat (by assumption))
local macro_rules | `(tactic| walk_at "w1") => `(tactic| (fail_if_success with_reducible show @ite _ _ _ _ _); first
  | refine ⟨_, rfl, ?_⟩
  | refine ⟨_, _, (rfl : _ = V.int _), (rfl : _ = V.int _), And.intro (by walk_at "cond") ?_⟩
  | refine ⟨_, _, (rfl : _ = V.int _), (rfl : _ = V.int _), ?_⟩
  | refine ⟨_, _, (rfl : _ = V.str _), (rfl : _ = V.str _), And.intro (by walk_at "sz") ?_⟩
  | refine ⟨_, _, (rfl : _ = V.str _), (rfl : _ = V.str _), ?_⟩
  | refine ⟨_, _, _, _, (rfl : _ = V.ref _), (rfl : _ = V.int _), (by walk_at "sq"), rfl, ?_⟩
  | refine ⟨_, _, _, _, (rfl : _ = V.ref _), (rfl : _ = V.int _), (by walk_at "hp"), rfl, ?_⟩
  | refine ⟨Or.inl ⟨rfl, _, (by walk_at "sq")⟩, ?_⟩
  | refine ⟨_, _, _, (rfl : _ = V.ref _), (rfl : (_ : List V) = _), (by walk_at "hp"), (by with_reducible assumption), ?_⟩
  | refine ⟨_, _, (rfl : (_ : List V) = _), Or.inl ((by walk_at "sq")), ?_⟩
  | refine ⟨_, _, _, _, (rfl : _ = V.ref _), (rfl : _ = V.int _), (by walk_at "sq"), (by walk_at "at"), ?_⟩
  | refine ⟨_, _, _, (rfl : _ = V.str _), (rfl : _ = V.int _), (by walk_at "sz"), (by walk_at "at"), ?_⟩
  | refine ⟨_, _, (rfl : (_ : List V) = [V.str _]), SX.int_S (by assumption) (by simp) (by assumption), (by assumption), ?_⟩
  | refine ⟨_, _, (rfl : (_ : List V) = [_, _]), ?_⟩
  | refine ⟨_, _, (rfl : _ = V.ref _), (by walk_at "sq"), ?_⟩
  | refine ⟨(rfl : (_ : Bool) = true), ?_⟩
  | refine ⟨(rfl : (_ : V) = V.non), ?_⟩
  | refine And.intro (by walk_at "sz") ?_
  | refine ⟨⟨_, (rfl : _ = V.str _)⟩, ?_⟩
  | refine ⟨_, (rfl : _ = V.str _), (rfl : (_ : List V) = _), trivial, ?_⟩
  | refine .inl ⟨_, rfl, ?_⟩)
local macro_rules | `(tactic| walk_at "w") => `(tactic| repeat walk_at "w1")
local macro_rules | `(tactic| walk_at "fld") => `(tactic| (fail_if_success with_reducible show @ite _ _ _ _ _); first
  | refine ⟨_, _, _, _, _, (rfl : _ = V.ref _), (by walk_at "hp"), Txt.cl_Heap _, Txt.nf__shapes _, hz_shapes _, ?_⟩
  | refine ⟨_, _, _, _, _, (rfl : _ = V.ref _), (by walk_at "hp"), Txt.cl_Heap _, Txt.nf__faces _, hz_faces _, ?_⟩
  | refine ⟨_, _, _, _, _, (rfl : _ = V.ref _), (by walk_at "hp"), Txt.cl_Heap _, Txt.nf__firsts _, hz_firsts _, ?_⟩
  | refine ⟨_, _, _, _, _, (rfl : _ = V.ref _), (by walk_at "hp"), Txt.cl_Heap _, Txt.nf__seconds _, hz_seconds _, ?_⟩
  | refine ⟨_, _, _, _, _, (rfl : _ = V.ref _), (by walk_at "hp"), Txt.cl_Heap _, Txt.nf__hefts _, hz_hefts _, ?_⟩
  | refine ⟨_, _, _, _, _, (rfl : _ = V.ref _), (by walk_at "hp"), Txt.cl_Heap _, Txt.nf__numbers _, hz_numbers _, ?_⟩
  | refine ⟨_, _, _, _, _, (rfl : _ = V.ref _), (by walk_at "hp"), Txt.cl_Heap _, Txt.nf__names _, hz_names _, ?_⟩
  | refine ⟨_, _, _, _, _, (rfl : _ = V.ref _), (by walk_at "hp"), Txt.cl_Heap _, Txt.nf__pairs _, hz_pairs _, ?_⟩)
local macro_rules | `(tactic| walk_at "wf") => `(tactic| repeat first | walk_at "w1" | walk_at "fld")
section
variable {P : Program} {w : World} {K : PySem.W.Frag} {mg : Str → Option Value} {base : Heap}
theorem Pr_spread : ∀ {t : Tr}, Pr t → ∀ u ∈ spread t, Pr u
  | .cons a b, h, u, hu => by
    rcases List.mem_cons.mp hu with rfl | hu
    · exact h.1
    · exact Pr_spread h.2.1 u hu
  | .nil, _, _, hu => by cases hu
  | .num _, _, _, hu => by cases hu
  | .nam _, _, _, hu => by cases hu
def spMem : Sp := fun us H Q _ => ∃ (l : List Nat) (t : Tr), us = [.str (SX.S l)] ∧ l.length ≤ 1000000 ∧ run [] none (tk l) = some ([], some t) ∧ Pr t ∧ (∀ u ∈ spread t, (can u).length ≤ 1000000) ∧ (spread t).length ≤ 1000000 ∧
  (isL t = false → ∀ H', Same H H' → Q .non H') ∧ (isL t = true → ∀ (p : Addr) (H' : Hp), H p = none → H' p = some (.lst ((spread t).map fun u => V.str (SX.S (can u)))) → Same H H' → Q (.ref p) H')
theorem ok_members (T : Txt K mg) : FnOk P w K mg base CX0 7 T.a_members T.d_members ["text"] spMem := by
  refine T.members.fn.ok sc_members (fun vs H Q E h => ?_) (fun cdv A outer s H vs Q E hr h => ?_)
  · obtain ⟨l, t, rfl, _⟩ := h
    rfl
  · obtain ⟨l, t, rfl, hl, hrun, pr, hcn, hsn, k0, k1⟩ := h
    refine ⟨_, (pss_cons (ps_set (i := 1) sc_members.nd rfl (Or.inr rfl) (pe_make0 T.mk_Heap (ok_Heap__init (P := P) (w := w) (base := base) T) (hr.mono (by decide)) rfl T.m_Heap T.Heap__init.b .nil pass0))
      (pss_cons (ps_set (i := 2) sc_members.nd rfl (Or.inl rfl) (pe_meth (pv 1) T.cl_Heap T.Heap_spread.me (ok_Heap_spread (P := P) (w := w) (base := base) T) (hr.mono (by decide)) T.Heap_spread.b .nil pass0 (pa_cons (pe_call (ok_read (P := P) (w := w) (base := base) T) (hr.mono (by decide)) rfl T.read.mg T.read.fn.kp T.read.b .nil pass0 (pa_cons (pv 1) (pa_cons (pv 0) pa_nil))) pa_nil)))
      (pss_cons (ps_if (pt_cmpR op_isN (pv 2) pe_non (nomark _)) (pss_one (ps_ret pe_non)) pss_nil)
      (pss_one (ps_ret (pe_lc (own := [("member", 3)]) (g := gName 3) (tt := tYes)  rfl sc_members.nd (pi_list (pv 2)) (blkOk_by (own := [("member", 3)]) (N := ["text", "heap", "ids", "member"]) (sc := defScope s_members) (by decide +kernel)) (fun _ _ _ _ _ => pg_name (i := 3) sc_members.nd rfl (Or.inl rfl)) (fun _ _ _ _ _ => pts_nil) (fun _ _ _ _ _ => (pe_call (ok_write (P := P) (w := w) (base := base) T) (hr.mono (by decide)) rfl T.write.mg T.write.fn.kp T.write.b .nil pass0 (pa_cons (pv 1) (pa_cons (pv 3) pa_nil)))))))))), ?_⟩
    try dsimp only [cxOf, Cx.nox]
    intro x dx nx ndx nex
    refine ⟨x, dx, rfl, upd_same, fun z H1 hz hf hA hk => ⟨rfl, ?_⟩⟩
    have s1 : Same H H1 := fun b o e => hk b o (ne_of_none e nx) (by rw [upd_ne (ne_of_none e nx), upd_ne (ne_of_none e ndx)]; exact e)
    subst hz
    have ob1 := hA.ob
    walk_at "wf"
    refine ⟨_, _, _, rfl, ob1, hz_no_spread _, ?_⟩
    walk_at "wf"
    refine ⟨z, [Nd.nil], l, t, rfl, hA, WF.one, hl, by simp; omega, hrun, fun i G' H2 hA2 wf2 ex2 le2 den2 kp2 => ?_⟩
    have s2 : Same H H2 := fun b o e => kp2 b o (fun q => by
      have := hf b q
      rw [upd_ne (ne_of_none e nx), upd_ne (ne_of_none e ndx), e] at this
      cases this) (s1 b o e)
    walk_at "wf"
    refine ⟨z, G', i, t, rfl, hA2, wf2, den2, pr, by simp at le2; omega, fun hT => ?_, fun hT p ids H3 np hids hp kp3 => ?_⟩
    · walk_at "wf"
      refine iteTe (by rfl) ?_
      walk_at "wf"
      exact k0 hT H2 s2
    · walk_at "wf"
      refine iteFe (by rfl) ?_
      have hlen := paired_len hids
      have hA3 := hA2.same kp3.same
      walk_at "wf"
      refine ⟨⟨_, SqL.of hp⟩, fun D nD => ?_⟩
      have nDp : D ≠ p := fun q => by rw [q, hp] at nD; cases nD
      have nDz : D ≠ z.p := fun q => by rw [q, hA3.ob] at nD; cases nD
      have nDf := hA3.not_foot nD
      have s3 : Same H H3 := fun b o e => kp3 b o (by simp) (s2 b o e)
      have nDH := s3.free nD
      refine lc_it (walk_list (xs := ivs ids)) (fun j H' => H' D = some (.lst (((spread t).take j).map fun u => V.str (SX.S (can u)))) ∧ HA T.C_Heap H' z G' G' ∧ H' p = some (.lst (ivs ids)) ∧ Same H H') ?_ ?_ ?_ ?_
      · exact ⟨upd_same, hA3.new nD, (upd_ne nDp.symm).trans hp, fun b o e => (upd_ne (ne_of_none e nDH)).trans (s3 b o e)⟩
      · rintro j H' _ ⟨_, _, h, _⟩
        exact SqL.of h
      · rintro j v H4 H5 hj ⟨hD, hA4, hp4, s4⟩ ⟨rfl, hv⟩
        have hn : (ivs ids).length = ids.length := ivs_len ids
        have hj' : j < ids.length := by omega
        have ev : v = V.int ((ids[j] : Nat) : Int) := by
          unfold ivs at hv
          rw [List.getElem?_map, List.getElem?_eq_getElem hj'] at hv
          exact (Option.some.inj hv).symm
        subst ev
        obtain ⟨u, hu, du⟩ := paired_at hids (List.getElem?_eq_getElem hj')
        have hum := List.mem_of_getElem? hu
        have pu := Pr_spread pr u hum
        have cu := hcn u hum
        have wu := (wgt_can pu).2
        walk_at "wf"
        refine ⟨rfl, ?_⟩
        walk_at "wf"
        refine ⟨z, G', ids[j], u, rfl, hA4, wf2, du, pu, by simp at le2; omega, by omega, by omega, fun H6 k6 => ?_⟩
        have hl6 : ((spread t).take j).length ≤ j := by simp; omega
        have hG := den2.lt
        refine ⟨_, k6 D _ (by simp) hD, by rw [List.length_map]; show _ < 16777216; omega, ?_, (hA4.same k6.same).apart ⟨nDz, nDf⟩, (upd_ne nDp.symm).trans (k6 p _ (by simp) hp4), fun b o e => (upd_ne (ne_of_none e nDH)).trans (k6 b o (by simp) (s4 b o e))⟩
        rw [List.take_add_one, hu, List.map_append]
        exact upd_same
      · rintro H4 ⟨hD, hA4, hp4, s4⟩
        rw [ivs_len, ← hlen, List.take_length] at hD
        exact k1 hT D H4 nDH hD s4
end
end Wh
set_option Elab.async false
set_option linter.all false
set_option maxRecDepth 100000
set_option maxHeartbeats 4000000
/-! The frame on demand, data at a value. -/
namespace Wh
open PySem L2 PySem.Spec PyProof.Rows
/-- something stands at a -/
def Al (H : Hp) (a : Addr) : Prop := H a ≠ none
theorem Al.of {H : Hp} {a : Addr} {o : HO} (h : H a = some o) : Al H a := fun e => by rw [h] at e; cases e
theorem Al.kp {F : List Addr} {H H' : Hp} {a : Addr} (k : Kp F H H') (n : a ∉ F) (h : Al H a) : Al H' a := by
  cases e : H a with
  | none => exact absurd e h
  | some o => exact .of (k a o n e)
theorem Kp.look {F : List Addr} {H H' : Hp} {a : Addr} {o : HO} (k : Kp F H H') (n : a ∉ F) (h : H a = some o) : H' a = some o := k a o n h
theorem ni_nil {a : Addr} : a ∉ ([] : List Addr) := by simp
theorem ni_cons {a b : Addr} {l : List Addr} (h : a ≠ b) (k : a ∉ l) : a ∉ b :: l := by
  intro z
  rcases List.mem_cons.mp z with z | z
  · exact h z
  · exact k z
theorem ne_fr1 {H : Hp} {a b : Addr} (f : H b = none) (l : Al H a) : a ≠ b := fun e => l (by rw [e]; exact f)
theorem ne_fr2 {H : Hp} {a b : Addr} (f : H a = none) (l : Al H b) : a ≠ b := fun e => l (by rw [← e]; exact f)
theorem ne_nf {F : List Addr} {a b : Addr} (n : a ∉ F) (m : b ∈ F) : a ≠ b := fun e => n (by rw [e]; exact m)
theorem mem_hd {a : Addr} {l : List Addr} : a ∈ a :: l := by simp
theorem mem_tl {a b : Addr} {l : List Addr} (h : a ∈ l) : a ∈ b :: l := List.mem_cons_of_mem _ h
theorem su_nil {F : List Addr} : ∀ x ∈ ([] : List Addr), x ∈ F := fun x h => by cases h
theorem su_cons {F : List Addr} {a : Addr} {l : List Addr} (h : a ∈ F) (k : ∀ x ∈ l, x ∈ F) : ∀ x ∈ a :: l, x ∈ F := fun x hx => by
  rcases List.mem_cons.mp hx with rfl | hx
  · exact h
  · exact k x hx
theorem fr_nil {F : List Addr} {H : Hp} : ∀ x ∈ ([] : List Addr), x ∈ F ∨ H x = none := fun x h => by cases h
theorem fr_cons {F : List Addr} {H : Hp} {a : Addr} {l : List Addr} (h : a ∈ F ∨ H a = none) (k : ∀ x ∈ l, x ∈ F ∨ H x = none) : ∀ x ∈ a :: l, x ∈ F ∨ H x = none := fun x hx => by
  rcases List.mem_cons.mp hx with rfl | hx
  · exact h
  · exact k x hx
theorem Kp.step {F G : List Addr} {H H1 H2 : Hp} (p : Kp F H H1) (k : Kp G H1 H2) (s : ∀ x ∈ G, x ∈ F ∨ H x = Option.none) : Kp F H H2 := fun b o n e => by
  refine k b o (fun m => ?_) (p b o n e)
  rcases s b m with s | s
  · exact n s
  · rw [e] at s; cases s
theorem nn_back {G : List Addr} {H H1 H2 : Hp} {x : Addr} (k : Kp G H1 H2) (n : x ∉ G) (c : H1 x = none → H x = none) : H2 x = none → H x = none := fun e => c (k.none n e)
theorem nn_start {H Hk : Hp} {x : Addr} (n : Hk x = none) (c : Hk x = none → H x = none) : H x = none := c n
theorem newN {H H' : Hp} {p : Addr} {o : HO} (n : H p = none) (e : upd H p o = H') : H' p = some o ∧ Kp [] H H' := by
  subst e
  exact ⟨upd_same, (Kp.refl H).new n⟩
theorem newS {H H' : Hp} {p : Addr} {o : HO} (e : upd H p o = H') : H' p = some o ∧ Kp [p] H H' := by
  subst e
  exact ⟨upd_same, (Kp.refl H).at (by simp)⟩
/-- a join of the ways of a statement -/
theorem tSeq_join {t0 u : TS} {D : Ends} {σ : L2.St} {H : Hp} (W : L2.St → Hp → Prop) (h2 : ∀ σ' H', W σ' H' → u D σ' H') (h1 : ∀ N : TS, (∀ σ' H', W σ' H' → N D σ' H') → tSeq t0 N D σ H) : tSeq t0 u D σ H := h1 u h2
theorem tSeq_join2 {t0 t1 u : TS} {D : Ends} {σ : L2.St} {H : Hp} (W : L2.St → Hp → Prop) (h2 : ∀ σ' H', W σ' H' → u D σ' H') (h1 : ∀ N : TS, (∀ σ' H', W σ' H' → N D σ' H') → tSeq t0 (tSeq t1 N) D σ H) : tSeq t0 (tSeq t1 u) D σ H := h1 u h2
theorem tSeq_join3 {t0 t1 t2 u : TS} {D : Ends} {σ : L2.St} {H : Hp} (W : L2.St → Hp → Prop) (h2 : ∀ σ' H', W σ' H' → u D σ' H') (h1 : ∀ N : TS, (∀ σ' H', W σ' H' → N D σ' H') → tSeq t0 (tSeq t1 (tSeq t2 N)) D σ H) : tSeq t0 (tSeq t1 (tSeq t2 u)) D σ H := h1 u h2
theorem tSeq_join4 {t0 t1 t2 t3 u : TS} {D : Ends} {σ : L2.St} {H : Hp} (W : L2.St → Hp → Prop) (h2 : ∀ σ' H', W σ' H' → u D σ' H') (h1 : ∀ N : TS, (∀ σ' H', W σ' H' → N D σ' H') → tSeq t0 (tSeq t1 (tSeq t2 (tSeq t3 N))) D σ H) : tSeq t0 (tSeq t1 (tSeq t2 (tSeq t3 u))) D σ H := h1 u h2
theorem tSeq_join5 {t0 t1 t2 t3 t4 u : TS} {D : Ends} {σ : L2.St} {H : Hp} (W : L2.St → Hp → Prop) (h2 : ∀ σ' H', W σ' H' → u D σ' H') (h1 : ∀ N : TS, (∀ σ' H', W σ' H' → N D σ' H') → tSeq t0 (tSeq t1 (tSeq t2 (tSeq t3 (tSeq t4 N)))) D σ H) : tSeq t0 (tSeq t1 (tSeq t2 (tSeq t3 (tSeq t4 u)))) D σ H := h1 u h2
theorem tSeq_join6 {t0 t1 t2 t3 t4 t5 u : TS} {D : Ends} {σ : L2.St} {H : Hp} (W : L2.St → Hp → Prop) (h2 : ∀ σ' H', W σ' H' → u D σ' H') (h1 : ∀ N : TS, (∀ σ' H', W σ' H' → N D σ' H') → tSeq t0 (tSeq t1 (tSeq t2 (tSeq t3 (tSeq t4 (tSeq t5 N))))) D σ H) : tSeq t0 (tSeq t1 (tSeq t2 (tSeq t3 (tSeq t4 (tSeq t5 u))))) D σ H := h1 u h2
theorem tSeq_join7 {t0 t1 t2 t3 t4 t5 t6 u : TS} {D : Ends} {σ : L2.St} {H : Hp} (W : L2.St → Hp → Prop) (h2 : ∀ σ' H', W σ' H' → u D σ' H') (h1 : ∀ N : TS, (∀ σ' H', W σ' H' → N D σ' H') → tSeq t0 (tSeq t1 (tSeq t2 (tSeq t3 (tSeq t4 (tSeq t5 (tSeq t6 N)))))) D σ H) : tSeq t0 (tSeq t1 (tSeq t2 (tSeq t3 (tSeq t4 (tSeq t5 (tSeq t6 u)))))) D σ H := h1 u h2
theorem tSeq_join8 {t0 t1 t2 t3 t4 t5 t6 t7 u : TS} {D : Ends} {σ : L2.St} {H : Hp} (W : L2.St → Hp → Prop) (h2 : ∀ σ' H', W σ' H' → u D σ' H') (h1 : ∀ N : TS, (∀ σ' H', W σ' H' → N D σ' H') → tSeq t0 (tSeq t1 (tSeq t2 (tSeq t3 (tSeq t4 (tSeq t5 (tSeq t6 (tSeq t7 N))))))) D σ H) : tSeq t0 (tSeq t1 (tSeq t2 (tSeq t3 (tSeq t4 (tSeq t5 (tSeq t6 (tSeq t7 u))))))) D σ H := h1 u h2
theorem tSeq_join9 {t0 t1 t2 t3 t4 t5 t6 t7 t8 u : TS} {D : Ends} {σ : L2.St} {H : Hp} (W : L2.St → Hp → Prop) (h2 : ∀ σ' H', W σ' H' → u D σ' H') (h1 : ∀ N : TS, (∀ σ' H', W σ' H' → N D σ' H') → tSeq t0 (tSeq t1 (tSeq t2 (tSeq t3 (tSeq t4 (tSeq t5 (tSeq t6 (tSeq t7 (tSeq t8 N)))))))) D σ H) : tSeq t0 (tSeq t1 (tSeq t2 (tSeq t3 (tSeq t4 (tSeq t5 (tSeq t6 (tSeq t7 (tSeq t8 u)))))))) D σ H := h1 u h2
theorem tSeq_go {t u : TS} {D : Ends} {σ : L2.St} {H : Hp} (h : t { D with nx := u D } σ H) : tSeq t u D σ H := h
/-! ### data at a value, its cells outside F -/
mutual
inductive Rp (F : List Addr) (H : Hp) : V → PyData → Prop
  | non : Rp F H .non .none
  | bl (b : Bool) : Rp F H (.bl b) (.bool b)
  | int (i : Int) : Rp F H (.int i) (.int i)
  | str (x : Str) : Rp F H (.str x) (.str x)
  | lst {a : Addr} {xs : List V} {ds : List PyData} : H a = some (.lst xs) → a ∉ F → RpA F H xs ds → Rp F H (.ref a) (.list ds)
  | tup {a : Addr} {xs : List V} {ds : List PyData} : H a = some (.tup xs) → a ∉ F → RpA F H xs ds → Rp F H (.ref a) (.tuple ds)
inductive RpA (F : List Addr) (H : Hp) : List V → List PyData → Prop
  | nil : RpA F H [] []
  | cons {v : V} {vs : List V} {d : PyData} {ds : List PyData} : Rp F H v d → RpA F H vs ds → RpA F H (v :: vs) (d :: ds)
end
mutual
theorem Rp.map {F F' : List Addr} {H H' : Hp} (f : ∀ a o, a ∉ F → H a = some o → a ∉ F' ∧ H' a = some o) : ∀ (d : PyData) (v : V), Rp F H v d → Rp F' H' v d
  | .none, _, h => by cases h; exact .non
  | .bool b, _, h => by cases h; exact .bl b
  | .int i, _, h => by cases h; exact .int i
  | .str x, _, h => by cases h; exact .str x
  | .list ds, _, h => by
    cases h with
    | lst h1 h2 h3 => exact .lst (f _ _ h2 h1).2 (f _ _ h2 h1).1 (RpA.map f ds _ h3)
  | .tuple ds, _, h => by
    cases h with
    | tup h1 h2 h3 => exact .tup (f _ _ h2 h1).2 (f _ _ h2 h1).1 (RpA.map f ds _ h3)
  | .dict _, _, h => by cases h
theorem RpA.map {F F' : List Addr} {H H' : Hp} (f : ∀ a o, a ∉ F → H a = some o → a ∉ F' ∧ H' a = some o) : ∀ (ds : List PyData) (vs : List V), RpA F H vs ds → RpA F' H' vs ds
  | [], _, h => by cases h; exact .nil
  | d :: ds, _, h => by
    cases h with
    | cons h1 h2 => exact .cons (Rp.map f d _ h1) (RpA.map f ds _ h2)
end
theorem Rp.kp {F G : List Addr} {H H' : Hp} {v : V} {d : PyData} (k : Kp G H H') (s : ∀ x ∈ G, x ∈ F) (h : Rp F H v d) : Rp F H' v d := h.map fun a o n e => ⟨n, k a o (fun m => n (s a m)) e⟩
theorem RpA.kp {F G : List Addr} {H H' : Hp} {v : List V} {d : List PyData} (k : Kp G H H') (s : ∀ x ∈ G, x ∈ F) (h : RpA F H v d) : RpA F H' v d := h.map fun a o n e => ⟨n, k a o (fun m => n (s a m)) e⟩
theorem Rp.less {F G : List Addr} {H : Hp} {v : V} {d : PyData} (s : ∀ x ∈ G, x ∈ F) (h : Rp F H v d) : Rp G H v d := h.map fun a o n e => ⟨fun m => n (s a m), e⟩
theorem RpA.less {F G : List Addr} {H : Hp} {v : List V} {d : List PyData} (s : ∀ x ∈ G, x ∈ F) (h : RpA F H v d) : RpA G H v d := h.map fun a o n e => ⟨fun m => n (s a m), e⟩
/-- a new cell may be kept out, too -/
theorem Rp.more {F : List Addr} {H : Hp} {v : V} {d : PyData} {p : Addr} (n : H p = none) (h : Rp F H v d) : Rp (p :: F) H v d := h.map fun a o m e => ⟨ni_cons (ne_of_none e n) m, e⟩
theorem RpA.more {F : List Addr} {H : Hp} {v : List V} {d : List PyData} {p : Addr} (n : H p = none) (h : RpA F H v d) : RpA (p :: F) H v d := h.map fun a o m e => ⟨ni_cons (ne_of_none e n) m, e⟩
mutual
theorem Rp.dp {K : PySem.W.Frag} {F : List Addr} {H : Hp} : ∀ (d : PyData) (v : V), Rp F H v d → Dp K H v d
  | .none, _, h => by cases h; exact .non
  | .bool b, _, h => by cases h; exact .bl b
  | .int i, _, h => by cases h; exact .int i
  | .str x, _, h => by cases h; exact .str x
  | .list ds, _, h => by
    cases h with
    | lst h1 h2 h3 => exact .lst (SqL.of h1) (RpA.dp ds _ h3)
  | .tuple ds, _, h => by
    cases h with
    | tup h1 h2 h3 => exact .tup (SqT.of h1) (RpA.dp ds _ h3)
  | .dict _, _, h => by cases h
theorem RpA.dp {K : PySem.W.Frag} {F : List Addr} {H : Hp} : ∀ (ds : List PyData) (vs : List V), RpA F H vs ds → DpAll K H vs ds
  | [], _, h => by cases h; exact .nil
  | d :: ds, _, h => by
    cases h with
    | cons h1 h2 => exact .cons (Rp.dp d _ h1) (RpA.dp ds _ h2)
end
theorem Rp.lst' {F : List Addr} {H : Hp} {v : V} {ds : List PyData} (h : Rp F H v (.list ds)) : ∃ a xs, v = .ref a ∧ H a = some (.lst xs) ∧ a ∉ F ∧ RpA F H xs ds := by
  cases h with
  | lst h1 h2 h3 => exact ⟨_, _, rfl, h1, h2, h3⟩
theorem Rp.tup' {F : List Addr} {H : Hp} {v : V} {ds : List PyData} (h : Rp F H v (.tuple ds)) : ∃ a xs, v = .ref a ∧ H a = some (.tup xs) ∧ a ∉ F ∧ RpA F H xs ds := by
  cases h with
  | tup h1 h2 h3 => exact ⟨_, _, rfl, h1, h2, h3⟩
theorem Rp.str' {F : List Addr} {H : Hp} {v : V} {x : Str} (h : Rp F H v (.str x)) : v = .str x := by cases h; rfl
theorem Rp.int' {F : List Addr} {H : Hp} {v : V} {x : Int} (h : Rp F H v (.int x)) : v = .int x := by cases h; rfl
theorem Rp.bl' {F : List Addr} {H : Hp} {v : V} {x : Bool} (h : Rp F H v (.bool x)) : v = .bl x := by cases h; rfl
theorem Rp.non' {F : List Addr} {H : Hp} {v : V} (h : Rp F H v .none) : v = .non := by cases h; rfl
theorem RpA.len {F : List Addr} {H : Hp} : ∀ {vs : List V} {ds : List PyData}, RpA F H vs ds → vs.length = ds.length
  | _, [], h => by cases h; rfl
  | _, d :: ds, h => by
    cases h with
    | cons h1 h2 => rw [List.length_cons, List.length_cons, RpA.len h2]
theorem RpA.app {F : List Addr} {H : Hp} : ∀ {vs : List V} {ds : List PyData} {vs' : List V} {ds' : List PyData}, RpA F H vs ds → RpA F H vs' ds' → RpA F H (vs ++ vs') (ds ++ ds')
  | _, [], _, _, h, k => by cases h; exact k
  | _, d :: ds, _, _, h, k => by
    cases h with
    | cons h1 h2 => exact .cons h1 (RpA.app h2 k)
theorem RpA.one {F : List Addr} {H : Hp} {v : V} {d : PyData} (h : Rp F H v d) : RpA F H [v] [d] := .cons h .nil
theorem RpA.take {F : List Addr} {H : Hp} (n : Nat) : ∀ {vs : List V} {ds : List PyData}, RpA F H vs ds → RpA F H (vs.take n) (ds.take n) := by
  induction n with
  | zero => intro vs ds h; simpa using RpA.nil
  | succ n ih =>
    intro vs ds h
    cases h with
    | nil => simpa using RpA.nil
    | cons h1 h2 => simpa using RpA.cons h1 (ih h2)
theorem RpA.drop {F : List Addr} {H : Hp} (n : Nat) : ∀ {vs : List V} {ds : List PyData}, RpA F H vs ds → RpA F H (vs.drop n) (ds.drop n) := by
  induction n with
  | zero => intro vs ds h; simpa using h
  | succ n ih =>
    intro vs ds h
    cases h with
    | nil => simpa using RpA.nil
    | cons h1 h2 => simpa using ih h2
theorem RpA.at {F : List Addr} {H : Hp} : ∀ {vs : List V} {ds : List PyData} {i : Nat} {d : PyData}, RpA F H vs ds → ds[i]? = some d → ∃ v, vs[i]? = some v ∧ Rp F H v d
  | _, [], i, d, h, e => by simp at e
  | _, d :: ds, 0, d', h, e => by
    cases h with
    | cons h1 h2 => simp at e; subst e; exact ⟨_, rfl, h1⟩
  | _, d :: ds, i + 1, d', h, e => by
    cases h with
    | cons h1 h2 =>
      obtain ⟨v, hv, r⟩ := RpA.at h2 (i := i) (d := d') (by simpa using e)
      exact ⟨v, by simpa using hv, r⟩
theorem RpA.at' {F : List Addr} {H : Hp} {vs : List V} {ds : List PyData} {i : Nat} {v : V} (h : RpA F H vs ds) (e : vs[i]? = some v) : ∃ d, ds[i]? = some d ∧ Rp F H v d := by
  have hl := h.len
  have hi := (List.getElem?_eq_some_iff.mp e).1
  obtain ⟨v', e', r⟩ := h.at (i := i) (List.getElem?_eq_getElem (by omega))
  rw [e] at e'
  cases e'
  exact ⟨_, List.getElem?_eq_getElem (by omega), r⟩
theorem RpA.rep {F : List Addr} {H : Hp} {v : V} {d : PyData} (h : Rp F H v d) (n : Nat) : RpA F H (List.replicate n v) (List.replicate n d) := by
  induction n with
  | zero => exact .nil
  | succ n ih => exact .cons h ih
/-- texts -/
abbrev tV (l : List Nat) : V := .str (SX.S l)
abbrev tD (l : List Nat) : PyData := .str (SX.S l)
theorem RpA.strs {F : List Addr} {H : Hp} : ∀ (ls : List (List Nat)), RpA F H (ls.map tV) (ls.map tD)
  | [] => .nil
  | l :: ls => .cons (.str _) (RpA.strs ls)
theorem RpA.strs' {F : List Addr} {H : Hp} : ∀ {ls : List (List Nat)} {vs : List V}, RpA F H vs (ls.map tD) → vs = ls.map tV
  | [], _, h => by cases h; rfl
  | l :: ls, _, h => by
    cases h with
    | cons h1 h2 => rw [h1.str', RpA.strs' h2]; rfl
theorem cutV_none_nat (xs : List V) (k : Nat) : cutV xs none (some (k : Int)) = xs.take k := by
  unfold cutV
  rw [HT.sIx_none, HT.sIx_nat, Nat.sub_zero, List.drop_zero]
  by_cases h : k ≤ xs.length
  · rw [Nat.min_eq_left h]
  · rw [Nat.min_eq_right (by omega), List.take_length, List.take_of_length_le (by omega)]
theorem cutV_nat_none (xs : List V) (k : Nat) : cutV xs (some (k : Int)) none = xs.drop k := by
  unfold cutV
  rw [HT.sIx_none, HT.sIx_nat]
  by_cases h : k ≤ xs.length
  · rw [Nat.min_eq_left h, List.take_of_length_le (by simp)]
  · rw [Nat.min_eq_right (by omega), List.drop_of_length_le (by omega), List.drop_of_length_le (by omega), List.take_nil]
theorem cutV_nat_nat (xs : List V) (s m : Nat) : cutV xs (some (s : Int)) (some (m : Int)) = (xs.take m).drop s := by
  unfold cutV
  rw [HT.sIx_nat, HT.sIx_nat, List.drop_take]
  by_cases h : s ≤ xs.length
  · rw [Nat.min_eq_left h]
    by_cases q : m ≤ xs.length
    · rw [Nat.min_eq_left q]
    · rw [Nat.min_eq_right (show xs.length ≤ m by omega), List.take_of_length_le (by simp), List.take_of_length_le (by simp; omega)]
  · rw [Nat.min_eq_right (show xs.length ≤ s by omega), List.drop_of_length_le (Nat.le_refl _), List.drop_of_length_le (show xs.length ≤ s by omega), List.take_nil, List.take_nil]
end Wh
set_option Elab.async false
set_option linter.all false
set_option maxRecDepth 100000
set_option maxHeartbeats 1000000
/-! list_text. -/
namespace Wh
open PySem L2 PySem.Spec PyProof.Rows
local macro_rules | `(tactic| walk_at "ne") => `(tactic| first | with_reducible assumption | (apply Ne.symm; with_reducible assumption))
local macro_rules | `(tactic| walk_at "hp") => `(tactic| first | with_reducible assumption | with_reducible exact upd_same | ((with_reducible refine (upd_ne ?n).trans ?h); (case n => walk_at "ne"); (case h => walk_at "hp")) | ((with_reducible show upd _ _ _ _ = _); exact upd_same))
local macro_rules | `(tactic| walk_at "cond") => `(tactic| first | with_reducible assumption | exact (rfl : (_ : Bool) = true) | ((try dsimp only) <;> first | with_reducible assumption | decide | omega) | exact ⟨by first | decide | omega | decide +kernel, by first | decide | omega | decide +kernel⟩ | decide +kernel | exact .inr ⟨by decide, by decide⟩ | exact .inl ⟨by decide, by decide⟩)
local macro_rules | `(tactic| walk_at "sq") => `(tactic| first | with_reducible assumption | exact SqL.of (by walk_at "hp"))
local macro_rules | `(tactic| walk_at "sz") => `(tactic| first | with_reducible assumption | (show _ ≤ 16777216; omega))
local macro_rules | `(tactic| walk_at "at") => `(tactic| first | with_reducible assumption | exact atI_nat (by with_reducible assumption) | exact atI_nat (j := 0) (rfl : (_ : Option Nat) = some _) | exact atI_nat (by assumption))
local macro_rules | `(tactic| walk_at "w1") => `(tactic| (fail_if_success with_reducible show @ite _ _ _ _ _); first
  | refine ⟨_, rfl, ?_⟩
  | refine ⟨_, _, (rfl : _ = V.int _), (rfl : _ = V.int _), And.intro (by walk_at "cond") ?_⟩
  | refine ⟨_, _, (rfl : _ = V.int _), (rfl : _ = V.int _), ?_⟩
  | refine ⟨_, _, (rfl : _ = V.str _), (rfl : _ = V.str _), And.intro (by walk_at "sz") ?_⟩
  | refine ⟨_, _, (rfl : _ = V.str _), (rfl : _ = V.str _), ?_⟩
  | refine ⟨_, _, _, _, (rfl : _ = V.ref _), (rfl : _ = V.int _), (by walk_at "sq"), rfl, ?_⟩
  | refine ⟨_, _, _, _, (rfl : _ = V.ref _), (rfl : _ = V.int _), (by walk_at "hp"), rfl, ?_⟩
  | refine ⟨Or.inl ⟨rfl, _, (by walk_at "sq")⟩, ?_⟩
  | refine ⟨_, _, _, (rfl : _ = V.ref _), (rfl : (_ : List V) = _), (by walk_at "hp"), (by with_reducible assumption), ?_⟩
  | refine ⟨_, _, (rfl : (_ : List V) = _), Or.inl ((by walk_at "sq")), ?_⟩
  | refine ⟨_, _, _, _, (rfl : _ = V.ref _), (rfl : _ = V.int _), (by walk_at "sq"), (by walk_at "at"), ?_⟩
  | refine ⟨_, _, _, (rfl : _ = V.str _), (rfl : _ = V.int _), (by walk_at "sz"), (by walk_at "at"), ?_⟩
  | refine ⟨_, _, (rfl : (_ : List V) = [V.str _]), SX.int_S (by assumption) (by simp) (by assumption), (by assumption), ?_⟩
  | refine ⟨_, _, (rfl : (_ : List V) = [_, _]), ?_⟩
  | refine ⟨_, _, (rfl : _ = V.ref _), (by walk_at "sq"), ?_⟩
  | refine ⟨(rfl : (_ : Bool) = true), ?_⟩
  | refine ⟨(rfl : (_ : V) = V.non), ?_⟩
  | refine And.intro (by walk_at "sz") ?_
  | refine ⟨⟨_, (rfl : _ = V.str _)⟩, ?_⟩
  | refine ⟨_, (rfl : _ = V.str _), (rfl : (_ : List V) = _), trivial, ?_⟩
  | refine .inl ⟨_, rfl, ?_⟩)
local macro_rules | `(tactic| walk_at "w") => `(tactic| repeat walk_at "w1")
local macro_rules | `(tactic| walk_at "fld") => `(tactic| (fail_if_success with_reducible show @ite _ _ _ _ _); first
  | refine ⟨_, _, _, _, _, (rfl : _ = V.ref _), (by walk_at "hp"), Txt.cl_Heap _, Txt.nf__shapes _, hz_shapes _, ?_⟩
  | refine ⟨_, _, _, _, _, (rfl : _ = V.ref _), (by walk_at "hp"), Txt.cl_Heap _, Txt.nf__faces _, hz_faces _, ?_⟩
  | refine ⟨_, _, _, _, _, (rfl : _ = V.ref _), (by walk_at "hp"), Txt.cl_Heap _, Txt.nf__firsts _, hz_firsts _, ?_⟩
  | refine ⟨_, _, _, _, _, (rfl : _ = V.ref _), (by walk_at "hp"), Txt.cl_Heap _, Txt.nf__seconds _, hz_seconds _, ?_⟩
  | refine ⟨_, _, _, _, _, (rfl : _ = V.ref _), (by walk_at "hp"), Txt.cl_Heap _, Txt.nf__hefts _, hz_hefts _, ?_⟩
  | refine ⟨_, _, _, _, _, (rfl : _ = V.ref _), (by walk_at "hp"), Txt.cl_Heap _, Txt.nf__numbers _, hz_numbers _, ?_⟩
  | refine ⟨_, _, _, _, _, (rfl : _ = V.ref _), (by walk_at "hp"), Txt.cl_Heap _, Txt.nf__names _, hz_names _, ?_⟩
  | refine ⟨_, _, _, _, _, (rfl : _ = V.ref _), (by walk_at "hp"), Txt.cl_Heap _, Txt.nf__pairs _, hz_pairs _, ?_⟩)
local macro_rules | `(tactic| walk_at "wf") => `(tactic| repeat first | walk_at "w1" | walk_at "fld")
section
variable {P : Program} {w : World} {K : PySem.W.Frag} {mg : Str → Option Value} {base : Heap}
def sumN (ws : List (List Nat)) : Nat := (ws.map List.length).sum
theorem sumN_at {ws : List (List Nat)} {i : Nat} {x : List Nat} (h : ws[i]? = some x) : sumN (ws.take (i + 1)) = sumN (ws.take i) + x.length := by
  rw [List.take_add_one, h]; simp [sumN]
theorem sumN_le (ws : List (List Nat)) (i : Nat) : sumN (ws.take i) ≤ sumN ws := by
  have : sumN (ws.take i ++ ws.drop i) = sumN (ws.take i) + sumN (ws.drop i) := by unfold sumN; rw [List.map_append, List.sum_append]
  rw [List.take_append_drop] at this; omega
def RunsTo (t : Tr) (d : List Nat) : Prop := run [] none (tk d) = some ([], some t)
def spLT (K : PySem.W.Frag) : Sp := fun us H Q _ => ∃ (a : Addr) (ts : List Tr) (ds : List (List Nat)), us = [.ref a] ∧ SqL K H a (ds.map tV) ∧ Paired RunsTo ts ds ∧ (∀ t ∈ ts, Pr t) ∧ sumN ds ≤ 1000000 ∧ ds.length ≤ 1000 ∧ (can (mkl ts)).length ≤ 1000000 ∧
  ∀ H', Same H H' → Q (.str (SX.S (can (mkl ts)))) H'
theorem ok_list_text (T : Txt K mg) : FnOk P w K mg base CX0 7 T.a_list_text T.d_list_text ["texts"] (spLT K) := by
  refine T.list_text.fn.ok sc_list_text (fun vs H Q E h => ?_) (fun cdv A outer s H vs Q E hr h => ?_)
  · obtain ⟨a, ts, ds, rfl, _⟩ := h
    rfl
  · obtain ⟨a, ts, ds, rfl, hS, hP, pr, hs, hn, hc, k⟩ := h
    refine ⟨_, (pss_cons (ps_set (i := 1) sc_list_text.nd rfl (Or.inr rfl) (pe_make0 T.mk_Heap (ok_Heap__init (P := P) (w := w) (base := base) T) (hr.mono (by decide)) rfl T.m_Heap T.Heap__init.b .nil pass0))
      (pss_one (ps_ret (pe_call (ok_write (P := P) (w := w) (base := base) T) (hr.mono (by decide)) rfl T.write.mg T.write.fn.kp T.write.b .nil pass0 (pa_cons (pv 1) (pa_cons (pe_meth (pv 1) T.cl_Heap T.Heap_listed.me (ok_Heap_listed (P := P) (w := w) (base := base) T) (hr.mono (by decide)) T.Heap_listed.b .nil pass0 (pa_cons (pe_lc (own := [("text", 2)]) (g := gName 2) (tt := tYes)  rfl sc_list_text.nd (pi_list (pv 0)) (blkOk_by (own := [("text", 2)]) (N := ["texts", "heap", "text"]) (sc := defScope s_list_text) (by decide +kernel)) (fun _ _ _ _ _ => pg_name (i := 2) sc_list_text.nd rfl (Or.inl rfl)) (fun _ _ _ _ _ => pts_nil) (fun _ _ _ _ _ => (pe_call (ok_read (P := P) (w := w) (base := base) T) (hr.mono (by decide)) rfl T.read.mg T.read.fn.kp T.read.b .nil pass0 (pa_cons (pv 1) (pa_cons (pv 2) pa_nil))))) pa_nil)) pa_nil)))))), ?_⟩
    try dsimp only [cxOf, Cx.nox]
    intro x dx nx ndx nex
    refine ⟨x, dx, rfl, upd_same, fun z H1 hz hf hA hk => ⟨rfl, ?_⟩⟩
    have s1 : Same H H1 := fun b o e => hk b o (ne_of_none e nx) (by rw [upd_ne (ne_of_none e nx), upd_ne (ne_of_none e ndx)]; exact e)
    subst hz
    have ob1 := hA.ob
    have fz : ∀ b, b ∈ foot z → H b = none := fun b q => by
      cases e : H b with
      | none => rfl
      | some o =>
        have := hf b q
        rw [upd_ne (ne_of_none e nx), upd_ne (ne_of_none e ndx), e] at this
        cases this
    have hlen := paired_len hP
    walk_at "wf"
    refine ⟨_, _, _, rfl, ob1, hz_no_listed _, ?_⟩
    have hS1 : SqL K H1 a (ds.map tV) := s1.seq hS
    walk_at "wf"
    refine ⟨⟨_, hS1⟩, fun D nD => ?_⟩
    have nDz : D ≠ z.p := fun q => by rw [q, hA.ob] at nD; cases nD
    have nDf := hA.not_foot nD
    have nDH := s1.free nD
    refine lc_it (walk_list (xs := ds.map tV)) (fun j H' => ∃ (ids : List Nat) (G : List Nd), H' D = some (.lst (ivs ids)) ∧ ids.length = j ∧ Paired (Den G) (ts.take j) ids ∧ HA T.C_Heap H' z G G ∧ WF G ∧ G.length ≤ 1 + 4 * sumN (ds.take j) ∧ Same H H') ?_ ?_ ?_ ?_
    · exact ⟨[], [Nd.nil], upd_same, rfl, .nil, hA.new nD, WF.one, by simp, fun b o e => (upd_ne (ne_of_none e nDH)).trans (s1 b o e)⟩
    · rintro j H' _ ⟨_, _, _, _, _, _, _, _, s⟩
      exact s.seq hS
    · rintro j v H4 H5 hj ⟨ids, G, hD, hl, hp, hA4, wf4, le4, s4⟩ ⟨rfl, hv⟩
      rw [List.length_map] at hj
      obtain ⟨d, hd⟩ : ∃ d, ds[j]? = some d := ⟨_, List.getElem?_eq_getElem hj⟩
      have ev : v = .str (SX.S d) := by
        rw [List.getElem?_map, hd] at hv
        exact (Option.some.inj hv).symm
      subst ev
      obtain ⟨t, ht, rt⟩ := paired_at hP hd
      have e1 := sumN_at hd
      have e2 := sumN_le ds (j + 1)
      walk_at "wf"
      refine ⟨rfl, ?_⟩
      walk_at "wf"
      refine ⟨z, G, d, t, rfl, hA4, wf4, by omega, by omega, rt, fun i G' H6 hA6 wf6 ex6 le6 den6 kp6 => ?_⟩
      have hD6 := kp6 D _ nDf hD
      refine ⟨_, hD6, by rw [ivs_len, hl]; show _ < 16777216; omega, ids ++ [i], G', ?_, by simp [hl], ?_, hA6.apart ⟨nDz, nDf⟩, wf6, by omega, fun b o e => (upd_ne (ne_of_none e nDH)).trans (kp6 b o (fun q => by rw [fz b q] at e; cases e) (s4 b o e))⟩
      · unfold ivs; rw [List.map_append]; exact upd_same
      · rw [List.take_add_one, ht]
        exact forall2_snoc (paired_imp (fun t i d => d.mono ex6) hp) den6
    · rintro H4 ⟨ids, G, hD, hl, hp, hA4, wf4, le4, s4⟩
      rw [List.length_map] at hl hp le4
      rw [← hlen, List.take_length] at hp
      rw [List.take_length] at le4
      walk_at "wf"
      refine ⟨z, G, D, ids, ts, rfl, hA4, wf4, SqL.of hD, nDf, hp, by omega, fun i G' H6 hA6 wf6 ex6 le6 den6 kp6 => ?_⟩
      walk_at "wf"
      have pm := mkl_Pr pr
      have hw := (wgt_can pm).2
      refine ⟨z, G', i, mkl ts, rfl, hA6, wf6, den6, pm, by omega, by omega, by omega, fun H7 k7 => ?_⟩
      exact k H7 fun b o e => k7 b o (by simp) (kp6 b o (fun q => by rw [fz b q] at e; cases e) (s4 b o e))
end
end Wh
set_option Elab.async false
set_option linter.all false
set_option maxRecDepth 100000
set_option maxHeartbeats 1000000
/-! The law's words, gaps and lists. -/
namespace Wh
open PySem L2 PySem.Spec PyProof.Rows
local macro_rules | `(tactic| walk_at "ne") => `(tactic| first | with_reducible assumption | (apply Ne.symm; with_reducible assumption))
local macro_rules | `(tactic| walk_at "hp") => `(tactic| first | with_reducible assumption | with_reducible exact upd_same | ((with_reducible refine (upd_ne ?n).trans ?h); (case n => walk_at "ne"); (case h => walk_at "hp")) | ((with_reducible show upd _ _ _ _ = _); exact upd_same))
local macro_rules | `(tactic| walk_at "cond") => `(tactic| first | with_reducible assumption | exact (rfl : (_ : Bool) = true) | ((try dsimp only) <;> first | with_reducible assumption | decide | omega) | exact ⟨by first | decide | omega | decide +kernel, by first | decide | omega | decide +kernel⟩ | decide +kernel | exact .inr ⟨by decide, by decide⟩ | exact .inl ⟨by decide, by decide⟩)
local macro_rules | `(tactic| walk_at "sq") => `(tactic| first | with_reducible assumption | exact SqL.of (by walk_at "hp"))
local macro_rules | `(tactic| walk_at "sz") => `(tactic| first | with_reducible assumption | (show _ ≤ 16777216; omega))
local macro_rules | `(tactic| walk_at "at") => `(tactic| first | with_reducible assumption | exact atI_nat (by with_reducible assumption) | exact atI_nat (j := 0) (rfl : (_ : Option Nat) = some _) | exact atI_nat (by assumption))
local macro_rules | `(tactic| walk_at "w1") => `(tactic| (fail_if_success with_reducible show @ite _ _ _ _ _); first
  | refine ⟨_, rfl, ?_⟩
  | refine ⟨_, _, (rfl : _ = V.int _), (rfl : _ = V.int _), And.intro (by walk_at "cond") ?_⟩
  | refine ⟨_, _, (rfl : _ = V.int _), (rfl : _ = V.int _), ?_⟩
  | refine ⟨_, _, (rfl : _ = V.str _), (rfl : _ = V.str _), And.intro (by walk_at "sz") ?_⟩
  | refine ⟨_, _, (rfl : _ = V.str _), (rfl : _ = V.str _), ?_⟩
  | refine ⟨_, _, _, _, (rfl : _ = V.ref _), (rfl : _ = V.int _), (by walk_at "sq"), rfl, ?_⟩
  | refine ⟨_, _, _, _, (rfl : _ = V.ref _), (rfl : _ = V.int _), (by walk_at "hp"), rfl, ?_⟩
  | refine ⟨Or.inl ⟨rfl, _, (by walk_at "sq")⟩, ?_⟩
  | refine ⟨_, _, _, (rfl : _ = V.ref _), (rfl : (_ : List V) = _), (by walk_at "hp"), (by with_reducible assumption), ?_⟩
  | refine ⟨_, _, (rfl : (_ : List V) = _), Or.inl ((by walk_at "sq")), ?_⟩
  | refine ⟨_, _, _, _, (rfl : _ = V.ref _), (rfl : _ = V.int _), (by walk_at "sq"), (by walk_at "at"), ?_⟩
  | refine ⟨_, _, _, (rfl : _ = V.str _), (rfl : _ = V.int _), (by walk_at "sz"), (by walk_at "at"), ?_⟩
  | refine ⟨_, _, (rfl : (_ : List V) = [V.str _]), SX.int_S (by assumption) (by simp) (by assumption), (by assumption), ?_⟩
  | refine ⟨_, _, (rfl : (_ : List V) = [_, _]), ?_⟩
  | refine ⟨_, _, (rfl : _ = V.ref _), (by walk_at "sq"), ?_⟩
  | refine ⟨(rfl : (_ : Bool) = true), ?_⟩
  | refine ⟨(rfl : (_ : V) = V.non), ?_⟩
  | refine And.intro (by walk_at "sz") ?_
  | refine ⟨⟨_, (rfl : _ = V.str _)⟩, ?_⟩
  | refine ⟨_, (rfl : _ = V.str _), (rfl : (_ : List V) = _), trivial, ?_⟩
  | refine .inl ⟨_, rfl, ?_⟩)
local macro_rules | `(tactic| walk_at "w") => `(tactic| repeat walk_at "w1")
local macro_rules | `(tactic| walk_at "fld") => `(tactic| (fail_if_success with_reducible show @ite _ _ _ _ _); first
  | refine ⟨_, _, _, _, _, (rfl : _ = V.ref _), (by walk_at "hp"), Txt.cl_Heap _, Txt.nf__shapes _, hz_shapes _, ?_⟩
  | refine ⟨_, _, _, _, _, (rfl : _ = V.ref _), (by walk_at "hp"), Txt.cl_Heap _, Txt.nf__faces _, hz_faces _, ?_⟩
  | refine ⟨_, _, _, _, _, (rfl : _ = V.ref _), (by walk_at "hp"), Txt.cl_Heap _, Txt.nf__firsts _, hz_firsts _, ?_⟩
  | refine ⟨_, _, _, _, _, (rfl : _ = V.ref _), (by walk_at "hp"), Txt.cl_Heap _, Txt.nf__seconds _, hz_seconds _, ?_⟩
  | refine ⟨_, _, _, _, _, (rfl : _ = V.ref _), (by walk_at "hp"), Txt.cl_Heap _, Txt.nf__hefts _, hz_hefts _, ?_⟩
  | refine ⟨_, _, _, _, _, (rfl : _ = V.ref _), (by walk_at "hp"), Txt.cl_Heap _, Txt.nf__numbers _, hz_numbers _, ?_⟩
  | refine ⟨_, _, _, _, _, (rfl : _ = V.ref _), (by walk_at "hp"), Txt.cl_Heap _, Txt.nf__names _, hz_names _, ?_⟩
  | refine ⟨_, _, _, _, _, (rfl : _ = V.ref _), (by walk_at "hp"), Txt.cl_Heap _, Txt.nf__pairs _, hz_pairs _, ?_⟩)
local macro_rules | `(tactic| walk_at "wf") => `(tactic| repeat first | walk_at "w1" | walk_at "fld")
section
variable {P : Program} {w : World} {K : PySem.W.Frag} {mg : Str → Option Value} {base : Heap}
theorem Kp.box {H H' : Hp} {b c : Addr} (k : Kp [b] H H') (n : c ≠ b) (h : BoxAt H c) : BoxAt H' c := by
  obtain ⟨x, y, z, e⟩ := h
  exact ⟨x, y, z, k c _ (by simp [n]) e⟩
theorem BoxAt.new {H : Hp} {b p : Addr} {o : HO} (h : BoxAt H b) (n : H p = none) : BoxAt (upd H p o) b := by
  obtain ⟨x, y, z, e⟩ := h
  exact ⟨x, y, z, (upd_ne (ne_of_none e n)).trans e⟩
theorem log_small {n : Nat} (h : n ≤ 9999) : ((n : Int)).natAbs.log2 < 1920 := by
  rw [Int.natAbs_natCast]
  by_cases q : n = 0
  · subst q; decide
  · rw [Nat.log2_lt q]
    exact Nat.lt_of_le_of_lt h (Nat.lt_of_lt_of_le (by decide : 9999 < 2 ^ 14) (Nat.pow_le_pow_right (by decide) (by decide)))
theorem str_at {z : Str} {d : Int} (h0 : 0 ≤ d) (h1 : d < z.cps.toList.length) : ∃ c, atI z.cps.toList d = some c ∧ c ∈ z.cps.toList := by
  obtain ⟨n, rfl⟩ := Int.eq_ofNat_of_zero_le h0
  have hn : n < z.cps.toList.length := by omega
  exact ⟨z.cps.toList[n], atI_nat (List.getElem?_eq_getElem hn), List.getElem_mem hn⟩
/-- a word that stands for an atom -/
def WordOk (l : List Nat) : Prop := ∃ t, Pr t ∧ can t = l ∧ Dr t l ∧ l.length ≤ 12 ∧ l.all isW = true ∧ l ≠ []
theorem WordOk.num {n : Nat} (h : n ≤ 9999) : WordOk (TL.numL n) := ⟨.num n, h, rfl, .num' h, Nat.le_trans (TL.numL_len (k := 4) (by decide) (by omega)) (by decide), digits_W (TL.numL_digits n), TL.numL_ne n⟩
theorem WordOk.nam {l : List Nat} (h : nmOk l = true) : WordOk l := ⟨.nam l, h, rfl, .nam' h, by
  cases l with
  | nil => cases h
  | cons c r => simp only [nmOk, Bool.and_eq_true, decide_eq_true_eq] at h; exact h.1.2, (nm_W h).1, (nm_W h).2⟩
/-! ### gaps -/
theorem isalnum_S {l : List Nat} (h : ∀ c ∈ l, c < 128) : Txt.isalnum (SX.S l) = (decide (0 < l.length) && l.all isW) := by
  have e : ∀ c, c < 128 → Unicode.isAlnum c = isW c := by decide +kernel
  unfold Txt.isalnum
  rw [SX.S_len]
  congr 1
  show (SX.S l).cps.all Unicode.isAlnum = _
  rw [← Array.all_toList]
  show l.all Unicode.isAlnum = l.all isW
  induction l with
  | nil => rfl
  | cons c r ih =>
    rw [List.all_cons, List.all_cons, e c (h c (by simp)), ih fun d hd => h d (by simp [hd])]
def gapsL : List (List Nat) := [[], [], [], [32], [10], [32, 32], [32, 10, 32], [10, 10]]
theorem gaps_eq : ([.str "", .str "", .str "", .str " ", .str "\n", .str "  ", .str " \n ", .str "\n\n"] : List V) = gapsL.map fun l => V.str (SX.S l) := by decide +kernel
theorem S_nil : Str.ofString "" = SX.S [] := by decide +kernel
theorem cut_last (x : List Nat) : cutS (SX.S x) (some (-1)) none = SX.S (x.drop (x.length - 1)) := by
  unfold cutS
  rw [HT.sIx_none, SX.S_len]
  have e : HT.sIx x.length 0 (some (-1)) = x.length - 1 := by
    show (if (-1 : Int) < 0 then (-1 + (x.length : Int)).toNat else min (-1 : Int).toNat x.length) = _
    rw [if_pos (by decide)]; omega
  rw [e]
  congr 2
  exact List.take_of_length_le (by simp)
theorem cut_first (x : List Nat) : cutS (SX.S x) none (some 1) = SX.S (x.take 1) := by
  unfold cutS
  rw [HT.sIx_none, SX.S_len, show (some 1 : Option Int) = some ((1 : Nat) : Int) from rfl, HT.sIx_nat]
  show SX.S ((x.drop 0).take (min 1 x.length - 0)) = _
  rw [List.drop_zero, Nat.sub_zero]
  cases x with
  | nil => rfl
  | cons c r => rw [Nat.min_eq_left (by simp)]
def spGap : Sp := fun vs H Q _ => ∃ (b : Addr) (x y : List Nat), vs = [.ref b, .str (SX.S x), .str (SX.S y)] ∧ BoxAt H b ∧ x.length ≤ 1000000 ∧ y.length ≤ 1000000 ∧ (∀ c ∈ x, c < 128) ∧ (∀ c ∈ y, c < 128) ∧
  ∀ (g : List Nat) (H' : Hp), g.all isB = true → g.length ≤ 3 → (g = [] → sepOk x y) → BoxAt H' b → Kp [b] H H' → Q (.str (SX.S g)) H'
theorem ok_law_gap (T : Txt K mg) : FnOk P w K mg base CX0 2 T.a_law_gap T.d_law_gap ["dress", "before", "after"] spGap := by
  refine T.law_gap.fn.ok sc_law_gap (fun vs H Q E h => ?_) (fun cdv A outer s H vs Q E hr h => ?_)
  · obtain ⟨b, x, y, rfl, _⟩ := h
    rfl
  · obtain ⟨b, x, y, rfl, hb, hx, hy, ax, ay, k⟩ := h
    refine ⟨_, (pss_cons (ps_set (i := 3) sc_law_gap.nd rfl (Or.inl rfl) (pe_ix ix_list (pe_lst (pa_cons pe_str (pa_cons pe_str (pa_cons pe_str (pa_cons pe_str (pa_cons pe_str (pa_cons pe_str (pa_cons pe_str (pa_cons pe_str pa_nil))))))))) (pe_call (ok_law_take (P := P) (w := w) (base := base) T) (hr.mono (by decide)) rfl T.law_take.mg T.law_take.fn.kp T.law_take.b .nil pass0 (pa_cons (pv 0) (pa_cons pe_int pa_nil))) (fun _ _ => rfl)))
      (pss_cons (ps_if (PW.pt (pw_and (pt_cmpR op_eq (pv 3) pe_str (nomark _)) (pw_and (pt_val (pe_m0 PySem.F.slot_str_isalnum PySem.F.type_str_isalnum mt_isalnum (pe_slice sl_str (pv 1) (po_some (pe_un un_neg pe_int)) po_none))) (pw_and1 (pt_val (pe_m0 PySem.F.slot_str_isalnum PySem.F.type_str_isalnum mt_isalnum (pe_slice sl_str (pv 2) po_none (po_some pe_int)))))))) (pss_one (ps_ret (pe_ix ix_list (pe_lst (pa_cons pe_str (pa_cons pe_str pa_nil))) (pe_call (ok_law_take (P := P) (w := w) (base := base) T) (hr.mono (by decide)) rfl T.law_take.mg T.law_take.fn.kp T.law_take.b .nil pass0 (pa_cons (pv 0) (pa_cons pe_int pa_nil))) (fun _ _ => rfl)))) pss_nil)
      (pss_one (ps_ret (pv 3))))), ?_⟩
    try dsimp only [cxOf, Cx.nox]
    walk_at "w"
    have zx : (SX.S x).length ≤ sizeLine := by rw [SX.S_len]; show _ ≤ 16777216; omega
    have zy : (SX.S y).length ≤ sizeLine := by rw [SX.S_len]; show _ ≤ 16777216; omega
    refine ⟨(show 8 ≤ sizeLine by decide), fun p hp => ?_⟩
    have hbp := hb.new (o := .lst [.str "", .str "", .str "", .str " ", .str "\n", .str "  ", .str " \n ", .str "\n\n"]) hp
    have npb : p ≠ b := fun q => by obtain ⟨_, _, _, e⟩ := hb; rw [q, e] at hp; cases hp
    walk_at "w"
    refine ⟨by decide, by decide, fun d H2 a0 a1 hb2 kp2 => ?_⟩
    have hp2 : H2 p = some (.lst [.str "", .str "", .str "", .str " ", .str "\n", .str "  ", .str " \n ", .str "\n\n"]) := kp2 p _ (by simp [npb]) upd_same
    have kk : Kp [b] H H2 := ((Kp.refl H).new hp).trans kp2
    rw [gaps_eq] at hp2
    obtain ⟨g, hg, hgm⟩ : ∃ g, atI (gapsL.map fun l => V.str (SX.S l)) d = some (V.str (SX.S g)) ∧ g ∈ gapsL := by
      obtain ⟨n, rfl⟩ := Int.eq_ofNat_of_zero_le a0
      have hn : n < gapsL.length := by show n < 8; omega
      exact ⟨gapsL[n], atI_nat (by rw [List.getElem?_map, List.getElem?_eq_getElem hn]; rfl), List.getElem_mem hn⟩
    have hgb : g.all isB = true ∧ g.length ≤ 3 := (by decide : ∀ g ∈ gapsL, g.all isB = true ∧ g.length ≤ 3) g hgm
    walk_at "w"
    refine iteD (fun he => ?_) (fun he => ?_)
    · have e0 := (str_eq S_nil).mp he
      subst e0
      walk_at "w"
      rw [cut_last, isalnum_S (fun c hc => ax c (List.mem_of_mem_drop hc))]
      refine ⟨rfl, trivial, ?_⟩
      walk_at "w"
      refine iteB (fun h1 => ?_) (fun h1 => ?_)
      · walk_at "w"
        rw [cut_first, isalnum_S (fun c hc => ay c (List.mem_of_mem_take hc))]
        refine ⟨rfl, trivial, ?_⟩
        walk_at "w"
        refine iteB (fun h2 => ?_) (fun h2 => ?_)
        · walk_at "w"
          refine ⟨(show 2 ≤ sizeLine by decide), fun p2 hpn => ?_⟩
          have hb3 := hb2.new (o := .lst [.str " ", .str "\n"]) hpn
          have npb2 : p2 ≠ b := fun q => by obtain ⟨_, _, _, e⟩ := hb2; rw [q, e] at hpn; cases hpn
          walk_at "w"
          refine ⟨by decide, by decide, fun d2 H4 b0 b1 hb4 kp4 => ?_⟩
          have hp4 : H4 p2 = some (.lst [.str " ", .str "\n"]) := kp4 p2 _ (by simp [npb2]) upd_same
          have k4 := (kk.new' hpn).trans kp4
          have c2 : d2 = 0 ∨ d2 = 1 := by omega
          rcases c2 with rfl | rfl
          · walk_at "w"
            have := k [32] H4 (by decide) (by decide) (fun q => by cases q) hb4 k4
            rw [← S_space] at this; exact this
          · walk_at "w"
            have := k [10] H4 (by decide) (by decide) (fun q => by cases q) hb4 k4
            rw [show SX.S [10] = Str.ofString "\n" from by decide +kernel] at this; exact this
        · walk_at "w"
          refine k [] H2 (by decide) (by decide) (fun _ => .inl fun c hc => ?_) hb2 kk
          cases y with
          | nil => cases hc
          | cons d r =>
            cases hc
            simpa using h2
      · refine iteF ?_
        walk_at "w"
        refine k [] H2 (by decide) (by decide) (fun _ => .inr fun c hc => ?_) hb2 kk
        have e : x.drop (x.length - 1) = [c] := by
          rw [List.getLast?_eq_getElem?] at hc
          obtain ⟨hl, hx⟩ := List.getElem?_eq_some_iff.mp hc
          rw [List.drop_eq_getElem_cons hl, hx, show x.length - 1 + 1 = x.length from by omega, List.drop_length]
        rw [e] at h1
        simpa using h1
    · refine iteF ?_
      walk_at "w"
      exact k g H2 hgb.1 hgb.2 (fun q => absurd ((str_eq S_nil).mpr q) he) hb2 kk
end
end Wh
set_option Elab.async false
set_option linter.all false
set_option maxRecDepth 1000000
set_option maxHeartbeats 10000000
/-! The law's lists of words. -/
namespace Wh
open PySem L2 PySem.Spec PyProof.Rows
local macro_rules | `(tactic| walk_at "ne") => `(tactic| first | with_reducible assumption | (apply Ne.symm; with_reducible assumption))
local macro_rules | `(tactic| walk_at "hp") => `(tactic| first | with_reducible assumption | with_reducible exact upd_same | ((with_reducible refine (upd_ne ?n).trans ?h); (case n => walk_at "ne"); (case h => walk_at "hp")) | ((with_reducible show upd _ _ _ _ = _); exact upd_same))
local macro_rules | `(tactic| walk_at "cond") => `(tactic| first | with_reducible assumption | exact (rfl : (_ : Bool) = true) | ((try dsimp only) <;> first | with_reducible assumption | decide | omega) | exact ⟨by first | decide | omega | decide +kernel, by first | decide | omega | decide +kernel⟩ | decide +kernel | exact .inr ⟨by decide, by decide⟩ | exact .inl ⟨by decide, by decide⟩)
local macro_rules | `(tactic| walk_at "sq") => `(tactic| first | with_reducible assumption | exact SqL.of (by walk_at "hp"))
local macro_rules | `(tactic| walk_at "sz") => `(tactic| first | with_reducible assumption | (show _ ≤ 16777216; omega))
local macro_rules | `(tactic| walk_at "at") => `(tactic| first | with_reducible assumption | exact atI_nat (by with_reducible assumption) | exact atI_nat (j := 0) (rfl : (_ : Option Nat) = some _) | exact atI_nat (by assumption))
local macro_rules | `(tactic| walk_at "w1") => `(tactic| (fail_if_success with_reducible show @ite _ _ _ _ _); first
  | refine ⟨_, rfl, ?_⟩
  | refine ⟨_, _, (rfl : _ = V.int _), (rfl : _ = V.int _), And.intro (by walk_at "cond") ?_⟩
  | refine ⟨_, _, (rfl : _ = V.int _), (rfl : _ = V.int _), ?_⟩
  | refine ⟨_, _, (rfl : _ = V.str _), (rfl : _ = V.str _), And.intro (by walk_at "sz") ?_⟩
  | refine ⟨_, _, (rfl : _ = V.str _), (rfl : _ = V.str _), ?_⟩
  | refine ⟨_, _, _, _, (rfl : _ = V.ref _), (rfl : _ = V.int _), (by walk_at "sq"), rfl, ?_⟩
  | refine ⟨_, _, _, _, (rfl : _ = V.ref _), (rfl : _ = V.int _), (by walk_at "hp"), rfl, ?_⟩
  | refine ⟨Or.inl ⟨rfl, _, (by walk_at "sq")⟩, ?_⟩
  | refine ⟨_, _, _, (rfl : _ = V.ref _), (rfl : (_ : List V) = _), (by walk_at "hp"), (by with_reducible assumption), ?_⟩
  | refine ⟨_, _, (rfl : (_ : List V) = _), Or.inl ((by walk_at "sq")), ?_⟩
  | refine ⟨_, _, _, _, (rfl : _ = V.ref _), (rfl : _ = V.int _), (by walk_at "sq"), (by walk_at "at"), ?_⟩
  | refine ⟨_, _, _, (rfl : _ = V.str _), (rfl : _ = V.int _), (by walk_at "sz"), (by walk_at "at"), ?_⟩
  | refine ⟨_, _, (rfl : (_ : List V) = [V.str _]), SX.int_S (by assumption) (by simp) (by assumption), (by assumption), ?_⟩
  | refine ⟨_, _, (rfl : (_ : List V) = [_, _]), ?_⟩
  | refine ⟨_, _, (rfl : _ = V.ref _), (by walk_at "sq"), ?_⟩
  | refine ⟨(rfl : (_ : Bool) = true), ?_⟩
  | refine ⟨(rfl : (_ : V) = V.non), ?_⟩
  | refine And.intro (by walk_at "sz") ?_
  | refine ⟨⟨_, (rfl : _ = V.str _)⟩, ?_⟩
  | refine ⟨_, (rfl : _ = V.str _), (rfl : (_ : List V) = _), trivial, ?_⟩
  | refine .inl ⟨_, rfl, ?_⟩)
local macro_rules | `(tactic| walk_at "w") => `(tactic| repeat walk_at "w1")
local macro_rules | `(tactic| walk_at "fld") => `(tactic| (fail_if_success with_reducible show @ite _ _ _ _ _); first
  | refine ⟨_, _, _, _, _, (rfl : _ = V.ref _), (by walk_at "hp"), Txt.cl_Heap _, Txt.nf__shapes _, hz_shapes _, ?_⟩
  | refine ⟨_, _, _, _, _, (rfl : _ = V.ref _), (by walk_at "hp"), Txt.cl_Heap _, Txt.nf__faces _, hz_faces _, ?_⟩
  | refine ⟨_, _, _, _, _, (rfl : _ = V.ref _), (by walk_at "hp"), Txt.cl_Heap _, Txt.nf__firsts _, hz_firsts _, ?_⟩
  | refine ⟨_, _, _, _, _, (rfl : _ = V.ref _), (by walk_at "hp"), Txt.cl_Heap _, Txt.nf__seconds _, hz_seconds _, ?_⟩
  | refine ⟨_, _, _, _, _, (rfl : _ = V.ref _), (by walk_at "hp"), Txt.cl_Heap _, Txt.nf__hefts _, hz_hefts _, ?_⟩
  | refine ⟨_, _, _, _, _, (rfl : _ = V.ref _), (by walk_at "hp"), Txt.cl_Heap _, Txt.nf__numbers _, hz_numbers _, ?_⟩
  | refine ⟨_, _, _, _, _, (rfl : _ = V.ref _), (by walk_at "hp"), Txt.cl_Heap _, Txt.nf__names _, hz_names _, ?_⟩
  | refine ⟨_, _, _, _, _, (rfl : _ = V.ref _), (by walk_at "hp"), Txt.cl_Heap _, Txt.nf__pairs _, hz_pairs _, ?_⟩)
local macro_rules | `(tactic| walk_at "wf") => `(tactic| repeat first | walk_at "w1" | walk_at "fld")
section
variable {P : Program} {w : World} {K : PySem.W.Frag} {mg : Str → Option Value} {base : Heap}
theorem wvs_len (ws : List (List Nat)) : (wvs ws).length = ws.length := by unfold wvs; rw [List.length_map]
theorem wvs_at {ws : List (List Nat)} {i : Nat} {x : List Nat} (h : ws[i]? = some x) : (wvs ws)[i]? = some (V.str (SX.S x)) := by
  unfold wvs; rw [List.getElem?_map, h]; rfl
theorem wvs_at' {ws : List (List Nat)} {i : Nat} {x : V} (h : (wvs ws)[i]? = some x) : ∃ l, ws[i]? = some l ∧ x = V.str (SX.S l) := by
  unfold wvs at h; rw [List.getElem?_map] at h
  cases e : ws[i]? with
  | none => rw [e] at h; cases h
  | some l => rw [e] at h; cases h; exact ⟨l, rfl, rfl⟩
def sumL (ws : List (List Nat)) : Nat := (ws.map List.length).sum
theorem sumL_nil : sumL [] = 0 := rfl
theorem sumL_cons (x : List Nat) (r : List (List Nat)) : sumL (x :: r) = x.length + sumL r := by simp [sumL]
theorem sumL_app (a b : List (List Nat)) : sumL (a ++ b) = sumL a + sumL b := by simp [sumL]
theorem sumL_at {ws : List (List Nat)} {i : Nat} {x : List Nat} (h : ws[i]? = some x) : x.length ≤ sumL ws := by
  obtain ⟨hi, rfl⟩ := List.getElem?_eq_some_iff.mp h
  have e : ws = ws.take i ++ ws[i] :: ws.drop (i + 1) := by rw [← List.drop_eq_getElem_cons hi, List.take_append_drop]
  have e2 : sumL ws = sumL (ws.take i) + (ws[i].length + sumL (ws.drop (i + 1))) := by
    rw [← sumL_cons, ← sumL_app, ← e]
  omega
theorem joinL_len : ∀ ws : List (List Nat), (TL.joinL [32] ws).length ≤ sumL ws + ws.length
  | [] => by simp [TL.joinL]
  | p :: l => by
    rw [joinL_cons, List.length_append, sumL_cons]
    have : ∀ m : List (List Nat), (m.flatMap fun q => [32] ++ q).length = sumL m + m.length := fun m => by
      induction m with
      | nil => rfl
      | cons x r ih => rw [List.flatMap_cons, List.length_append, ih, sumL_cons]; simp; omega
    rw [this]; simp; omega
theorem S_lp : Str.ofString "(" = SX.S [40] := by decide +kernel
theorem S_rp : Str.ofString ")" = SX.S [41] := by decide +kernel
theorem S_ap : Str.ofString "'" = SX.S [39] := by decide +kernel
def spLst : Sp := fun vs H Q _ => ∃ (a : Addr) (ws : List (List Nat)), vs = [.ref a] ∧ H a = some (.lst (wvs ws)) ∧ ws.length ≤ 1000 ∧ sumL ws ≤ 1000000 ∧ Q (.str (SX.S (listedL ws))) H
theorem ok_law_listed (T : Txt K mg) : FnOk P w K mg base CX0 1 T.a_law_listed T.d_law_listed ["told"] spLst := by
  refine T.law_listed.fn.ok sc_law_listed (fun vs H Q E h => ?_) (fun cdv A outer s H vs Q E hr h => ?_)
  · obtain ⟨a, ws, rfl, _⟩ := h
    rfl
  · obtain ⟨a, ws, rfl, ha, hl, hs, k⟩ := h
    have zn : (wvs ws).length = ws.length := wvs_len ws
    have fin : ¬ (ws.length = 2 ∧ ws[0]? = some quoL) → ∃ (a_1 : Str) (p : Addr) (ys : List Str), V.str (Str.ofString " ") = .str a_1 ∧ [V.ref a] = [.ref p] ∧ (SqL K H p (ys.map V.str) ∨ SqT K H p (ys.map V.str)) ∧
      (ys.map (·.length)).sum + ys.length * a_1.length ≤ 16777216 ∧ (∃ i j, V.str (Str.ofString "(") = .str i ∧ V.str (Txt.join a_1 ys) = .str j ∧ i.length + j.length ≤ sizeLine ∧ ∃ i' j', V.str (i ++ j) = .str i' ∧ V.str (Str.ofString ")") = .str j' ∧ i'.length + j'.length ≤ sizeLine ∧ Q (.str (i' ++ j')) H) := by
      intro hn
      have e1 : (ws.map SX.S).map (·.length) = ws.map List.length := by
        rw [List.map_map]; exact List.map_congr_left fun x _ => SX.S_len x
      have e : Txt.join (Str.ofString " ") (ws.map SX.S) = SX.S (TL.joinL [32] ws) := by rw [S_space, SX.join_S]
      have jl := joinL_len ws
      have hs' : (ws.map List.length).sum ≤ 1000000 := hs
      have el : listedL ws = [40] ++ TL.joinL [32] ws ++ [41] := by
        unfold listedL; rw [if_neg hn]; simp
      refine ⟨Str.ofString " ", a, ws.map SX.S, rfl, rfl, .inl (SqL.of (by rw [ha]; unfold wvs; rw [List.map_map]; rfl)), ?_, _, _, rfl, rfl, ?_, _, _, rfl, rfl, ?_, ?_⟩
      · rw [e1, List.length_map, show (Str.ofString " ").length = 1 from by decide +kernel]
        omega
      · rw [e, S_lp, SX.S_len, SX.S_len]; show _ ≤ 16777216; simp; omega
      · rw [e, S_lp, S_rp, SX.S_cat, SX.S_len, SX.S_len]; show _ ≤ 16777216; simp; omega
      · rw [e, S_lp, S_rp, SX.S_cat, SX.S_cat, ← el]; exact k
    refine ⟨_, (pss_cons (ps_if (PW.pt (pw_and (pt_cmpR op_eq (pe_callB call_len_seq (by rfl) T.b_len (by decide +kernel) (pa_cons (pv 0) pa_nil)) pe_int (nomark _)) (pw_and1 (pt_cmpR op_eq (pe_ix ix_list (pv 0) pe_int (fun _ _ => rfl)) pe_str (nomark _))))) (pss_one (ps_ret (pe_op op_add_str pe_str (pe_ix ix_list (pv 0) pe_int (fun _ _ => rfl))))) pss_nil)
      (pss_one (ps_ret (pe_op op_add_str (pe_op op_add_str pe_str (pe_join pe_str (pv 0))) pe_str)))), ?_⟩
    try dsimp only [cxOf, Cx.nox]
    walk_at "w"
    refine iteD (fun h1 => ?_) (fun h1 => ?_)
    · have hl2 : ws.length = 2 := by rw [zn] at h1; have := V.int.inj h1; omega
      obtain ⟨x, y, rfl⟩ : ∃ x y, ws = [x, y] := by
        match ws, hl2 with
        | [x, y], _ => exact ⟨x, y, rfl⟩
      have w1 : (wvs [x, y])[0]? = some (.str (SX.S x)) := rfl
      have w2 : (wvs [x, y])[1]? = some (.str (SX.S y)) := rfl
      walk_at "w"
      refine iteD (fun h2 => ?_) (fun h2 => ?_)
      · have e2 : x = quoL := (str_eq S_quote).mp h2
        subst e2
        have z1 : (Str.ofString "'").length + (SX.S y).length ≤ sizeLine := by
          have := sumL_at (ws := [quoL, y]) (i := 1) (x := y) rfl
          rw [S_ap, SX.S_len, SX.S_len]; show _ ≤ 16777216; simp; omega
        walk_at "w"
        rw [S_ap, SX.S_cat]
        exact k
      · walk_at "w"
        exact fin (fun q => h2 ((str_eq S_quote).mpr (Option.some.inj q.2)))
    · refine iteF ?_
      walk_at "w"
      exact fin (fun q => h1 (by rw [zn, q.1]; rfl))
end
end Wh
set_option Elab.async false
set_option linter.all false
set_option maxRecDepth 100000
set_option maxHeartbeats 1000000
/-! The law's dressed lists. -/
namespace Wh
open PySem L2 PySem.Spec PyProof.Rows
local macro_rules | `(tactic| walk_at "ne") => `(tactic| first | with_reducible assumption | (apply Ne.symm; with_reducible assumption))
local macro_rules | `(tactic| walk_at "hp") => `(tactic| first | with_reducible assumption | with_reducible exact upd_same | ((with_reducible refine (upd_ne ?n).trans ?h); (case n => walk_at "ne"); (case h => walk_at "hp")) | ((with_reducible show upd _ _ _ _ = _); exact upd_same))
local macro_rules | `(tactic| walk_at "cond") => `(tactic| first | with_reducible assumption | exact (rfl : (_ : Bool) = true) | ((try dsimp only) <;> first | with_reducible assumption | decide | omega) | exact ⟨by first | decide | omega | decide +kernel, by first | decide | omega | decide +kernel⟩ | decide +kernel | exact .inr ⟨by decide, by decide⟩ | exact .inl ⟨by decide, by decide⟩)
local macro_rules | `(tactic| walk_at "sq") => `(tactic| first | with_reducible assumption | exact SqL.of (by walk_at "hp"))
local macro_rules | `(tactic| walk_at "sz") => `(tactic| first | with_reducible assumption | (show _ ≤ 16777216; omega))
local macro_rules | `(tactic| walk_at "at") => `(tactic| first | with_reducible assumption | exact atI_nat (by with_reducible assumption) | exact atI_nat (j := 0) (rfl : (_ : Option Nat) = some _) | exact atI_nat (by assumption))
local macro_rules | `(tactic| walk_at "w1") => `(tactic| (fail_if_success with_reducible show @ite _ _ _ _ _); first
  | refine ⟨_, rfl, ?_⟩
  | refine ⟨_, _, (rfl : _ = V.int _), (rfl : _ = V.int _), And.intro (by walk_at "cond") ?_⟩
  | refine ⟨_, _, (rfl : _ = V.int _), (rfl : _ = V.int _), ?_⟩
  | refine ⟨_, _, (rfl : _ = V.str _), (rfl : _ = V.str _), And.intro (by walk_at "sz") ?_⟩
  | refine ⟨_, _, (rfl : _ = V.str _), (rfl : _ = V.str _), ?_⟩
  | refine ⟨_, _, _, _, (rfl : _ = V.ref _), (rfl : _ = V.int _), (by walk_at "sq"), rfl, ?_⟩
  | refine ⟨_, _, _, _, (rfl : _ = V.ref _), (rfl : _ = V.int _), (by walk_at "hp"), rfl, ?_⟩
  | refine ⟨Or.inl ⟨rfl, _, (by walk_at "sq")⟩, ?_⟩
  | refine ⟨_, _, _, (rfl : _ = V.ref _), (rfl : (_ : List V) = _), (by walk_at "hp"), (by with_reducible assumption), ?_⟩
  | refine ⟨_, _, (rfl : (_ : List V) = _), Or.inl ((by walk_at "sq")), ?_⟩
  | refine ⟨_, _, _, _, (rfl : _ = V.ref _), (rfl : _ = V.int _), (by walk_at "sq"), (by walk_at "at"), ?_⟩
  | refine ⟨_, _, _, (rfl : _ = V.str _), (rfl : _ = V.int _), (by walk_at "sz"), (by walk_at "at"), ?_⟩
  | refine ⟨_, _, (rfl : (_ : List V) = [V.str _]), SX.int_S (by assumption) (by simp) (by assumption), (by assumption), ?_⟩
  | refine ⟨_, _, (rfl : (_ : List V) = [_, _]), ?_⟩
  | refine ⟨_, _, (rfl : _ = V.ref _), (by walk_at "sq"), ?_⟩
  | refine ⟨(rfl : (_ : Bool) = true), ?_⟩
  | refine ⟨(rfl : (_ : V) = V.non), ?_⟩
  | refine And.intro (by walk_at "sz") ?_
  | refine ⟨⟨_, (rfl : _ = V.str _)⟩, ?_⟩
  | refine ⟨_, (rfl : _ = V.str _), (rfl : (_ : List V) = _), trivial, ?_⟩
  | refine .inl ⟨_, rfl, ?_⟩)
local macro_rules | `(tactic| walk_at "w") => `(tactic| repeat walk_at "w1")
local macro_rules | `(tactic| walk_at "fld") => `(tactic| (fail_if_success with_reducible show @ite _ _ _ _ _); first
  | refine ⟨_, _, _, _, _, (rfl : _ = V.ref _), (by walk_at "hp"), Txt.cl_Heap _, Txt.nf__shapes _, hz_shapes _, ?_⟩
  | refine ⟨_, _, _, _, _, (rfl : _ = V.ref _), (by walk_at "hp"), Txt.cl_Heap _, Txt.nf__faces _, hz_faces _, ?_⟩
  | refine ⟨_, _, _, _, _, (rfl : _ = V.ref _), (by walk_at "hp"), Txt.cl_Heap _, Txt.nf__firsts _, hz_firsts _, ?_⟩
  | refine ⟨_, _, _, _, _, (rfl : _ = V.ref _), (by walk_at "hp"), Txt.cl_Heap _, Txt.nf__seconds _, hz_seconds _, ?_⟩
  | refine ⟨_, _, _, _, _, (rfl : _ = V.ref _), (by walk_at "hp"), Txt.cl_Heap _, Txt.nf__hefts _, hz_hefts _, ?_⟩
  | refine ⟨_, _, _, _, _, (rfl : _ = V.ref _), (by walk_at "hp"), Txt.cl_Heap _, Txt.nf__numbers _, hz_numbers _, ?_⟩
  | refine ⟨_, _, _, _, _, (rfl : _ = V.ref _), (by walk_at "hp"), Txt.cl_Heap _, Txt.nf__names _, hz_names _, ?_⟩
  | refine ⟨_, _, _, _, _, (rfl : _ = V.ref _), (by walk_at "hp"), Txt.cl_Heap _, Txt.nf__pairs _, hz_pairs _, ?_⟩)
local macro_rules | `(tactic| walk_at "wf") => `(tactic| repeat first | walk_at "w1" | walk_at "fld")
section
variable {P : Program} {w : World} {K : PySem.W.Frag} {mg : Str → Option Value} {base : Heap}
theorem BoxAt.ne_w {H : Hp} {b a : Addr} {ws : List (List Nat)} (h : BoxAt H b) (k : H a = some (.lst (wvs ws))) : a ≠ b := fun e => by
  obtain ⟨g, c, s, e2⟩ := h
  rw [e, e2] at k
  have := HO.lst.inj (Option.some.inj k)
  cases ws with
  | nil => cases this
  | cons x r => cases this
theorem sumL_take {ws : List (List Nat)} {i : Nat} {x : List Nat} (h : ws[i]? = some x) : sumL (ws.take (i + 1)) = sumL (ws.take i) + x.length := by
  rw [List.take_add_one, h, sumL_app]; simp [sumL_cons, sumL_nil]
theorem sumL_take_le (ws : List (List Nat)) (i : Nat) : sumL (ws.take i) ≤ sumL ws := by
  have := sumL_app (ws.take i) (ws.drop i)
  rw [List.take_append_drop] at this; omega
theorem sumL_drop_le (ws : List (List Nat)) (i : Nat) : sumL (ws.drop i) ≤ sumL ws := by
  have := sumL_app (ws.take i) (ws.drop i)
  rw [List.take_append_drop] at this; omega
def spDrs : Sp := fun vs H Q _ => ∃ (b a c : Addr) (ts : List Tr) (ds : List (List Nat)), vs = [.ref b, .ref a, .ref c] ∧ BoxAt H b ∧ H a = some (.lst (wvs (ts.map can))) ∧ H c = some (.lst (wvs ds)) ∧ Paired Dr ts ds ∧ (∀ t ∈ ts, Pr t) ∧ ds.length ≤ 1000 ∧ sumL ds ≤ 100000 ∧
  ∀ (d : List Nat) (H' : Hp), Dr (mkl ts) d → d.length ≤ sumL ds + 3 * ds.length + 8 → BoxAt H' b → Kp [b] H H' → Q (.str (SX.S d)) H'
theorem ok_law_dressed (T : Txt K mg) : FnOk P w K mg base CX0 3 T.a_law_dressed T.d_law_dressed ["dress", "told", "dressed"] spDrs := by
  refine T.law_dressed.fn.ok sc_law_dressed (fun vs H Q E h => ?_) (fun cdv A outer s H vs Q E hr h => ?_)
  · obtain ⟨b, a, c, ts, ds, rfl, _⟩ := h
    rfl
  · obtain ⟨b, a, c, ts, ds, rfl, hb, ha, hc, hP, hpr, hl, hs, k⟩ := h
    have zn : (wvs (ts.map can)).length = ts.length := by rw [wvs_len, List.length_map]
    have hlen := paired_len hP
    have nab := hb.ne_w ha
    have ncb := hb.ne_w hc
    have main : ∀ H1, BoxAt H1 b → Kp [b] H H1 → (tSeq (tAsg (tC (V.str (Str.ofString "("))) (gName 3))
        (tSeq
          (tFor (iList K (tVar 2)) (gName 4)
            (tAsg
              (tOp (fun x y H Q => ∃ i j, x = V.str i ∧ y = V.str j ∧ i.length + j.length ≤ sizeLine ∧ Q (V.str (i ++ j)) H)
                (tOp (fun x y H Q => ∃ i j, x = V.str i ∧ y = V.str j ∧ i.length + j.length ≤ sizeLine ∧ Q (V.str (i ++ j)) H)
                  (tVar 3) (tCall spGap [] E0 (tCons (tVar 0) (tCons (tVar 3) (tCons (tVar 4) tNil)))))
                (tVar 4))
              (gName 3)))
          (tRet
            (tOp (fun x y H Q => ∃ i j, x = V.str i ∧ y = V.str j ∧ i.length + j.length ≤ sizeLine ∧ Q (V.str (i ++ j)) H)
              (tOp (fun x y H Q => ∃ i j, x = V.str i ∧ y = V.str j ∧ i.length + j.length ≤ sizeLine ∧ Q (V.str (i ++ j)) H)
                (tVar 3) (tCall spGap [] E0 (tCons (tVar 0) (tCons (tVar 3) (tCons (tC (V.str (Str.ofString ")"))) tNil)))))
              (tC (V.str (Str.ofString ")"))))))
        { nx := fun x H' => Q V.non H', rt := Q }
        (L2.start [Str.ofString "dress", Str.ofString "told", Str.ofString "dressed", Str.ofString "text", Str.ofString "one"] [V.ref b, V.ref a, V.ref c]) H1) := by
      intro H1 hb1 kp1
      have hc1 : H1 c = some (.lst (wvs ds)) := kp1 c _ (by simp [ncb]) hc
      walk_at "w"
      refine ⟨⟨_, SqL.of hc1⟩, for_it (walk_list (xs := wvs ds)) (fun i σ H2 => (∃ (x : List Nat) (o : Option V), σ = [some (.ref b), some (.ref a), some (.ref c), some (.str (SX.S x)), o] ∧ DrP (ts.take i) x ∧ x.length ≤ 1 + sumL (ds.take i) + 3 * i) ∧ BoxAt H2 b ∧ Kp [b] H H2) ?_ ?_ ?_ ?_⟩
      · exact ⟨⟨[40], none, by rw [← S_lp]; rfl, .nil, by simp [sumL_nil]⟩, hb1, kp1⟩
      · rintro i σ H2 _ ⟨_, _, kp2⟩
        exact SqL.of (kp2 c _ (by simp [ncb]) hc)
      · rintro i v σ H2 H3 hi ⟨⟨x, o, rfl, hx, hxl⟩, hb2, kp2⟩ ⟨rfl, hv⟩
        obtain ⟨d, hd, rfl⟩ := wvs_at' hv
        obtain ⟨t, ht, hdr⟩ := paired_at hP hd
        have s1 := sumL_take hd
        have s2 := sumL_take_le ds (i + 1)
        have hi' : i < ds.length := (List.getElem?_eq_some_iff.mp hd).1
        walk_at "w"
        refine ⟨b, x, d, rfl, hb2, by omega, by omega, hx.asc, hdr.asc, fun g H4 hg hg3 hsep hb4 kp4 => ?_⟩
        have z1 : (SX.S x).length + (SX.S g).length ≤ sizeLine := by rw [SX.S_len, SX.S_len]; show _ ≤ 16777216; omega
        walk_at "w"
        rw [SX.S_cat]
        rw [SX.S_cat]
        refine ⟨by rw [SX.S_len, SX.S_len, List.length_append]; show _ ≤ 16777216; omega, ⟨_, _, rfl, ?_, ?_⟩, hb4, kp2.trans kp4⟩
        · rw [List.take_add_one, ht]
          exact hx.snoc hdr hg hsep
        · rw [List.length_append, List.length_append, s1]; omega
      · rintro σ H2 ⟨⟨x, o, rfl, hx, hxl⟩, hb2, kp2⟩
        rw [wvs_len] at hx hxl
        rw [← hlen, List.take_length] at hx
        rw [List.take_length] at hxl
        walk_at "w"
        refine ⟨b, x, [41], rfl, hb2, by omega, by simp, hx.asc, by decide, fun g H4 hg hg3 _ hb4 kp4 => ?_⟩
        have z1 : (SX.S x).length + (SX.S g).length ≤ sizeLine := by rw [SX.S_len, SX.S_len]; show _ ≤ 16777216; omega
        walk_at "w"
        rw [SX.S_cat, S_rp]
        rw [SX.S_cat]
        refine ⟨by rw [SX.S_len, SX.S_len, List.length_append]; show _ ≤ 16777216; simp; omega, ?_⟩
        refine k _ H4 (hx.close hg) ?_ hb4 (kp2.trans kp4)
        rw [List.length_append, List.length_append]; simp; omega
    refine ⟨_, (pss_cons (ps_if (PW.pt (pw_and (pt_cmpR op_eq (pe_callB call_len_seq (by rfl) T.b_len (by decide +kernel) (pa_cons (pv 1) pa_nil)) pe_int (nomark _)) (pw_and (pt_cmpR op_eq (pe_ix ix_list (pv 1) pe_int (fun _ _ => rfl)) pe_str (nomark _)) (pw_and1 (pt_cmpR op_eq (pe_call (ok_law_take (P := P) (w := w) (base := base) T) (hr.mono (by decide)) rfl T.law_take.mg T.law_take.fn.kp T.law_take.b .nil pass0 (pa_cons (pv 0) (pa_cons pe_int pa_nil))) pe_int (nomark _)))))) (pss_one (ps_ret (pe_op op_add_str (pe_op op_add_str pe_str (pe_call (ok_law_gap (P := P) (w := w) (base := base) T) (hr.mono (by decide)) rfl T.law_gap.mg T.law_gap.fn.kp T.law_gap.b .nil pass0 (pa_cons (pv 0) (pa_cons pe_str (pa_cons (pe_ix ix_list (pv 2) pe_int (fun _ _ => rfl)) pa_nil))))) (pe_ix ix_list (pv 2) pe_int (fun _ _ => rfl))))) pss_nil)
      (pss_cons (ps_set (i := 3) sc_law_dressed.nd rfl (Or.inl rfl) pe_str)
      (pss_cons (ps_for PassesOwn.never rfl (pi_list (pv 2)) (pg_name (i := 4) sc_law_dressed.nd rfl (Or.inl rfl)) (pss_one (ps_set (i := 3) sc_law_dressed.nd rfl (Or.inl rfl) (pe_op op_add_str (pe_op op_add_str (pv 3) (pe_call (ok_law_gap (P := P) (w := w) (base := base) T) (hr.mono (by decide)) rfl T.law_gap.mg T.law_gap.fn.kp T.law_gap.b .nil pass0 (pa_cons (pv 0) (pa_cons (pv 3) (pa_cons (pv 4) pa_nil))))) (pv 4)))))
      (pss_one (ps_ret (pe_op op_add_str (pe_op op_add_str (pv 3) (pe_call (ok_law_gap (P := P) (w := w) (base := base) T) (hr.mono (by decide)) rfl T.law_gap.mg T.law_gap.fn.kp T.law_gap.b .nil pass0 (pa_cons (pv 0) (pa_cons (pv 3) (pa_cons pe_str pa_nil))))) pe_str)))))), ?_⟩
    try dsimp only [cxOf, Cx.nox]
    walk_at "w"
    refine iteD (fun h1 => ?_) (fun h1 => ?_)
    · have hl2 : ts.length = 2 := by rw [zn] at h1; have := V.int.inj h1; omega
      obtain ⟨t0, t1, rfl⟩ : ∃ x y, ts = [x, y] := by
        match ts, hl2 with
        | [x, y], _ => exact ⟨x, y, rfl⟩
      obtain ⟨d0, d1, rfl⟩ : ∃ x y, ds = [x, y] := by
        match ds, hlen with
        | [x, y], _ => exact ⟨x, y, rfl⟩
      have w1 : (wvs ([t0, t1].map can))[0]? = some (.str (SX.S (can t0))) := rfl
      walk_at "w"
      refine iteD (fun h2 => ?_) (fun h2 => ?_)
      · have e2 : can t0 = quoL := (str_eq S_quote).mp h2
        have e3 := isQ_can (can_isQ e2)
        subst e3
        walk_at "w"
        refine ⟨by decide, by decide, fun d2 H2 a0 a1 hb2 kp2 => ?_⟩
        walk_at "w"
        refine iteD (fun h3 => ?_) (fun h3 => ?_)
        · have hc2 : H2 c = some (.lst (wvs [d0, d1])) := kp2 c _ (by simp [ncb]) hc
          have w3 : (wvs [d0, d1])[1]? = some (.str (SX.S d1)) := rfl
          obtain ⟨t, ht, hdr⟩ := paired_at hP (i := 1) (b := d1) rfl
          cases ht
          have s1 := sumL_at (ws := [d0, d1]) (i := 1) (x := d1) rfl
          walk_at "w"
          refine ⟨b, [39], d1, by rw [← S_ap]; rfl, hb2, by simp, by omega, by decide, hdr.asc, fun g H4 hg hg3 hsep hb4 kp4 => ?_⟩
          have hc4 : H4 c = some (.lst (wvs [d0, d1])) := kp4 c _ (by simp [ncb]) hc2
          rw [S_ap]
          refine ⟨_, _, rfl, rfl, by rw [SX.S_len, SX.S_len]; show _ ≤ 16777216; simp; omega, ?_⟩
          walk_at "w"
          rw [SX.S_cat]
          rw [SX.S_cat]
          refine ⟨by rw [SX.S_len, SX.S_len]; show _ ≤ 16777216; simp; omega, ?_⟩
          refine k _ H4 ?_ ?_ hb4 (kp2.trans kp4)
          · have := Dr.quote hdr hg
            show Dr (quo t1) ([39] ++ g ++ d1)
            rw [List.append_assoc]
            exact this
          · simp; omega
        · exact main H2 hb2 kp2
      · exact main H hb (.refl H)
    · exact main H hb (.refl H)
end
end Wh
set_option Elab.async false
set_option linter.all false
set_option maxRecDepth 100000
set_option maxHeartbeats 1000000
/-! The law's names and words. -/
namespace Wh
open PySem L2 PySem.Spec PyProof.Rows
theorem BoxAt.al {H : Hp} {b : Addr} (h : BoxAt H b) : Al H b := by obtain ⟨_, _, _, e⟩ := h; exact .of e
theorem BoxAt.kp' {F : List Addr} {H H' : Hp} {b : Addr} (k : Kp F H H') (n : b ∉ F) (h : BoxAt H b) : BoxAt H' b := by
  obtain ⟨x, y, z, e⟩ := h
  exact ⟨x, y, z, k b _ n e⟩
local macro_rules | `(tactic| walk_at "ne") => `(tactic| first | with_reducible assumption | (apply Ne.symm; with_reducible assumption))
local macro_rules | `(tactic| walk_at "hp") => `(tactic| first | with_reducible assumption | with_reducible exact upd_same | ((with_reducible refine (upd_ne ?n).trans ?h); (case n => walk_at "ne"); (case h => walk_at "hp")) | ((with_reducible show upd _ _ _ _ = _); exact upd_same))
local macro_rules | `(tactic| walk_at "cond") => `(tactic| first | with_reducible assumption | exact (rfl : (_ : Bool) = true) | ((try dsimp only) <;> first | with_reducible assumption | decide | omega) | exact ⟨by first | decide | omega | decide +kernel, by first | decide | omega | decide +kernel⟩ | decide +kernel | exact .inr ⟨by decide, by decide⟩ | exact .inl ⟨by decide, by decide⟩)
local macro_rules | `(tactic| walk_at "sq") => `(tactic| first | with_reducible assumption | exact SqL.of (by walk_at "hp"))
local macro_rules | `(tactic| walk_at "sz") => `(tactic| first | with_reducible assumption | (show _ ≤ 16777216; omega))
local macro_rules | `(tactic| walk_at "at") => `(tactic| first | with_reducible assumption | exact atI_nat (by with_reducible assumption) | exact atI_nat (j := 0) (rfl : (_ : Option Nat) = some _) | exact atI_nat (by assumption))
local macro_rules | `(tactic| walk_at "w1") => `(tactic| (fail_if_success with_reducible show @ite _ _ _ _ _); first
  | refine ⟨_, rfl, ?_⟩
  | refine ⟨_, _, (rfl : _ = V.int _), (rfl : _ = V.int _), And.intro (by walk_at "cond") ?_⟩
  | refine ⟨_, _, (rfl : _ = V.int _), (rfl : _ = V.int _), ?_⟩
  | refine ⟨_, _, (rfl : _ = V.str _), (rfl : _ = V.str _), And.intro (by walk_at "sz") ?_⟩
  | refine ⟨_, _, (rfl : _ = V.str _), (rfl : _ = V.str _), ?_⟩
  | refine ⟨_, _, _, _, (rfl : _ = V.ref _), (rfl : _ = V.int _), (by walk_at "sq"), rfl, ?_⟩
  | refine ⟨_, _, _, _, (rfl : _ = V.ref _), (rfl : _ = V.int _), (by walk_at "hp"), rfl, ?_⟩
  | refine ⟨Or.inl ⟨rfl, _, (by walk_at "sq")⟩, ?_⟩
  | refine ⟨_, _, _, (rfl : _ = V.ref _), (rfl : (_ : List V) = _), (by walk_at "hp"), (by with_reducible assumption), ?_⟩
  | refine ⟨_, _, (rfl : (_ : List V) = _), Or.inl ((by walk_at "sq")), ?_⟩
  | refine ⟨_, _, _, _, (rfl : _ = V.ref _), (rfl : _ = V.int _), (by walk_at "sq"), (by walk_at "at"), ?_⟩
  | refine ⟨_, _, _, (rfl : _ = V.str _), (rfl : _ = V.int _), (by walk_at "sz"), (by walk_at "at"), ?_⟩
  | refine ⟨_, _, (rfl : (_ : List V) = [V.str _]), SX.int_S (by assumption) (by simp) (by assumption), (by assumption), ?_⟩
  | refine ⟨_, _, (rfl : (_ : List V) = [_, _]), ?_⟩
  | refine ⟨_, _, (rfl : _ = V.ref _), (by walk_at "sq"), ?_⟩
  | refine ⟨(rfl : (_ : Bool) = true), ?_⟩
  | refine ⟨(rfl : (_ : V) = V.non), ?_⟩
  | refine And.intro (by walk_at "sz") ?_
  | refine ⟨⟨_, (rfl : _ = V.str _)⟩, ?_⟩
  | refine ⟨_, (rfl : _ = V.str _), (rfl : (_ : List V) = _), trivial, ?_⟩
  | refine .inl ⟨_, rfl, ?_⟩)
local macro_rules | `(tactic| walk_at "w") => `(tactic| repeat walk_at "w1")
local macro_rules | `(tactic| walk_at "fld") => `(tactic| (fail_if_success with_reducible show @ite _ _ _ _ _); first
  | refine ⟨_, _, _, _, _, (rfl : _ = V.ref _), (by walk_at "hp"), Txt.cl_Heap _, Txt.nf__shapes _, hz_shapes _, ?_⟩
  | refine ⟨_, _, _, _, _, (rfl : _ = V.ref _), (by walk_at "hp"), Txt.cl_Heap _, Txt.nf__faces _, hz_faces _, ?_⟩
  | refine ⟨_, _, _, _, _, (rfl : _ = V.ref _), (by walk_at "hp"), Txt.cl_Heap _, Txt.nf__firsts _, hz_firsts _, ?_⟩
  | refine ⟨_, _, _, _, _, (rfl : _ = V.ref _), (by walk_at "hp"), Txt.cl_Heap _, Txt.nf__seconds _, hz_seconds _, ?_⟩
  | refine ⟨_, _, _, _, _, (rfl : _ = V.ref _), (by walk_at "hp"), Txt.cl_Heap _, Txt.nf__hefts _, hz_hefts _, ?_⟩
  | refine ⟨_, _, _, _, _, (rfl : _ = V.ref _), (by walk_at "hp"), Txt.cl_Heap _, Txt.nf__numbers _, hz_numbers _, ?_⟩
  | refine ⟨_, _, _, _, _, (rfl : _ = V.ref _), (by walk_at "hp"), Txt.cl_Heap _, Txt.nf__names _, hz_names _, ?_⟩
  | refine ⟨_, _, _, _, _, (rfl : _ = V.ref _), (by walk_at "hp"), Txt.cl_Heap _, Txt.nf__pairs _, hz_pairs _, ?_⟩)
local macro_rules | `(tactic| walk_at "wf") => `(tactic| repeat first | walk_at "w1" | walk_at "fld")
local macro_rules | `(tactic| walk_at "mem") => `(tactic| first | (first | with_reducible assumption | exact mem_hd | (refine' mem_tl ?h; (case h => walk_at "mem"))) | fail)
local macro_rules | `(tactic| walk_at "ni") => `(tactic| first | (first | with_reducible assumption | exact ni_nil | (refine' ni_cons ?n ?r; (case n => walk_at "ne"); (case r => walk_at "ni"))) | fail)
local macro_rules | `(tactic| walk_at "al") => `(tactic| first | (first | (refine' Al.of ?h; (case h => with_reducible assumption)) | (refine' BoxAt.al ?h; (case h => with_reducible assumption)) | (refine' Al.kp ?k ?n ?h; (case k => with_reducible assumption); (case n => walk_at "ni"); (case h => walk_at "al"))) | fail)
local macro_rules | `(tactic| walk_at "ne") => `(tactic| first | (first | with_reducible assumption | (apply Ne.symm; with_reducible assumption) | (refine' ne_fr1 ?f ?l; (case f => with_reducible assumption); (case l => walk_at "al")) | (refine' ne_fr2 ?f ?l; (case f => with_reducible assumption); (case l => walk_at "al")) | (refine' ne_nf ?n ?m; (case n => with_reducible assumption); (case m => walk_at "mem")) | (apply Ne.symm; (refine' ne_nf ?n ?m; (case n => with_reducible assumption); (case m => walk_at "mem")))) | fail)
local macro_rules | `(tactic| walk_at "hp") => `(tactic| first | (first | with_reducible assumption | (refine' Kp.look ?k ?n ?h; (case k => with_reducible assumption); (case n => walk_at "ni"); (case h => walk_at "hp"))) | fail)
local macro_rules | `(tactic| walk_at "bx") => `(tactic| first | (first | with_reducible assumption | (refine' BoxAt.kp' ?k ?n ?h; (case k => with_reducible assumption); (case n => walk_at "ni"); (case h => walk_at "bx"))) | fail)
local macro_rules | `(tactic| walk_at "sz") => `(tactic| first | (walk_at "bx") | fail)
local macro_rules | `(tactic| walk_at "su") => `(tactic| first | (first | with_reducible assumption | exact su_nil | (refine' su_cons ?a ?b; (case a => walk_at "mem"); (case b => walk_at "su"))) | fail)
local macro_rules | `(tactic| walk_at "rp") => `(tactic| first | (first | with_reducible assumption | (refine' Rp.kp ?k ?s ?h; (case k => with_reducible assumption); (case s => walk_at "su"); (case h => walk_at "rp")) | (refine' RpA.kp ?k ?s ?h; (case k => with_reducible assumption); (case s => walk_at "su"); (case h => walk_at "rp"))) | fail)
local macro_rules | `(tactic| walk_at "nb") => `(tactic| first | (first | exact id | (refine' nn_back ?k ?n ?c; (case k => with_reducible assumption); (case n => walk_at "ni"); (case c => walk_at "nb"))) | fail)
local macro_rules | `(tactic| walk_at "nn") => `(tactic| first | (first | with_reducible assumption | (refine' nn_start ?n ?c; (case n => with_reducible assumption); (case c => walk_at "nb"))) | fail)
local macro_rules | `(tactic| walk_at "fr") => `(tactic| first | (first | exact fr_nil | (refine' fr_cons ?a ?b; (case a => first | (left; walk_at "mem") | (right; walk_at "nn")); (case b => walk_at "fr"))) | fail)
local macro_rules | `(tactic| walk_at "kk") => `(tactic| first | (first | exact Kp.refl _ | with_reducible assumption | (refine' Kp.step ?p ?k ?s; (case k => with_reducible assumption); (case p => walk_at "kk"); (case s => walk_at "fr"))) | fail)
local macro_rules | `(tactic| walk_at "new") => `(tactic| first | ((intro p np; generalize eH : upd _ p _ = H'; have hp := (newN np eH).1; (try dsimp only at hp); (try simp only [cutV_none_nat, cutV_nat_none, cutV_nat_nat, cutV_mid, cutV_mid1, cutV_from2, cutV_from1, cutV_to1, cutV_to3, cutV_tail] at hp); have kp := (newN np eH).2; clear eH)) | fail)
local macro_rules | `(tactic| walk_at "sto") => `(tactic| first | ((generalize eH : upd _ _ _ = H'; obtain ⟨hp, kp⟩ := newS eH; clear eH)) | fail)
local macro_rules | `(tactic| walk_at "w1") => `(tactic| first | ((fail_if_success with_reducible show @ite _ _ _ _ _); first | ((refine ⟨(show _ ≤ sizeLine by (first | exact Nat.le_of_ble_eq_true rfl | (show _ ≤ 16777216; omega))), ?_⟩); walk_at "new") | ((with_reducible show ∀ p, _ = none → _); walk_at "new")) | fail)
local macro_rules | `(tactic| walk_at "v") => `(tactic| first | (repeat ((fail_if_success with_reducible show tSeq (tIfS _ _ _) _ _ _ _); first | walk_at "w1" | walk_at "fld")) | fail)
local macro_rules | `(tactic| walk_at "tk") => `(tactic| first | ((try (refine ⟨(by walk_at "bx"), ?_⟩)); (try (refine ⟨(by first | decide | omega), ?_⟩)); (try (refine ⟨(by first | decide | omega), ?_⟩))) | fail)
local macro_rules | `(tactic| walk_at "sq") => `(tactic| first | (exact SqT.of (by walk_at "hp")) | fail)
local macro_rules | `(tactic| walk_at "szl") => `(tactic| first | (first | exact Nat.le_of_ble_eq_true rfl | (show _ ≤ 16777216; simp only [List.length_append, List.length_take, List.length_drop, List.length_cons, List.length_nil, List.length_map, List.length_replicate]; omega)) | fail)
local macro_rules | `(tactic| walk_at "w1") => `(tactic| first | ((fail_if_success with_reducible show @ite _ _ _ _ _); first | ((refine ⟨_, _, _, _, (rfl : _ = V.ref _), (rfl : _ = V.ref _), (by first | walk_at "hp" | walk_at "sq"), (by first | walk_at "hp" | walk_at "sq"), (by walk_at "szl"), ?_⟩); walk_at "new")) | fail)
local macro_rules | `(tactic| walk_at "szs") => `(tactic| first | (rw [SX.S_len, SX.S_len]; show _ ≤ 16777216; (try simp only [List.length_append, List.length_cons, List.length_nil, repL_len]); omega) | fail)
local macro_rules | `(tactic| walk_at "szm") => `(tactic| first | (rw [SX.S_len]; (try simp only [List.length_append, List.length_cons, List.length_nil, repL_len]); omega) | fail)
section
variable {P : Program} {w : World} {K : PySem.W.Frag} {mg : Str → Option Value} {base : Heap}
def spLName : Sp := fun vs H Q _ => ∃ (b : Addr), vs = [.ref b] ∧ BoxAt H b ∧ ∀ (l : List Nat) (H' : Hp), nmOk l = true → BoxAt H' b → Kp [b] H H' → Q (.str (SX.S l)) H'
theorem ok_law_name (T : Txt K mg) : FnOk P w K mg base CX0 2 T.a_law_name T.d_law_name ["box"] spLName := by
  refine T.law_name.fn.ok sc_law_name (fun vs H Q E h => ?_) (fun cdv A outer s H vs Q E hr h => ?_)
  · obtain ⟨b, rfl, _⟩ := h
    rfl
  · obtain ⟨b, rfl, hb, k⟩ := h
    refine ⟨_, (pss_cons (ps_set (i := 1) sc_law_name.nd rfl (Or.inl rfl) (pe_ix ix_str pe_str (pe_call (ok_law_take (P := P) (w := w) (base := base) T) (hr.mono (by decide)) rfl T.law_take.mg T.law_take.fn.kp T.law_take.b .nil pass0 (pa_cons (pv 0) (pa_cons pe_int pa_nil))) (fun _ _ => rfl)))
      (pss_cons (ps_for PassesOwn.never rfl (pi_range1 (by rfl) T.b_range (pa_cons (pe_call (ok_law_take (P := P) (w := w) (base := base) T) (hr.mono (by decide)) rfl T.law_take.mg T.law_take.fn.kp T.law_take.b .nil pass0 (pa_cons (pv 0) (pa_cons pe_int pa_nil))) pa_nil)) (pg_name (i := 2) sc_law_name.nd rfl (Or.inl rfl)) (pss_one (ps_set (i := 1) sc_law_name.nd rfl (Or.inl rfl) (pe_op op_add_str (pv 1) (pe_ix ix_str pe_str (pe_call (ok_law_take (P := P) (w := w) (base := base) T) (hr.mono (by decide)) rfl T.law_take.mg T.law_take.fn.kp T.law_take.b .nil pass0 (pa_cons (pv 0) (pa_cons pe_int pa_nil))) (fun _ _ => rfl))))))
      (pss_one (ps_ret (pv 1))))), ?_⟩
    try dsimp only [cxOf, Cx.nox]
    walk_at "w"
    refine ⟨by decide, by decide, fun d2 H2 a0 a1 hb2 kp2 => ?_⟩
    have zlow : (Str.ofString "abcdefghijklmnopqrstuvwxyz").length ≤ sizeLine := by decide +kernel
    have znam : (Str.ofString "abcdefghijklmnopqrstuvwxyz0123456789").length ≤ sizeLine := by decide +kernel
    obtain ⟨c, hc, hm⟩ := str_at (z := Str.ofString "abcdefghijklmnopqrstuvwxyz") a0 (by rw [c_lower]; exact a1)
    walk_at "w"
    refine ⟨by decide, by decide, fun d3 H3 b0 b1 hb3 kp3 => ?_⟩
    walk_at "w"
    refine ⟨by omega, by omega, for_it walk_range (fun i σ H4 => (∃ (l : List Nat) (kk : Option V), σ = [some (.ref b), some (.str (SX.S l)), kk] ∧ l.length = i + 1 ∧ (∃ c r, l = c :: r ∧ isLow c = true) ∧ l.all isNs = true) ∧ BoxAt H4 b ∧ Kp [b] H H4) ?_ (fun _ _ _ _ _ => trivial) ?_ ?_⟩
    · exact ⟨⟨[c], none, rfl, rfl, ⟨c, [], rfl, (mem_lower c).mp hm⟩, by simp [isNs, (mem_lower c).mp hm]⟩, hb3, kp2.trans kp3⟩
    · rintro i x σ H4 H5 hi ⟨⟨l, kk, rfl, hl, ⟨c0, r0, el, lo⟩, hns⟩, hb4, kp4⟩ ⟨rfl, rfl⟩
      have hi' : i < 12 := by omega
      walk_at "w"
      refine ⟨by decide, by decide, fun d4 H6 f0 f1 hb6 kp6 => ?_⟩
      obtain ⟨c2, hc2, hm2⟩ := str_at (z := Str.ofString "abcdefghijklmnopqrstuvwxyz0123456789") f0 (by rw [c_names]; exact f1)
      have zl : (SX.S l).length + (⟨#[c2]⟩ : Str).length ≤ sizeLine := by rw [SX.S_len]; show _ + 1 ≤ 16777216; omega
      walk_at "w"
      refine ⟨⟨l ++ [c2], some (.int (0 + (i : Int))), by rw [← SX.S_cat]; rfl, by simp [hl], ⟨c0, r0 ++ [c2], by rw [el]; rfl, lo⟩, by simp [hns, (mem_names c2).mp hm2]⟩, hb6, kp4.trans kp6⟩
    · rintro σ H4 ⟨⟨l, kk, rfl, hl, ⟨c0, r0, el, lo⟩, hns⟩, hb4, kp4⟩
      walk_at "w"
      refine k l H4 ?_ hb4 kp4
      subst el
      have h12 : (c0 :: r0).length ≤ 12 := by omega
      simp only [nmOk, lo, hns, decide_eq_true h12, Bool.and_self]
/-- a row's data -/
def memD (t : Tr) : PyData := if isL t then .list ((spread t).map fun u => tD (can u)) else .none
def rowD (t : Tr) (d : List Nat) : PyData := .tuple [tD (can t), tD d, .int ((wtT t : Nat) : Int), .int ((szT t : Nat) : Int), memD t]
/-- a value and a dress of it -/
structure Row (t : Tr) (d : List Nat) : Prop where
  pr : Pr t
  dr : Dr t d
/-- a word's row -/
def WRow (t : Tr) (l : List Nat) (n : Nat) : Prop := Row t l ∧ can t = l ∧ l.length ≤ 12 ∧ 0 < l.length ∧ isL t = false ∧ wtT t = 1 ∧ szT t = n
abbrev wdV (l : List Nat) (n : Nat) : HO := .tup [tV l, tV l, .int 1, .int (n : Int), .non]
theorem WRow.rp {F : List Addr} {H : Hp} {p : Addr} {t : Tr} {l : List Nat} {n : Nat} (h : WRow t l n) (e : H p = some (wdV l n)) (m : p ∉ F) : Rp F H (.ref p) (rowD t l) := by
  obtain ⟨_, hc, _, _, hL, hw, hs⟩ := h
  unfold rowD memD
  rw [hL, hw, hs, hc]
  exact .tup e m (.cons (.str _) (.cons (.str _) (.cons (.int _) (.cons (.int _) (.cons .non .nil)))))
theorem WRow.num {n : Nat} (h : n ≤ 9999) : WRow (.num n) (TL.numL n) n := by
  have l4 : (TL.numL n).length ≤ 4 := TL.numL_len (by decide) (by omega)
  obtain ⟨c, r, e, _⟩ := numL_head n
  exact ⟨⟨h, .num' h⟩, rfl, by omega, by rw [e]; simp, rfl, rfl, rfl⟩
theorem WRow.nam {l : List Nat} (h : nmOk l = true) : WRow (.nam l) l 0 := by
  refine ⟨⟨h, .nam' h⟩, rfl, ?_, ?_, rfl, rfl, rfl⟩
  · cases l with
    | nil => cases h
    | cons c r => simp only [nmOk, Bool.and_eq_true, decide_eq_true_eq] at h; exact h.1.2
  · cases l with
    | nil => cases h
    | cons c r => simp
def spWord : Sp := fun vs H Q _ => ∃ (b : Addr), vs = [.ref b] ∧ BoxAt H b ∧ ∀ (t : Tr) (l : List Nat) (n : Nat) (p : Addr) (H' : Hp), WRow t l n → H p = none → H' p = some (wdV l n) → BoxAt H' b → Kp [b] H H' → Q (.ref p) H'
theorem ok_law_word (T : Txt K mg) : FnOk P w K mg base CX0 3 T.a_law_word T.d_law_word ["box"] spWord := by
  refine T.law_word.fn.ok sc_law_word (fun vs H Q E h => ?_) (fun cdv A outer s H vs Q E hr h => ?_)
  · obtain ⟨b, rfl, _⟩ := h
    rfl
  · obtain ⟨b, rfl, hb, k⟩ := h
    refine ⟨_, (pss_cons (ps_set (i := 1) sc_law_word.nd rfl (Or.inl rfl) (pe_call (ok_law_take (P := P) (w := w) (base := base) T) (hr.mono (by decide)) rfl T.law_take.mg T.law_take.fn.kp T.law_take.b .nil pass0 (pa_cons (pv 0) (pa_cons pe_int pa_nil))))
      (pss_cons (ps_if (pt_cmpR op_lt (pv 1) pe_int (nomark _)) (pss_cons (ps_set (i := 2) sc_law_word.nd rfl (Or.inl rfl) (pe_call (ok_law_take (P := P) (w := w) (base := base) T) (hr.mono (by decide)) rfl T.law_take.mg T.law_take.fn.kp T.law_take.b .nil pass0 (pa_cons (pv 0) (pa_cons (pe_ix ix_list (pe_lst (pa_cons pe_int (pa_cons pe_int (pa_cons pe_int (pa_cons pe_int pa_nil))))) (pv 1) (fun _ _ => rfl)) pa_nil))))
      (pss_one (ps_ret (pe_tup (pa_cons (pe_callTy call_str_int (by rfl) T.b_str (by decide +kernel) (pa_cons (pv 2) pa_nil)) (pa_cons (pe_callTy call_str_int (by rfl) T.b_str (by decide +kernel) (pa_cons (pv 2) pa_nil)) (pa_cons pe_int (pa_cons (pv 2) (pa_cons pe_non pa_nil))))))))) pss_nil)
      (pss_cons (ps_set (i := 3) sc_law_word.nd rfl (Or.inl rfl) pe_str)
      (pss_cons (ps_if (pt_cmpR op_gt (pv 1) pe_int (nomark _)) (pss_one (ps_set (i := 3) sc_law_word.nd rfl (Or.inl rfl) (pe_call (ok_law_name (P := P) (w := w) (base := base) T) (hr.mono (by decide)) rfl T.law_name.mg T.law_name.fn.kp T.law_name.b .nil pass0 (pa_cons (pv 0) pa_nil)))) pss_nil)
      (pss_one (ps_ret (pe_tup (pa_cons (pv 3) (pa_cons (pv 3) (pa_cons pe_int (pa_cons pe_int (pa_cons pe_non pa_nil)))))))))))), ?_⟩
    try dsimp only [cxOf, Cx.nox]
    refine tSeq_join4 (fun σ H3 => ∃ (l : List Nat) (w : Int) (o : Option V), σ = [some (.ref b), some (.int w), o, some (.str (SX.S l))] ∧ nmOk l = true ∧ BoxAt H3 b ∧ Kp [b] H H3) ?_ (fun N hj => ?_)
    · rintro σ H3 ⟨l, w, o, rfl, hl, hb3, kp3⟩
      walk_at "w"
      exact k _ _ 0 _ _ (.nam hl) (by walk_at "nn") (by show _ = some (HO.tup [_, _, _, V.int 0, _]); walk_at "hp") (by walk_at "bx") (by walk_at "kk")
    walk_at "w"
    refine ⟨by decide, by decide, fun way H1 w0 w1 hb1 kp1 => ?_⟩
    walk_at "w"
    refine iteD (fun h3 => ?_) (fun h3 => ?_)
    · have c4 : way = 0 ∨ way = 1 ∨ way = 2 ∨ way = 3 := by omega
      have fin : ∀ (N d3 : Int) (H3 : Hp), N ≤ 10000 → 0 ≤ d3 → d3 < N → ∃ n : Nat, d3 = (n : Int) ∧ n ≤ 9999 := fun N d3 H3 hN e0 e1 => ⟨d3.toNat, by omega, by omega⟩
      rcases c4 with rfl | rfl | rfl | rfl
      all_goals
        walk_at "w"
        walk_at "tk"
        intro d3 H3 e0 e1 hb3 kp3
        obtain ⟨n, rfl, hn⟩ := fin _ d3 H3 (by decide) e0 e1
        walk_at "w"
        refine ⟨log_small hn, ?_⟩
        rw [SX.num_S]
        walk_at "w"
        refine ⟨log_small hn, ?_⟩
        rw [SX.num_S]
        walk_at "w"
        exact k _ _ n _ _ (.num hn) (by walk_at "nn") (by walk_at "hp") (by walk_at "bx") (by walk_at "kk")
    · walk_at "w"
      refine iteD (fun h4 => ?_) (fun h4 => ?_)
      · walk_at "w"
        intro l H3 hl hb3 kp3
        exact hj _ _ ⟨l, _, _, rfl, hl, hb3, by walk_at "kk"⟩
      · exact hj _ _ ⟨quoL, _, _, by rw [← S_quote]; rfl, by decide, hb1, by walk_at "kk"⟩
end
end Wh
set_option Elab.async false
set_option linter.all false
set_option maxRecDepth 100000
set_option maxHeartbeats 4000000
/-! Comprehensions that map a list. -/
namespace Wh
open PySem L2 PySem.Spec PyProof.Rows
theorem lc_map {K : PySem.W.Frag} {a : Addr} {xs : List V} (ys : List V) {te : TE} {i : Nat} {vs : List Nat} {σ : L2.St} {H : Hp} {Qd : Addr → Hp → Prop} (ha : SqL K H a xs) (hl : xs.length < 16000000) (len : ys.length = xs.length)
    (hw : ∀ x, wipe ((wipe σ vs).set i (some x)) vs = wipe σ vs)
    (item : ∀ (j : Nat) (x y : V) (H' : Hp) (R : VK), xs[j]? = some x → ys[j]? = some y → Kp [] H H' → (∀ H'', Kp [] H' H'' → R y H'') → te ((wipe σ vs).set i (some x)) H' R)
    (k : ∀ (D : Addr) (H' : Hp), H D = none → H' D = some (.lst ys) → Kp [] H H' → Qd D H') :
    (∃ xs, SqL K H a xs) ∧ ∀ D, H D = none → ∃ W : Nat → Nat → Hp → Prop, (∃ m, W 0 m (upd H D (.lst []))) ∧ ∀ i' m H', W i' m H' →
      ((Itl K a).stop i' H' ∧ Qd D H') ∨ ((Itl K a).go i' H' ∧ ∃ Nx : Hp → Prop, (∀ H', Nx H' → ∃ m', m' < m ∧ W (i' + 1) m' H') ∧ ∀ x H'', (Itl K a).yld i' H' x H'' → gName i x (wipe σ vs) H'' fun σ2 H2 => wipe σ2 vs = wipe σ vs ∧ tYes σ2 H2 fun b H3 =>
        if b = true then te σ2 H3 fun y H4 => ∃ acc, H4 D = some (.lst acc) ∧ acc.length < sizeLine ∧ Nx (upd H4 D (.lst (acc ++ [y]))) else Nx H3) := by
  refine ⟨⟨_, ha⟩, fun D nD => ?_⟩
  refine lc_it (walk_list (xs := xs)) (fun j H' => H' D = some (.lst (ys.take j)) ∧ Kp [] H H') ?_ ?_ ?_ ?_
  · exact ⟨upd_same, (Kp.refl H).new nD⟩
  · rintro j H' _ ⟨_, kp⟩
    exact kp.seq (by simp) ha
  · rintro j x H' H'' hj ⟨hD, kp⟩ ⟨rfl, hx⟩
    have hj' : j < ys.length := by omega
    have hy : ys[j]? = some ys[j] := List.getElem?_eq_getElem hj'
    refine ⟨hw x, ?_⟩
    unfold tYes
    refine (if_pos rfl).mpr ?_
    refine item j x ys[j] _ _ hx hy kp fun H3 k3 => ?_
    refine ⟨_, k3 D _ (by simp) hD, by rw [List.length_take]; show _ < 16777216; omega, ?_, (kp.trans k3).new nD⟩
    rw [List.take_add_one, hy]; exact upd_same
  · rintro H' ⟨hD, kp⟩
    rw [← len, List.take_length] at hD
    exact k D H' nD hD kp
theorem flat_one (n : Nat) (x : V) : (List.replicate n [x]).flatten = List.replicate n x := by
  induction n with
  | zero => rfl
  | succ n ih => rw [List.replicate_succ, List.flatten_cons, ih]; rfl
theorem cutV_mid (xs : List V) (s m : Nat) : cutV xs (some (s : Int)) (some ((s : Int) + (m : Int))) = (xs.drop s).take m := by
  rw [show ((s : Int) + (m : Int)) = ((s + m : Nat) : Int) from by omega, cutV_nat_nat, List.drop_take, show s + m - s = m from by omega]
theorem cutV_mid1 (xs : List V) (s : Nat) : cutV xs (some (s : Int)) (some ((s : Int) + 1)) = (xs.drop s).take 1 := cutV_mid xs s 1
theorem cutV_from2 (xs : List V) (s m : Nat) : cutV xs (some ((s : Int) + (m : Int))) none = xs.drop (s + m) := by
  rw [show ((s : Int) + (m : Int)) = ((s + m : Nat) : Int) from by omega, cutV_nat_none]
theorem cutV_from1 (xs : List V) (s : Nat) : cutV xs (some ((s : Int) + 1)) none = xs.drop (s + 1) := cutV_from2 xs s 1
theorem cutV_to1 (xs : List V) : cutV xs none (some 1) = xs.take 1 := cutV_none_nat xs 1
theorem cutV_to3 (xs : List V) : cutV xs none (some 3) = xs.take 3 := cutV_none_nat xs 3
theorem cutV_tail (xs : List V) : cutV xs (some 1) none = xs.drop 1 := cutV_nat_none xs 1
end Wh
set_option Elab.async false
set_option linter.all false
set_option maxRecDepth 100000
set_option maxHeartbeats 1000000
/-! The law's rows. -/
namespace Wh
open PySem L2 PySem.Spec PyProof.Rows
local macro_rules | `(tactic| walk_at "ne") => `(tactic| first | with_reducible assumption | (apply Ne.symm; with_reducible assumption))
local macro_rules | `(tactic| walk_at "hp") => `(tactic| first | with_reducible assumption | with_reducible exact upd_same | ((with_reducible refine (upd_ne ?n).trans ?h); (case n => walk_at "ne"); (case h => walk_at "hp")) | ((with_reducible show upd _ _ _ _ = _); exact upd_same))
local macro_rules | `(tactic| walk_at "cond") => `(tactic| first | with_reducible assumption | exact (rfl : (_ : Bool) = true) | ((try dsimp only) <;> first | with_reducible assumption | decide | omega) | exact ⟨by first | decide | omega | decide +kernel, by first | decide | omega | decide +kernel⟩ | decide +kernel | exact .inr ⟨by decide, by decide⟩ | exact .inl ⟨by decide, by decide⟩)
local macro_rules | `(tactic| walk_at "sq") => `(tactic| first | with_reducible assumption | exact SqL.of (by walk_at "hp"))
local macro_rules | `(tactic| walk_at "sz") => `(tactic| first | with_reducible assumption | (show _ ≤ 16777216; omega))
local macro_rules | `(tactic| walk_at "at") => `(tactic| first | with_reducible assumption | exact atI_nat (by with_reducible assumption) | exact atI_nat (j := 0) (rfl : (_ : Option Nat) = some _) | exact atI_nat (by assumption))
local macro_rules | `(tactic| walk_at "w1") => `(tactic| (fail_if_success with_reducible show @ite _ _ _ _ _); first
  | refine ⟨_, rfl, ?_⟩
  | refine ⟨_, _, (rfl : _ = V.int _), (rfl : _ = V.int _), And.intro (by walk_at "cond") ?_⟩
  | refine ⟨_, _, (rfl : _ = V.int _), (rfl : _ = V.int _), ?_⟩
  | refine ⟨_, _, (rfl : _ = V.str _), (rfl : _ = V.str _), And.intro (by walk_at "sz") ?_⟩
  | refine ⟨_, _, (rfl : _ = V.str _), (rfl : _ = V.str _), ?_⟩
  | refine ⟨_, _, _, _, (rfl : _ = V.ref _), (rfl : _ = V.int _), (by walk_at "sq"), rfl, ?_⟩
  | refine ⟨_, _, _, _, (rfl : _ = V.ref _), (rfl : _ = V.int _), (by walk_at "hp"), rfl, ?_⟩
  | refine ⟨Or.inl ⟨rfl, _, (by walk_at "sq")⟩, ?_⟩
  | refine ⟨_, _, _, (rfl : _ = V.ref _), (rfl : (_ : List V) = _), (by walk_at "hp"), (by with_reducible assumption), ?_⟩
  | refine ⟨_, _, (rfl : (_ : List V) = _), Or.inl ((by walk_at "sq")), ?_⟩
  | refine ⟨_, _, _, _, (rfl : _ = V.ref _), (rfl : _ = V.int _), (by walk_at "sq"), (by walk_at "at"), ?_⟩
  | refine ⟨_, _, _, (rfl : _ = V.str _), (rfl : _ = V.int _), (by walk_at "sz"), (by walk_at "at"), ?_⟩
  | refine ⟨_, _, (rfl : (_ : List V) = [V.str _]), SX.int_S (by assumption) (by simp) (by assumption), (by assumption), ?_⟩
  | refine ⟨_, _, (rfl : (_ : List V) = [_, _]), ?_⟩
  | refine ⟨_, _, (rfl : _ = V.ref _), (by walk_at "sq"), ?_⟩
  | refine ⟨(rfl : (_ : Bool) = true), ?_⟩
  | refine ⟨(rfl : (_ : V) = V.non), ?_⟩
  | refine And.intro (by walk_at "sz") ?_
  | refine ⟨⟨_, (rfl : _ = V.str _)⟩, ?_⟩
  | refine ⟨_, (rfl : _ = V.str _), (rfl : (_ : List V) = _), trivial, ?_⟩
  | refine .inl ⟨_, rfl, ?_⟩)
local macro_rules | `(tactic| walk_at "w") => `(tactic| repeat walk_at "w1")
local macro_rules | `(tactic| walk_at "fld") => `(tactic| (fail_if_success with_reducible show @ite _ _ _ _ _); first
  | refine ⟨_, _, _, _, _, (rfl : _ = V.ref _), (by walk_at "hp"), Txt.cl_Heap _, Txt.nf__shapes _, hz_shapes _, ?_⟩
  | refine ⟨_, _, _, _, _, (rfl : _ = V.ref _), (by walk_at "hp"), Txt.cl_Heap _, Txt.nf__faces _, hz_faces _, ?_⟩
  | refine ⟨_, _, _, _, _, (rfl : _ = V.ref _), (by walk_at "hp"), Txt.cl_Heap _, Txt.nf__firsts _, hz_firsts _, ?_⟩
  | refine ⟨_, _, _, _, _, (rfl : _ = V.ref _), (by walk_at "hp"), Txt.cl_Heap _, Txt.nf__seconds _, hz_seconds _, ?_⟩
  | refine ⟨_, _, _, _, _, (rfl : _ = V.ref _), (by walk_at "hp"), Txt.cl_Heap _, Txt.nf__hefts _, hz_hefts _, ?_⟩
  | refine ⟨_, _, _, _, _, (rfl : _ = V.ref _), (by walk_at "hp"), Txt.cl_Heap _, Txt.nf__numbers _, hz_numbers _, ?_⟩
  | refine ⟨_, _, _, _, _, (rfl : _ = V.ref _), (by walk_at "hp"), Txt.cl_Heap _, Txt.nf__names _, hz_names _, ?_⟩
  | refine ⟨_, _, _, _, _, (rfl : _ = V.ref _), (by walk_at "hp"), Txt.cl_Heap _, Txt.nf__pairs _, hz_pairs _, ?_⟩)
local macro_rules | `(tactic| walk_at "wf") => `(tactic| repeat first | walk_at "w1" | walk_at "fld")
local macro_rules | `(tactic| walk_at "mem") => `(tactic| first | (first | with_reducible assumption | exact mem_hd | (refine' mem_tl ?h; (case h => walk_at "mem"))) | fail)
local macro_rules | `(tactic| walk_at "ni") => `(tactic| first | (first | with_reducible assumption | exact ni_nil | (refine' ni_cons ?n ?r; (case n => walk_at "ne"); (case r => walk_at "ni"))) | fail)
local macro_rules | `(tactic| walk_at "al") => `(tactic| first | (first | (refine' Al.of ?h; (case h => with_reducible assumption)) | (refine' BoxAt.al ?h; (case h => with_reducible assumption)) | (refine' Al.kp ?k ?n ?h; (case k => with_reducible assumption); (case n => walk_at "ni"); (case h => walk_at "al"))) | fail)
local macro_rules | `(tactic| walk_at "ne") => `(tactic| first | (first | with_reducible assumption | (apply Ne.symm; with_reducible assumption) | (refine' ne_fr1 ?f ?l; (case f => with_reducible assumption); (case l => walk_at "al")) | (refine' ne_fr2 ?f ?l; (case f => with_reducible assumption); (case l => walk_at "al")) | (refine' ne_nf ?n ?m; (case n => with_reducible assumption); (case m => walk_at "mem")) | (apply Ne.symm; (refine' ne_nf ?n ?m; (case n => with_reducible assumption); (case m => walk_at "mem")))) | fail)
local macro_rules | `(tactic| walk_at "hp") => `(tactic| first | (first | with_reducible assumption | (refine' Kp.look ?k ?n ?h; (case k => with_reducible assumption); (case n => walk_at "ni"); (case h => walk_at "hp"))) | fail)
local macro_rules | `(tactic| walk_at "bx") => `(tactic| first | (first | with_reducible assumption | (refine' BoxAt.kp' ?k ?n ?h; (case k => with_reducible assumption); (case n => walk_at "ni"); (case h => walk_at "bx"))) | fail)
local macro_rules | `(tactic| walk_at "sz") => `(tactic| first | (walk_at "bx") | fail)
local macro_rules | `(tactic| walk_at "su") => `(tactic| first | (first | with_reducible assumption | exact su_nil | (refine' su_cons ?a ?b; (case a => walk_at "mem"); (case b => walk_at "su"))) | fail)
local macro_rules | `(tactic| walk_at "rp") => `(tactic| first | (first | with_reducible assumption | (refine' Rp.kp ?k ?s ?h; (case k => with_reducible assumption); (case s => walk_at "su"); (case h => walk_at "rp")) | (refine' RpA.kp ?k ?s ?h; (case k => with_reducible assumption); (case s => walk_at "su"); (case h => walk_at "rp"))) | fail)
local macro_rules | `(tactic| walk_at "nb") => `(tactic| first | (first | exact id | (refine' nn_back ?k ?n ?c; (case k => with_reducible assumption); (case n => walk_at "ni"); (case c => walk_at "nb"))) | fail)
local macro_rules | `(tactic| walk_at "nn") => `(tactic| first | (first | with_reducible assumption | (refine' nn_start ?n ?c; (case n => with_reducible assumption); (case c => walk_at "nb"))) | fail)
local macro_rules | `(tactic| walk_at "fr") => `(tactic| first | (first | exact fr_nil | (refine' fr_cons ?a ?b; (case a => first | (left; walk_at "mem") | (right; walk_at "nn")); (case b => walk_at "fr"))) | fail)
local macro_rules | `(tactic| walk_at "kk") => `(tactic| first | (first | exact Kp.refl _ | with_reducible assumption | (refine' Kp.step ?p ?k ?s; (case k => with_reducible assumption); (case p => walk_at "kk"); (case s => walk_at "fr"))) | fail)
local macro_rules | `(tactic| walk_at "new") => `(tactic| first | ((intro p np; generalize eH : upd _ p _ = H'; have hp := (newN np eH).1; (try dsimp only at hp); (try simp only [cutV_none_nat, cutV_nat_none, cutV_nat_nat, cutV_mid, cutV_mid1, cutV_from2, cutV_from1, cutV_to1, cutV_to3, cutV_tail, flat_one, Int.toNat_natCast] at hp); have kp := (newN np eH).2; clear eH)) | fail)
local macro_rules | `(tactic| walk_at "sto") => `(tactic| first | ((generalize eH : upd _ _ _ = H'; obtain ⟨hp, kp⟩ := newS eH; clear eH)) | fail)
local macro_rules | `(tactic| walk_at "w1") => `(tactic| first | ((fail_if_success with_reducible show @ite _ _ _ _ _); first | ((refine ⟨(show _ ≤ sizeLine by (first | exact Nat.le_of_ble_eq_true rfl | (show _ ≤ 16777216; omega))), ?_⟩); walk_at "new") | ((with_reducible show ∀ p, _ = none → _); walk_at "new")) | fail)
local macro_rules | `(tactic| walk_at "v") => `(tactic| first | (repeat ((fail_if_success with_reducible show tSeq (tIfS _ _ _) _ _ _ _); first | walk_at "w1" | walk_at "fld")) | fail)
local macro_rules | `(tactic| walk_at "tk") => `(tactic| first | ((try (refine ⟨(by walk_at "bx"), ?_⟩)); (try (refine ⟨(by first | decide | omega), ?_⟩)); (try (refine ⟨(by first | decide | omega), ?_⟩))) | fail)
local macro_rules | `(tactic| walk_at "sq") => `(tactic| first | (exact SqT.of (by walk_at "hp")) | fail)
local macro_rules | `(tactic| walk_at "szl") => `(tactic| first | (first | exact Nat.le_of_ble_eq_true rfl | (show _ ≤ 16777216; simp only [List.length_append, List.length_take, List.length_drop, List.length_cons, List.length_nil, List.length_map, List.length_replicate]; omega)) | fail)
local macro_rules | `(tactic| walk_at "w1") => `(tactic| first | ((fail_if_success with_reducible show @ite _ _ _ _ _); first | ((refine ⟨_, _, _, _, (rfl : _ = V.ref _), (rfl : _ = V.ref _), (by first | walk_at "hp" | walk_at "sq"), (by first | walk_at "hp" | walk_at "sq"), (by walk_at "szl"), ?_⟩); walk_at "new")) | fail)
local macro_rules | `(tactic| walk_at "szs") => `(tactic| first | (rw [SX.S_len, SX.S_len]; show _ ≤ 16777216; (try simp only [List.length_append, List.length_cons, List.length_nil, repL_len]); omega) | fail)
local macro_rules | `(tactic| walk_at "szm") => `(tactic| first | (rw [SX.S_len]; (try simp only [List.length_append, List.length_cons, List.length_nil, repL_len]); omega) | fail)
local macro_rules | `(tactic| walk_at "sz") => `(tactic| first | (rw [SX.S_len]; show _ ≤ 16777216; omega) | fail)
local macro_rules | `(tactic| walk_at "szr") => `(tactic| first | (show _ ≤ 16777216; simp only [List.length_cons, List.length_nil, Int.toNat_natCast]; omega) | fail)
local macro_rules | `(tactic| walk_at "w1") => `(tactic| first | ((fail_if_success with_reducible show @ite _ _ _ _ _); first | ((refine ⟨_, _, _, (rfl : _ = V.ref _), (rfl : _ = V.int _), (by walk_at "hp"), (by omega), (by omega), (by walk_at "szr"), ?_⟩); walk_at "new")) | fail)
section
variable {P : Program} {w : World} {K : PySem.W.Frag} {mg : Str → Option Value} {base : Heap}
abbrev rowsD (ts : List Tr) (ds : List (List Nat)) : List PyData := List.zipWith rowD ts ds
theorem row_item {F : List Addr} {H : Hp} {x : V} {t : Tr} {d : List Nat} (h : Rp F H x (rowD t d)) : ∃ p m, x = .ref p ∧ H p = some (.tup [tV (can t), tV d, .int ((wtT t : Nat) : Int), .int ((szT t : Nat) : Int), m]) ∧ p ∉ F ∧ Rp F H m (memD t) := by
  obtain ⟨p, xs, rfl, hp, n, hA⟩ := h.tup'
  cases hA with
  | cons h1 hA => cases hA with
    | cons h2 hA => cases hA with
      | cons h3 hA => cases hA with
        | cons h4 hA => cases hA with
          | cons h5 hA =>
            cases hA
            rw [h1.str', h2.str', h3.int', h4.int'] at hp
            exact ⟨p, _, rfl, hp, n, h5⟩
theorem rows_at {F : List Addr} {H : Hp} {vs : List V} : ∀ {ts : List Tr} {ds : List (List Nat)} {j : Nat} {x : V}, RpA F H vs (rowsD ts ds) → Paired Row ts ds → vs[j]? = some x → ∃ t d, ts[j]? = some t ∧ ds[j]? = some d ∧ Rp F H x (rowD t d) ∧ Row t d := by
  intro ts ds j x hA hP hx
  obtain ⟨e, he, r⟩ := hA.at' hx
  unfold rowsD at he
  rw [List.getElem?_zipWith] at he
  cases h1 : ts[j]? with
  | none => rw [h1] at he; simp at he
  | some t =>
    cases h2 : ds[j]? with
    | none => rw [h1, h2] at he; simp at he
    | some d =>
      rw [h1, h2] at he
      simp at he
      obtain ⟨t', ht', rw'⟩ := paired_at hP h2
      rw [h1] at ht'
      cases ht'
      subst he
      exact ⟨t, d, rfl, rfl, r, rw'⟩
theorem wtT_mkl (ts : List Tr) : wtT (mkl ts) = 1 + (ts.map wtT).sum := by
  induction ts with
  | nil => rfl
  | cons t l ih => show wtT t + wtT (mkl l) = _; rw [ih, List.map_cons, List.sum_cons]; omega
theorem szT_mkl (ts : List Tr) : szT (mkl ts) = (ts.map fun t => szT t + 1).sum := by
  induction ts with
  | nil => rfl
  | cons t l ih => show szT t + 1 + szT (mkl l) = _; rw [ih, List.map_cons, List.sum_cons]
theorem cast_sum (l : List Nat) : (l.map fun (n : Nat) => ((n : Nat) : Int)).sum = ((l.sum : Nat) : Int) := by
  induction l with
  | nil => rfl
  | cons x r ih => rw [List.map_cons, List.sum_cons, ih, List.sum_cons]; omega
theorem rows_Pr {ts : List Tr} {ds : List (List Nat)} (h : Paired Row ts ds) : ∀ t ∈ ts, Pr t := by
  induction h with
  | nil => simp
  | cons h r ih =>
    intro t ht
    rcases List.mem_cons.mp ht with rfl | ht
    · exact h.pr
    · exact ih t ht
def spJoin : Sp := fun vs H Q _ => ∃ (b a : Addr) (F : List Addr) (ts : List Tr) (ds : List (List Nat)), vs = [.ref b, .ref a] ∧ BoxAt H b ∧ b ∈ F ∧ (∀ x ∈ F, Al H x) ∧ Rp F H (.ref a) (.list (rowsD ts ds)) ∧ Paired Row ts ds ∧ ds.length ≤ 1000 ∧ sumL (ts.map can) ≤ 100000 ∧ sumL ds ≤ 100000 ∧
  ∀ (p : Addr) (d : List Nat) (H' : Hp), Rp F H' (.ref p) (rowD (mkl ts) d) → Row (mkl ts) d → d.length ≤ sumL ds + 3 * ds.length + 8 → BoxAt H' b → Kp [b] H H' → Q (.ref p) H'
theorem ok_law_joined (T : Txt K mg) : FnOk P w K mg base CX0 4 T.a_law_joined T.d_law_joined ["dress", "rows"] spJoin := by
  refine T.law_joined.fn.ok sc_law_joined (fun vs H Q E h => ?_) (fun cdv A outer s H vs Q E hr h => ?_)
  · obtain ⟨b, a, F, ts, ds, rfl, _⟩ := h
    rfl
  · obtain ⟨b, a, F, ts, ds, rfl, hb, hbF, hF, hR, hP, hl, s1, s2, k⟩ := h
    obtain ⟨a', vs, e, ha, naF, hA⟩ := hR.lst'
    cases e
    have hlen := paired_len hP
    have hvl : vs.length = ts.length := by rw [hA.len, List.length_zipWith]; omega
    have nab := ne_nf naF hbF
    refine ⟨_, (pss_cons (ps_setLc (i := 3) (own := [("row", 2)]) (g := gName 2) (tt := tYes)  rfl sc_law_joined.nd rfl rfl (sw_true rfl rfl rfl (by decide +kernel)) (pi_list (pv 1)) (blkOk_by (own := [("row", 2)]) (N := ["dress", "rows", "row", "told", "text", "weight"]) (sc := defScope s_law_joined) (by decide +kernel)) (fun _ _ _ _ _ => pg_name (i := 2) sc_law_joined.nd rfl (Or.inl rfl)) (fun _ _ _ _ _ => pts_nil) (fun _ _ _ _ _ => (pe_ix (show IxR _ (rIxT K) from ix_tup) (pv 2) pe_int (fun _ _ => rfl))))
      (pss_cons (ps_set (i := 4) sc_law_joined.nd rfl (Or.inl rfl) (pe_call (ok_law_dressed (P := P) (w := w) (base := base) T) (hr.mono (by decide)) rfl T.law_dressed.mg T.law_dressed.fn.kp T.law_dressed.b .nil pass0 (pa_cons (pv 0) (pa_cons (pv 3) (pa_cons (pe_lc (own := [("row", 2)]) (g := gName 2) (tt := tYes)  rfl sc_law_joined.nd (pi_list (pv 1)) (blkOk_by (own := [("row", 2)]) (N := ["dress", "rows", "row", "told", "text", "weight"]) (sc := defScope s_law_joined) (by decide +kernel)) (fun _ _ _ _ _ => pg_name (i := 2) sc_law_joined.nd rfl (Or.inl rfl)) (fun _ _ _ _ _ => pts_nil) (fun _ _ _ _ _ => (pe_ix (show IxR _ (rIxT K) from ix_tup) (pv 2) pe_int (fun _ _ => rfl)))) pa_nil)))))
      (pss_cons (ps_set (i := 5) sc_law_joined.nd rfl (Or.inl rfl) (pe_op op_add pe_int (pe_callB (cr_sum rfl) (by rfl) T.b_sum (by decide +kernel) (pa_cons (pe_lc (own := [("row", 2)]) (g := gName 2) (tt := tYes)  rfl sc_law_joined.nd (pi_list (pv 1)) (blkOk_by (own := [("row", 2)]) (N := ["dress", "rows", "row", "told", "text", "weight"]) (sc := defScope s_law_joined) (by decide +kernel)) (fun _ _ _ _ _ => pg_name (i := 2) sc_law_joined.nd rfl (Or.inl rfl)) (fun _ _ _ _ _ => pts_nil) (fun _ _ _ _ _ => (pe_ix (show IxR _ (rIxT K) from ix_tup) (pv 2) pe_int (fun _ _ => rfl)))) pa_nil))))
      (pss_one (ps_ret (pe_tup (pa_cons (pe_call (ok_law_listed (P := P) (w := w) (base := base) T) (hr.mono (by decide)) rfl T.law_listed.mg T.law_listed.fn.kp T.law_listed.b .nil pass0 (pa_cons (pv 3) pa_nil)) (pa_cons (pv 4) (pa_cons (pv 5) (pa_cons (pe_callB (cr_sum rfl) (by rfl) T.b_sum (by decide +kernel) (pa_cons (pe_lc (own := [("row", 2)]) (g := gName 2) (tt := tYes)  rfl sc_law_joined.nd (pi_list (pv 1)) (blkOk_by (own := [("row", 2)]) (N := ["dress", "rows", "row", "told", "text", "weight"]) (sc := defScope s_law_joined) (by decide +kernel)) (fun _ _ _ _ _ => pg_name (i := 2) sc_law_joined.nd rfl (Or.inl rfl)) (fun _ _ _ _ _ => pts_nil) (fun _ _ _ _ _ => (pe_op op_add (pe_ix (show IxR _ (rIxT K) from ix_tup) (pv 2) pe_int (fun _ _ => rfl)) pe_int))) pa_nil)) (pa_cons (pv 3) pa_nil))))))))))), ?_⟩
    try dsimp only [cxOf, Cx.nox]
    walk_at "w"
    refine lc_map (wvs (ts.map can)) (SqL.of ha) (by omega) (by rw [wvs_len, List.length_map]; omega) (fun _ => rfl) ?_ (fun p3 H3 n3 h3 k3 => ?_)
    · rintro j x y H' R hx hy kp hR
      obtain ⟨t, d, ht, hd, r, _⟩ := rows_at (hA.kp kp su_nil) hP hx
      obtain ⟨p, m, rfl, hp, _, _⟩ := row_item r
      obtain ⟨l, hl, rfl⟩ := wvs_at' hy
      rw [List.getElem?_map, ht] at hl
      cases hl
      walk_at "w"
      exact hR _ (.refl _)
    walk_at "w"
    refine lc_map (wvs ds) (SqL.of (k3 a _ ni_nil ha)) (by omega) (by rw [wvs_len]; omega) (fun _ => rfl) ?_ (fun p4 H4 n4 h4 k4 => ?_)
    · rintro j x y H' R hx hy kp hR
      obtain ⟨t, d, ht, hd, r, _⟩ := rows_at ((hA.kp k3 su_nil).kp kp su_nil) hP hx
      obtain ⟨p, m, rfl, hp, _, _⟩ := row_item r
      obtain ⟨l, hl, rfl⟩ := wvs_at' hy
      rw [hd] at hl
      cases hl
      walk_at "w"
      exact hR _ (.refl _)
    have h34 := k4 p3 _ ni_nil h3
    refine ⟨b, p3, p4, ts, ds, rfl, by walk_at "bx", h34, h4, paired_imp (fun _ _ h => h.dr) hP, rows_Pr hP, hl, s2, fun d H5 hd hdl hb5 k5 => ?_⟩
    walk_at "w"
    refine lc_map ((ts.map fun t => ((wtT t : Nat) : Int)).map V.int) (SqL.of (by walk_at "hp")) (by omega) (by rw [List.length_map, List.length_map]; omega) (fun _ => rfl) ?_ (fun p6 H6 n6 h6 k6 => ?_)
    · rintro j x y H' R hx hy kp hR
      obtain ⟨t, d, ht, hd, r, _⟩ := rows_at (show RpA F H' vs (rowsD ts ds) by walk_at "rp") hP hx
      obtain ⟨p, m, rfl, hp, _, _⟩ := row_item r
      rw [List.getElem?_map, List.getElem?_map, ht] at hy
      cases hy
      walk_at "w"
      exact hR _ (.refl _)
    refine ⟨p6, _, rfl, SqL.of h6, ?_⟩
    walk_at "w"
    refine ⟨p3, ts.map can, rfl, by walk_at "hp", by rw [List.length_map]; omega, by omega, ?_⟩
    rw [listed_can]
    walk_at "w"
    refine lc_map ((ts.map fun t => (((szT t + 1 : Nat)) : Int)).map V.int) (SqL.of (by walk_at "hp")) (by omega) (by rw [List.length_map, List.length_map]; omega) (fun _ => rfl) ?_ (fun p7 H7 n7 h7 k7 => ?_)
    · rintro j x y H' R hx hy kp hR
      obtain ⟨t, d, ht, hd, r, _⟩ := rows_at (show RpA F H' vs (rowsD ts ds) by walk_at "rp") hP hx
      obtain ⟨p, m, rfl, hp, _, _⟩ := row_item r
      rw [List.getElem?_map, List.getElem?_map, ht] at hy
      cases hy
      walk_at "w"
      exact hR _ (.refl _)
    refine ⟨p7, _, rfl, SqL.of h7, ?_⟩
    walk_at "w"
    rename_i p8 np8 H8 h8 k8
    have q1 : (1 + (ts.map fun t => ((wtT t : Nat) : Int)).sum) = ((wtT (mkl ts) : Nat) : Int) := by
      rw [wtT_mkl, show (ts.map fun t => ((wtT t : Nat) : Int)) = (ts.map wtT).map fun (n : Nat) => ((n : Nat) : Int) from by rw [List.map_map]; rfl, cast_sum]; omega
    have q2 : (ts.map fun t => (((szT t + 1 : Nat)) : Int)).sum = ((szT (mkl ts) : Nat) : Int) := by
      rw [szT_mkl, show (ts.map fun t => (((szT t + 1 : Nat)) : Int)) = (ts.map fun t => szT t + 1).map fun (n : Nat) => ((n : Nat) : Int) from by rw [List.map_map]; rfl, cast_sum]
    try dsimp only at h8
    rw [q1, q2] at h8
    have p8F : p8 ∉ F := fun m => hF p8 m (by walk_at "nn")
    have p3F : p3 ∉ F := fun m => hF p3 m n3
    have h38 : H8 p3 = some (.lst (wvs (ts.map can))) := by walk_at "hp"
    refine k p8 d H8 ?_ ⟨mkl_Pr (rows_Pr hP), hd⟩ hdl (by walk_at "bx") (by walk_at "kk")
    refine .tup h8 p8F (.cons (.str _) (.cons (.str _) (.cons (.int _) (.cons (.int _) (.cons ?_ .nil)))))
    unfold memD
    rw [mkl_L, if_pos rfl, spread_mkl]
    have := RpA.strs (F := F) (H := H8) (ts.map can)
    rw [List.map_map (g := tD)] at this
    exact .lst h38 p3F this
end
end Wh
set_option Elab.async false
set_option linter.all false
set_option maxRecDepth 100000
set_option maxHeartbeats 1000000
/-! The law's rows, drawn. -/
namespace Wh
open PySem L2 PySem.Spec PyProof.Rows
local macro_rules | `(tactic| walk_at "ne") => `(tactic| first | with_reducible assumption | (apply Ne.symm; with_reducible assumption))
local macro_rules | `(tactic| walk_at "hp") => `(tactic| first | with_reducible assumption | with_reducible exact upd_same | ((with_reducible refine (upd_ne ?n).trans ?h); (case n => walk_at "ne"); (case h => walk_at "hp")) | ((with_reducible show upd _ _ _ _ = _); exact upd_same))
local macro_rules | `(tactic| walk_at "cond") => `(tactic| first | with_reducible assumption | exact (rfl : (_ : Bool) = true) | ((try dsimp only) <;> first | with_reducible assumption | decide | omega) | exact ⟨by first | decide | omega | decide +kernel, by first | decide | omega | decide +kernel⟩ | decide +kernel | exact .inr ⟨by decide, by decide⟩ | exact .inl ⟨by decide, by decide⟩)
local macro_rules | `(tactic| walk_at "sq") => `(tactic| first | with_reducible assumption | exact SqL.of (by walk_at "hp"))
local macro_rules | `(tactic| walk_at "sz") => `(tactic| first | with_reducible assumption | (show _ ≤ 16777216; omega))
local macro_rules | `(tactic| walk_at "at") => `(tactic| first | with_reducible assumption | exact atI_nat (by with_reducible assumption) | exact atI_nat (j := 0) (rfl : (_ : Option Nat) = some _) | exact atI_nat (by assumption))
local macro_rules | `(tactic| walk_at "w1") => `(tactic| (fail_if_success with_reducible show @ite _ _ _ _ _); first
  | refine ⟨_, rfl, ?_⟩
  | refine ⟨_, _, (rfl : _ = V.int _), (rfl : _ = V.int _), And.intro (by walk_at "cond") ?_⟩
  | refine ⟨_, _, (rfl : _ = V.int _), (rfl : _ = V.int _), ?_⟩
  | refine ⟨_, _, (rfl : _ = V.str _), (rfl : _ = V.str _), And.intro (by walk_at "sz") ?_⟩
  | refine ⟨_, _, (rfl : _ = V.str _), (rfl : _ = V.str _), ?_⟩
  | refine ⟨_, _, _, _, (rfl : _ = V.ref _), (rfl : _ = V.int _), (by walk_at "sq"), rfl, ?_⟩
  | refine ⟨_, _, _, _, (rfl : _ = V.ref _), (rfl : _ = V.int _), (by walk_at "hp"), rfl, ?_⟩
  | refine ⟨Or.inl ⟨rfl, _, (by walk_at "sq")⟩, ?_⟩
  | refine ⟨_, _, _, (rfl : _ = V.ref _), (rfl : (_ : List V) = _), (by walk_at "hp"), (by with_reducible assumption), ?_⟩
  | refine ⟨_, _, (rfl : (_ : List V) = _), Or.inl ((by walk_at "sq")), ?_⟩
  | refine ⟨_, _, _, _, (rfl : _ = V.ref _), (rfl : _ = V.int _), (by walk_at "sq"), (by walk_at "at"), ?_⟩
  | refine ⟨_, _, _, (rfl : _ = V.str _), (rfl : _ = V.int _), (by walk_at "sz"), (by walk_at "at"), ?_⟩
  | refine ⟨_, _, (rfl : (_ : List V) = [V.str _]), SX.int_S (by assumption) (by simp) (by assumption), (by assumption), ?_⟩
  | refine ⟨_, _, (rfl : (_ : List V) = [_, _]), ?_⟩
  | refine ⟨_, _, (rfl : _ = V.ref _), (by walk_at "sq"), ?_⟩
  | refine ⟨(rfl : (_ : Bool) = true), ?_⟩
  | refine ⟨(rfl : (_ : V) = V.non), ?_⟩
  | refine And.intro (by walk_at "sz") ?_
  | refine ⟨⟨_, (rfl : _ = V.str _)⟩, ?_⟩
  | refine ⟨_, (rfl : _ = V.str _), (rfl : (_ : List V) = _), trivial, ?_⟩
  | refine .inl ⟨_, rfl, ?_⟩)
local macro_rules | `(tactic| walk_at "w") => `(tactic| repeat walk_at "w1")
local macro_rules | `(tactic| walk_at "fld") => `(tactic| (fail_if_success with_reducible show @ite _ _ _ _ _); first
  | refine ⟨_, _, _, _, _, (rfl : _ = V.ref _), (by walk_at "hp"), Txt.cl_Heap _, Txt.nf__shapes _, hz_shapes _, ?_⟩
  | refine ⟨_, _, _, _, _, (rfl : _ = V.ref _), (by walk_at "hp"), Txt.cl_Heap _, Txt.nf__faces _, hz_faces _, ?_⟩
  | refine ⟨_, _, _, _, _, (rfl : _ = V.ref _), (by walk_at "hp"), Txt.cl_Heap _, Txt.nf__firsts _, hz_firsts _, ?_⟩
  | refine ⟨_, _, _, _, _, (rfl : _ = V.ref _), (by walk_at "hp"), Txt.cl_Heap _, Txt.nf__seconds _, hz_seconds _, ?_⟩
  | refine ⟨_, _, _, _, _, (rfl : _ = V.ref _), (by walk_at "hp"), Txt.cl_Heap _, Txt.nf__hefts _, hz_hefts _, ?_⟩
  | refine ⟨_, _, _, _, _, (rfl : _ = V.ref _), (by walk_at "hp"), Txt.cl_Heap _, Txt.nf__numbers _, hz_numbers _, ?_⟩
  | refine ⟨_, _, _, _, _, (rfl : _ = V.ref _), (by walk_at "hp"), Txt.cl_Heap _, Txt.nf__names _, hz_names _, ?_⟩
  | refine ⟨_, _, _, _, _, (rfl : _ = V.ref _), (by walk_at "hp"), Txt.cl_Heap _, Txt.nf__pairs _, hz_pairs _, ?_⟩)
local macro_rules | `(tactic| walk_at "wf") => `(tactic| repeat first | walk_at "w1" | walk_at "fld")
local macro_rules | `(tactic| walk_at "mem") => `(tactic| first | (first | with_reducible assumption | exact mem_hd | (refine' mem_tl ?h; (case h => walk_at "mem"))) | fail)
local macro_rules | `(tactic| walk_at "ni") => `(tactic| first | (first | with_reducible assumption | exact ni_nil | (refine' ni_cons ?n ?r; (case n => walk_at "ne"); (case r => walk_at "ni"))) | fail)
local macro_rules | `(tactic| walk_at "al") => `(tactic| first | (first | (refine' Al.of ?h; (case h => with_reducible assumption)) | (refine' BoxAt.al ?h; (case h => with_reducible assumption)) | (refine' Al.kp ?k ?n ?h; (case k => with_reducible assumption); (case n => walk_at "ni"); (case h => walk_at "al"))) | fail)
local macro_rules | `(tactic| walk_at "ne") => `(tactic| first | (first | with_reducible assumption | (apply Ne.symm; with_reducible assumption) | (refine' ne_fr1 ?f ?l; (case f => with_reducible assumption); (case l => walk_at "al")) | (refine' ne_fr2 ?f ?l; (case f => with_reducible assumption); (case l => walk_at "al")) | (refine' ne_nf ?n ?m; (case n => with_reducible assumption); (case m => walk_at "mem")) | (apply Ne.symm; (refine' ne_nf ?n ?m; (case n => with_reducible assumption); (case m => walk_at "mem")))) | fail)
local macro_rules | `(tactic| walk_at "hp") => `(tactic| first | (first | with_reducible assumption | (refine' Kp.look ?k ?n ?h; (case k => with_reducible assumption); (case n => walk_at "ni"); (case h => walk_at "hp"))) | fail)
local macro_rules | `(tactic| walk_at "bx") => `(tactic| first | (first | with_reducible assumption | (refine' BoxAt.kp' ?k ?n ?h; (case k => with_reducible assumption); (case n => walk_at "ni"); (case h => walk_at "bx"))) | fail)
local macro_rules | `(tactic| walk_at "sz") => `(tactic| first | (walk_at "bx") | fail)
local macro_rules | `(tactic| walk_at "su") => `(tactic| first | (first | with_reducible assumption | exact su_nil | (refine' su_cons ?a ?b; (case a => walk_at "mem"); (case b => walk_at "su"))) | fail)
local macro_rules | `(tactic| walk_at "rp") => `(tactic| first | (first | with_reducible assumption | (refine' Rp.kp ?k ?s ?h; (case k => with_reducible assumption); (case s => walk_at "su"); (case h => walk_at "rp")) | (refine' RpA.kp ?k ?s ?h; (case k => with_reducible assumption); (case s => walk_at "su"); (case h => walk_at "rp"))) | fail)
local macro_rules | `(tactic| walk_at "nb") => `(tactic| first | (first | exact id | (refine' nn_back ?k ?n ?c; (case k => with_reducible assumption); (case n => walk_at "ni"); (case c => walk_at "nb"))) | fail)
local macro_rules | `(tactic| walk_at "nn") => `(tactic| first | (first | with_reducible assumption | (refine' nn_start ?n ?c; (case n => with_reducible assumption); (case c => walk_at "nb"))) | fail)
local macro_rules | `(tactic| walk_at "fr") => `(tactic| first | (first | exact fr_nil | (refine' fr_cons ?a ?b; (case a => first | (left; walk_at "mem") | (right; walk_at "nn")); (case b => walk_at "fr"))) | fail)
local macro_rules | `(tactic| walk_at "kk") => `(tactic| first | (first | exact Kp.refl _ | with_reducible assumption | (refine' Kp.step ?p ?k ?s; (case k => with_reducible assumption); (case p => walk_at "kk"); (case s => walk_at "fr"))) | fail)
local macro_rules | `(tactic| walk_at "new") => `(tactic| first | ((intro p np; generalize eH : upd _ p _ = H'; have hp := (newN np eH).1; (try dsimp only at hp); (try simp only [cutV_none_nat, cutV_nat_none, cutV_nat_nat, cutV_mid, cutV_mid1, cutV_from2, cutV_from1, cutV_to1, cutV_to3, cutV_tail, flat_one, Int.toNat_natCast] at hp); have kp := (newN np eH).2; clear eH)) | fail)
local macro_rules | `(tactic| walk_at "sto") => `(tactic| first | ((generalize eH : upd _ _ _ = H'; obtain ⟨hp, kp⟩ := newS eH; clear eH)) | fail)
local macro_rules | `(tactic| walk_at "w1") => `(tactic| first | ((fail_if_success with_reducible show @ite _ _ _ _ _); first | ((refine ⟨(show _ ≤ sizeLine by (first | exact Nat.le_of_ble_eq_true rfl | (show _ ≤ 16777216; omega))), ?_⟩); walk_at "new") | ((with_reducible show ∀ p, _ = none → _); walk_at "new")) | fail)
local macro_rules | `(tactic| walk_at "v") => `(tactic| first | (repeat ((fail_if_success with_reducible show tSeq (tIfS _ _ _) _ _ _ _); first | walk_at "w1" | walk_at "fld")) | fail)
local macro_rules | `(tactic| walk_at "tk") => `(tactic| first | ((try (refine ⟨(by walk_at "bx"), ?_⟩)); (try (refine ⟨(by first | decide | omega), ?_⟩)); (try (refine ⟨(by first | decide | omega), ?_⟩))) | fail)
local macro_rules | `(tactic| walk_at "sq") => `(tactic| first | (exact SqT.of (by walk_at "hp")) | fail)
local macro_rules | `(tactic| walk_at "szl") => `(tactic| first | (first | exact Nat.le_of_ble_eq_true rfl | (show _ ≤ 16777216; simp only [List.length_append, List.length_take, List.length_drop, List.length_cons, List.length_nil, List.length_map, List.length_replicate]; omega)) | fail)
local macro_rules | `(tactic| walk_at "w1") => `(tactic| first | ((fail_if_success with_reducible show @ite _ _ _ _ _); first | ((refine ⟨_, _, _, _, (rfl : _ = V.ref _), (rfl : _ = V.ref _), (by first | walk_at "hp" | walk_at "sq"), (by first | walk_at "hp" | walk_at "sq"), (by walk_at "szl"), ?_⟩); walk_at "new")) | fail)
local macro_rules | `(tactic| walk_at "szs") => `(tactic| first | (rw [SX.S_len, SX.S_len]; show _ ≤ 16777216; (try simp only [List.length_append, List.length_cons, List.length_nil, repL_len]); omega) | fail)
local macro_rules | `(tactic| walk_at "szm") => `(tactic| first | (rw [SX.S_len]; (try simp only [List.length_append, List.length_cons, List.length_nil, repL_len]); omega) | fail)
local macro_rules | `(tactic| walk_at "sz") => `(tactic| first | (rw [SX.S_len]; show _ ≤ 16777216; omega) | fail)
local macro_rules | `(tactic| walk_at "szr") => `(tactic| first | (show _ ≤ 16777216; simp only [List.length_cons, List.length_nil, Int.toNat_natCast]; omega) | fail)
local macro_rules | `(tactic| walk_at "w1") => `(tactic| first | ((fail_if_success with_reducible show @ite _ _ _ _ _); first | ((refine ⟨_, _, _, (rfl : _ = V.ref _), (rfl : _ = V.int _), (by walk_at "hp"), (by omega), (by omega), (by walk_at "szr"), ?_⟩); walk_at "new")) | fail)
section
variable {P : Program} {w : World} {K : PySem.W.Frag} {mg : Str → Option Value} {base : Heap}
theorem paired_take {α β : Type} {F : α → β → Prop} : ∀ {l : List α} {m : List β} (n : Nat), Paired F l m → Paired F (l.take n) (m.take n)
  | _, _, 0, _ => by simpa using Paired.nil
  | _, _, n + 1, .nil => by simpa using Paired.nil
  | _, _, n + 1, .cons h r => by simpa using Paired.cons h (paired_take n r)
theorem paired_drop {α β : Type} {F : α → β → Prop} : ∀ {l : List α} {m : List β} (n : Nat), Paired F l m → Paired F (l.drop n) (m.drop n)
  | _, _, 0, h => by simpa using h
  | _, _, n + 1, .nil => by simpa using Paired.nil
  | _, _, n + 1, .cons h r => by simpa using paired_drop n r
theorem paired_app {α β : Type} {F : α → β → Prop} : ∀ {l l' : List α} {m m' : List β}, Paired F l m → Paired F l' m' → Paired F (l ++ l') (m ++ m')
  | _, _, _, _, .nil, k => k
  | _, _, _, _, .cons h r, k => .cons h (paired_app r k)
theorem listedL_len (ws : List (List Nat)) : (listedL ws).length ≤ sumL ws + ws.length + 2 := by
  unfold listedL
  split
  · rename_i h
    obtain ⟨x, y, rfl⟩ : ∃ x y, ws = [x, y] := by
      match ws, h.1 with
      | [x, y], _ => exact ⟨x, y, rfl⟩
    simp [sumL_cons, sumL_nil]; omega
  · have := joinL_len ws
    simp; omega
theorem can_mkl_len (ts : List Tr) : (can (mkl ts)).length ≤ sumL (ts.map can) + ts.length + 2 := by
  have := listedL_len (ts.map can)
  rw [listed_can, List.length_map] at this
  exact this
structure RowsB (ts : List Tr) (ds : List (List Nat)) (n s : Nat) : Prop where
  pd : Paired Row ts ds
  ln : ds.length ≤ n
  s1 : sumL (ts.map can) ≤ s
  s2 : sumL ds ≤ s
theorem RowsB.len {ts : List Tr} {ds : List (List Nat)} {n s : Nat} (h : RowsB ts ds n s) : ts.length = ds.length := paired_len h.pd
theorem rowsD_len {ts : List Tr} {ds : List (List Nat)} (h : ts.length = ds.length) : (rowsD ts ds).length = ds.length := by
  unfold rowsD; rw [List.length_zipWith]; omega
theorem rowsD_app {ts ts' : List Tr} {ds ds' : List (List Nat)} (h : ts.length = ds.length) : rowsD ts ds ++ rowsD ts' ds' = rowsD (ts ++ ts') (ds ++ ds') := by
  unfold rowsD; rw [List.zipWith_append h]
theorem rowsD_take (ts : List Tr) (ds : List (List Nat)) (n : Nat) : (rowsD ts ds).take n = rowsD (ts.take n) (ds.take n) := by
  unfold rowsD; rw [List.take_zipWith]
theorem rowsD_drop (ts : List Tr) (ds : List (List Nat)) (n : Nat) : (rowsD ts ds).drop n = rowsD (ts.drop n) (ds.drop n) := by
  unfold rowsD; rw [List.drop_zipWith]
theorem RowsB.group {ts its : List Tr} {ds : List (List Nat)} {n s st m : Nat} {d : List Nat} (h : RowsB ts ds n s) (hr : Row (mkl its) d)
    (l1 : (can (mkl its)).length ≤ sumL (((ts.drop st).take m).map can) + 30) (l2 : d.length ≤ sumL ((ds.drop st).take m) + 30) :
    RowsB (ts.take st ++ [mkl its] ++ ts.drop (st + m)) (ds.take st ++ [d] ++ ds.drop (st + m)) (n + 1) (s + 30) := by
  have e1 := sumL_app (ds.take st) (ds.drop st)
  rw [List.take_append_drop] at e1
  have e2 := sumL_app ((ds.drop st).take m) ((ds.drop st).drop m)
  rw [List.take_append_drop, List.drop_drop] at e2
  have f1 := sumL_app ((ts.take st).map can) ((ts.drop st).map can)
  rw [← List.map_append, List.take_append_drop] at f1
  have f2 := sumL_app (((ts.drop st).take m).map can) (((ts.drop st).drop m).map can)
  rw [← List.map_append, List.take_append_drop, List.drop_drop] at f2
  have h1 := h.s1
  have h2 := h.s2
  refine ⟨paired_app (paired_app (paired_take _ h.pd) (.cons hr .nil)) (paired_drop _ h.pd), ?_, ?_, ?_⟩
  · have := h.ln
    simp only [List.length_append, List.length_take, List.length_drop, List.length_singleton]; omega
  · rw [List.map_append, List.map_append, sumL_app, sumL_app, List.map_cons, List.map_nil, sumL_cons, sumL_nil]; omega
  · rw [sumL_app, sumL_app, sumL_cons, sumL_nil]; omega
theorem RowsB.mono {ts : List Tr} {ds : List (List Nat)} {n s n' s' : Nat} (h : RowsB ts ds n s) (a : n ≤ n') (b : s ≤ s') : RowsB ts ds n' s' := ⟨h.pd, Nat.le_trans h.ln a, Nat.le_trans h.s1 b, Nat.le_trans h.s2 b⟩
/-- the quote's row -/
theorem WRow.quote : WRow (.nam quoL) quoL 0 := .nam (by decide)
abbrev qV : HO := .tup [.str "quote", .str "quote", .int 1, .int 0, .non]
theorem qV_eq : qV = wdV quoL 0 := by unfold qV wdV tV; rw [← S_quote]; rfl
theorem rowsD_cut {ts : List Tr} {ds : List (List Nat)} (h : ts.length = ds.length) (st n : Nat) (t : Tr) (d : List Nat) :
    rowsD (ts.take st ++ [t] ++ ts.drop n) (ds.take st ++ [d] ++ ds.drop n) = (rowsD ts ds).take st ++ [rowD t d] ++ (rowsD ts ds).drop n := by
  rw [rowsD_take, rowsD_drop, ← rowsD_app (by simp [h]), ← rowsD_app (by simp [h])]
  rfl
def spRows : Sp := fun vs H Q _ => ∃ (b e : Addr), vs = [.ref b, .ref e] ∧ BoxAt H b ∧ BoxAt H e ∧ b ≠ e ∧
  ∀ (a : Addr) (ts : List Tr) (ds : List (List Nat)) (H' : Hp), Rp [b, e] H' (.ref a) (.list (rowsD ts ds)) → RowsB ts ds 60 2000 → BoxAt H' b → BoxAt H' e → Kp [b, e] H H' → Q (.ref a) H'
theorem ok_law_rows (T : Txt K mg) : FnOk P w K mg base CX0 5 T.a_law_rows T.d_law_rows ["box", "dress"] spRows := by
  refine T.law_rows.fn.ok sc_law_rows (fun vs H Q E h => ?_) (fun cdv A outer s H vs Q E hr h => ?_)
  · obtain ⟨b, e, rfl, _⟩ := h
    rfl
  · obtain ⟨b, e, rfl, hb, he, nbe, k⟩ := h
    refine ⟨_, (pss_cons (ps_set (i := 2) sc_law_rows.nd rfl (Or.inl rfl) (pe_call (ok_law_take (P := P) (w := w) (base := base) T) (hr.mono (by decide)) rfl T.law_take.mg T.law_take.fn.kp T.law_take.b .nil pass0 (pa_cons (pv 0) (pa_cons pe_int pa_nil))))
      (pss_cons (ps_set (i := 3) sc_law_rows.nd rfl (Or.inl rfl) (pe_call (ok_law_take (P := P) (w := w) (base := base) T) (hr.mono (by decide)) rfl T.law_take.mg T.law_take.fn.kp T.law_take.b .nil pass0 (pa_cons (pv 0) (pa_cons pe_int pa_nil))))
      (pss_cons (ps_if (pt_cmpR op_eq (pe_call (ok_law_take (P := P) (w := w) (base := base) T) (hr.mono (by decide)) rfl T.law_take.mg T.law_take.fn.kp T.law_take.b .nil pass0 (pa_cons (pv 0) (pa_cons pe_int pa_nil))) pe_int (nomark _)) (pss_cons (ps_set (i := 2) sc_law_rows.nd rfl (Or.inl rfl) (pe_op op_add (pv 2) (pe_call (ok_law_take (P := P) (w := w) (base := base) T) (hr.mono (by decide)) rfl T.law_take.mg T.law_take.fn.kp T.law_take.b .nil pass0 (pa_cons (pv 0) (pa_cons pe_int pa_nil)))))
      (pss_one (ps_set (i := 3) sc_law_rows.nd rfl (Or.inl rfl) (pe_op op_add (pv 3) (pe_call (ok_law_take (P := P) (w := w) (base := base) T) (hr.mono (by decide)) rfl T.law_take.mg T.law_take.fn.kp T.law_take.b .nil pass0 (pa_cons (pv 0) (pa_cons pe_int pa_nil))))))) pss_nil)
      (pss_cons (ps_setLc (i := 5) (own := [("k", 4)]) (g := gName 4) (tt := tYes)  rfl sc_law_rows.nd rfl rfl (sw_true rfl rfl rfl (by decide +kernel)) (pi_range1 (by rfl) T.b_range (pa_cons (pv 2) pa_nil)) (blkOk_by (own := [("k", 4)]) (N := ["box", "dress", "words", "turns", "k", "rows", "start", "many", "inner"]) (sc := defScope s_law_rows) (by decide +kernel)) (fun _ _ _ _ _ => pg_name (i := 4) sc_law_rows.nd rfl (Or.inl rfl)) (fun _ _ _ _ _ => pts_nil) (fun _ _ _ _ _ => (pe_call (ok_law_word (P := P) (w := w) (base := base) T) (hr.mono (by decide)) rfl T.law_word.mg T.law_word.fn.kp T.law_word.b .nil pass0 (pa_cons (pv 0) pa_nil))))
      (pss_cons (ps_for PassesOwn.never rfl (pi_range1 (by rfl) T.b_range (pa_cons (pv 3) pa_nil)) (pg_name (i := 4) sc_law_rows.nd rfl (Or.inl rfl)) (pss_cons (ps_set (i := 6) sc_law_rows.nd rfl (Or.inl rfl) (pe_call (ok_law_take (P := P) (w := w) (base := base) T) (hr.mono (by decide)) rfl T.law_take.mg T.law_take.fn.kp T.law_take.b .nil pass0 (pa_cons (pv 0) (pa_cons (pe_op op_add (pe_callB call_len_seq (by rfl) T.b_len (by decide +kernel) (pa_cons (pv 5) pa_nil)) pe_int) pa_nil))))
      (pss_cons (ps_set (i := 7) sc_law_rows.nd rfl (Or.inl rfl) (pe_call (ok_law_take (P := P) (w := w) (base := base) T) (hr.mono (by decide)) rfl T.law_take.mg T.law_take.fn.kp T.law_take.b .nil pass0 (pa_cons (pv 0) (pa_cons pe_int pa_nil))))
      (pss_cons (ps_set (i := 8) sc_law_rows.nd rfl (Or.inl rfl) (pe_slice sl_list (pv 5) (po_some (pv 6)) (po_some (pe_op op_add (pv 6) (pv 7)))))
      (pss_cons (ps_if (pt_cmpR op_gt (pv 7) pe_int (nomark _)) (pss_cons (ps_set (i := 7) sc_law_rows.nd rfl (Or.inl rfl) pe_int)
      (pss_one (ps_set (i := 8) sc_law_rows.nd rfl (Or.inl rfl) (pe_op op_cat (pe_lst (pa_cons (pe_tup (pa_cons pe_str (pa_cons pe_str (pa_cons pe_int (pa_cons pe_int (pa_cons pe_non pa_nil)))))) pa_nil)) (pe_slice sl_list (pv 5) (po_some (pv 6)) (po_some (pe_op op_add (pv 6) pe_int))))))) pss_nil)
      (pss_one (ps_set (i := 5) sc_law_rows.nd rfl (Or.inl rfl) (pe_op op_cat (pe_op op_cat (pe_slice sl_list (pv 5) po_none (po_some (pv 6))) (pe_lst (pa_cons (pe_call (ok_law_joined (P := P) (w := w) (base := base) T) (hr.mono (by decide)) rfl T.law_joined.mg T.law_joined.fn.kp T.law_joined.b .nil pass0 (pa_cons (pv 1) (pa_cons (pv 8) pa_nil))) pa_nil))) (pe_slice sl_list (pv 5) (po_some (pe_op op_add (pv 6) (pv 7))) po_none)))))))))
      (pss_cons (ps_if (pt_cmpR op_eq (pe_call (ok_law_take (P := P) (w := w) (base := base) T) (hr.mono (by decide)) rfl T.law_take.mg T.law_take.fn.kp T.law_take.b .nil pass0 (pa_cons (pv 0) (pa_cons pe_int pa_nil))) pe_int (nomark _)) (pss_one (ps_ret (pe_op op_cat (pe_lst (pa_cons (pe_tup (pa_cons pe_str (pa_cons pe_str (pa_cons pe_int (pa_cons pe_int (pa_cons pe_non pa_nil)))))) pa_nil)) (pe_slice sl_list (pv 5) po_none (po_some pe_int))))) pss_nil)
      (pss_one (ps_ret (pv 5))))))))), ?_⟩
    try dsimp only [cxOf, Cx.nox]
    refine tSeq_join3 (fun σ H1 => ∃ wd tn : Int, σ = [some (.ref b), some (.ref e), some (.int wd), some (.int tn), none, none, none, none, none] ∧ 0 ≤ wd ∧ wd ≤ 30 ∧ 0 ≤ tn ∧ tn ≤ 24 ∧ BoxAt H1 b ∧ BoxAt H1 e ∧ Kp [b, e] H H1) ?_ (fun N hj => ?_)
    · rintro σ H1 ⟨wd, tn, rfl, wd0, wd1, tn0, tn1, hb1, he1, kp1⟩
      walk_at "w"
      refine ⟨by omega, by omega, fun D nD => ?_⟩
      have nDb : D ≠ b := by walk_at "ne"
      have nDe : D ≠ e := by walk_at "ne"
      refine lc_range (fun i H' => ∃ (vs : List V) (ts : List Tr) (ds : List (List Nat)), H' D = some (.lst vs) ∧ RpA [D, b, e] H' vs (rowsD ts ds) ∧ RowsB ts ds i (12 * i) ∧ ds.length = i ∧ BoxAt H' b ∧ BoxAt H' e ∧ Kp [b, e] H1 H') ?_ ?_ ?_
      · exact ⟨[], [], [], upd_same, .nil, ⟨.nil, by simp, by simp [sumL_nil], by simp [sumL_nil]⟩, rfl, hb1.new nD, he1.new nD, (Kp.refl H1).new nD⟩
      · rintro i H4 hi ⟨vs, ts, ds, hD, hA, B, hl, hb4, he4, kp4⟩
        have hi' : i < 30 := by omega
        walk_at "w"
        refine ⟨rfl, ?_⟩
        walk_at "w"
        intro t l n p H5 wr np hp hb5 kp5
        have hlen := B.len
        have hvl : vs.length = i := by rw [hA.len, rowsD_len hlen, hl]
        have hA5 : RpA [D, b, e] H5 vs (rowsD ts ds) := by walk_at "rp"
        have rp5 : Rp [D, b, e] H5 (.ref p) (rowD t l) := wr.rp hp (by walk_at "ni")
        have hD5 : H5 D = some (.lst vs) := by walk_at "hp"
        have he5 : BoxAt H5 e := by walk_at "bx"
        refine ⟨vs, hD5, by rw [hvl]; show _ < 16777216; omega, vs ++ [.ref p], ts ++ [t], ds ++ [l], upd_same, ?_, ⟨forall2_snoc B.pd wr.1, by simp [hl], ?_, ?_⟩, by simp [hl], ?_, ?_, ?_⟩
        · rw [← rowsD_app hlen]
          exact (hA5.app (.one rp5)).kp (newS rfl).2 (by walk_at "su")
        · have h1 := B.s1
          have h2 := wr.2.2.1
          have h3 := wr.2.1
          rw [List.map_append, sumL_app, List.map_cons, List.map_nil, sumL_cons, sumL_nil, h3]; omega
        · have h1 := B.s2
          have h2 := wr.2.2.1
          rw [sumL_app, sumL_cons, sumL_nil]; omega
        · exact hb5.kp' (newS rfl).2 (by walk_at "ni")
        · exact he5.kp' (newS rfl).2 (by walk_at "ni")
        · exact (kp4.trans (kp5.mono (by simp))).new nD
      · rintro H4 ⟨vs, ts, ds, hD, hA, B, hl, hb4, he4, kp4⟩
        have hvl : vs.length = ds.length := by rw [hA.len, rowsD_len B.len]
        have R4 : Rp [b, e] H4 (.ref D) (.list (rowsD ts ds)) := .lst hD (by walk_at "ni") (hA.less (fun x hx => mem_tl hx))
        have B0 : RowsB ts ds 30 360 := B.mono (by omega) (by omega)
        clear hA hD B
        walk_at "w"
        refine ⟨by omega, by omega, for_it walk_range (fun i σ H5 => ∃ (o4 o6 o7 o8 : Option V) (a : Addr) (ts : List Tr) (ds : List (List Nat)), σ = [some (.ref b), some (.ref e), some (.int wd), some (.int tn), o4, some (.ref a), o6, o7, o8] ∧
          Rp [b, e] H5 (.ref a) (.list (rowsD ts ds)) ∧ RowsB ts ds (30 + i) (360 + 30 * i) ∧ BoxAt H5 b ∧ BoxAt H5 e ∧ Kp [b, e] H H5) ?_ (fun _ _ _ _ _ => trivial) ?_ ?_⟩
        · exact ⟨none, none, none, none, D, ts, ds, rfl, R4, B0, hb4, he4, kp1.trans kp4⟩
        · clear R4 B0 hb4 he4 kp4 nD nDb nDe hvl hl
          rintro i x σ _ H5 hi ⟨o4, o6, o7, o8, a, ts, ds, rfl, R5, B5, hb5, he5, kp5⟩ ⟨rfl, rfl⟩
          have hi' : i < 24 := by omega
          obtain ⟨a', vs, e1, ha, naF, hA⟩ := R5.lst'
          cases e1
          have hlen := B5.len
          have hvl : vs.length = ds.length := by rw [hA.len, rowsD_len hlen]
          have hln := B5.ln
          have hs1 := B5.s1
          have hs2 := B5.s2
          dsimp only [gName]
          refine tSeq_join4 (fun σ H6 => ∃ (st mn : Nat) (o4 : Option V) (c : Addr) (its : List Tr) (ods : List (List Nat)), σ = [some (.ref b), some (.ref e), some (.int wd), some (.int tn), o4, some (.ref a), some (.int (st : Int)), some (.int (mn : Int)), some (.ref c)] ∧
            Rp [b, e] H6 (.ref c) (.list (rowsD its ods)) ∧ Paired Row its ods ∧ its.length ≤ 4 ∧ st ≤ ds.length ∧ mn ≤ 4 ∧ sumL (its.map can) + its.length + 2 ≤ sumL (((ts.drop st).take mn).map can) + 30 ∧ sumL ods + 3 * its.length + 8 ≤ sumL ((ds.drop st).take mn) + 30 ∧ BoxAt H6 b ∧ BoxAt H6 e ∧ Kp [b, e] H5 H6) ?_ (fun N hj => ?_)
          · rintro σ H6 ⟨st, mn, o4, c, its, ods, rfl, R6, hP, hil, hst, hmn, q1, q2, hb6, he6, kp6⟩
            have t1 : sumL (((ts.drop st).take mn).map can) ≤ 360 + 30 * i := by
              have f1 := sumL_take_le ((ts.drop st).map can) mn
              have f2 := sumL_drop_le (ts.map can) st
              rw [List.map_take, List.map_drop] at *
              omega
            have t2 : sumL ((ds.drop st).take mn) ≤ 360 + 30 * i := by
              have f1 := sumL_take_le (ds.drop st) mn
              have f2 := sumL_drop_le ds st
              omega
            have hol := paired_len hP
            walk_at "w"
            refine ⟨e, c, [b, e], its, ods, rfl, by walk_at "bx", by simp, ?_, by walk_at "rp", hP, by omega, by omega, by omega, fun p d H8 rp8 row8 hdl he8 kp8 => ?_⟩
            · intro x hx
              simp at hx
              rcases hx with rfl | rfl
              · exact BoxAt.al (by walk_at "bx")
              · exact BoxAt.al (by walk_at "bx")
            walk_at "w"
            rename_i q nq H9 hq kq
            have rpA : RpA [b, e] H9 vs (rowsD ts ds) := by walk_at "rp"
            have rp9 : Rp [b, e] H9 (.ref p) (rowD (mkl its) d) := by walk_at "rp"
            refine ⟨_, _, _, _, q, _, _, rfl, ?_, B5.group (st := st) (m := mn) row8 ?_ ?_, by walk_at "bx", by walk_at "bx", by walk_at "kk"⟩
            · refine .lst hq (by walk_at "ni") ?_
              rw [rowsD_cut hlen]
              exact ((rpA.take _).app (.one rp9)).app (rpA.drop _)
            · have := can_mkl_len its; omega
            · omega
          · refine tSeq_go ?_
            walk_at "w"
            walk_at "tk"
            intro st H6 s0 s1 hb6 kp6
            obtain ⟨sn, rfl⟩ := Int.eq_ofNat_of_zero_le s0
            walk_at "w"
            walk_at "tk"
            intro mm H7 m0 m1 hb7 kp7
            obtain ⟨mn, rfl⟩ := Int.eq_ofNat_of_zero_le m0
            walk_at "w"
            refine iteD (fun h5 => ?_) (fun h5 => ?_)
            · walk_at "w"
              rename_i p8 np8 H8 hp8 kp8 p9 np9 H9 hp9 kp9 p10 np10 H10 hp10 kp10 p11 np11 H11 hp11 kp11 p12 np12 H12 hp12 kp12
              have rpA : RpA [b, e] H12 vs (rowsD ts ds) := by walk_at "rp"
              have rq : Rp [b, e] H12 (.ref p9) (rowD (.nam quoL) quoL) := WRow.quote.rp (by rw [← qV_eq]; walk_at "hp") (by walk_at "ni")
              have u3 : ((ts.drop sn).take 1).length ≤ 1 := by simp; omega
              have q5 : quoL.length = 5 := rfl
              refine hj _ _ ⟨sn, 1, _, p12, .nam quoL :: (ts.drop sn).take 1, quoL :: (ds.drop sn).take 1, rfl, ?_, .cons WRow.quote.1 (paired_take _ (paired_drop _ B5.pd)), by rw [List.length_cons]; omega, by omega, by omega, ?_, ?_, by walk_at "bx", by walk_at "bx", by walk_at "kk"⟩
              · refine .lst hp12 (by walk_at "ni") ?_
                show RpA _ _ _ (rowD _ _ :: rowsD _ _)
                rw [← rowsD_take, ← rowsD_drop]
                exact (RpA.one rq).app ((rpA.drop _).take _)
              · rw [List.map_cons, sumL_cons, can_nam, List.length_cons]; omega
              · rw [sumL_cons, List.length_cons]; omega
            · rename_i p8 np8 H8 hp8 kp8
              have hw : mn ≤ 4 := by omega
              have rpA : RpA [b, e] H8 vs (rowsD ts ds) := by walk_at "rp"
              have u3 : ((ts.drop sn).take mn).length ≤ mn := by simp; omega
              refine hj _ _ ⟨sn, mn, _, p8, (ts.drop sn).take mn, (ds.drop sn).take mn, rfl, ?_, paired_take _ (paired_drop _ B5.pd), by omega, by omega, hw, by omega, by omega, by walk_at "bx", by walk_at "bx", by walk_at "kk"⟩
              refine .lst hp8 (by walk_at "ni") ?_
              rw [← rowsD_take, ← rowsD_drop]
              exact (rpA.drop _).take _
        · rintro σ H5 ⟨o4, o6, o7, o8, a, ts, ds, rfl, R5, B5, hb5, he5, kp5⟩
          have htn' : tn.toNat ≤ 24 := by omega
          have B6 : RowsB ts ds 54 1080 := B5.mono (by omega) (by omega)
          obtain ⟨a', vs, e1, ha, naF, hA⟩ := R5.lst'
          cases e1
          have hvl : vs.length = ds.length := by rw [hA.len, rowsD_len B6.len]
          have hln := B6.ln
          clear B5
          walk_at "w"
          walk_at "tk"
          intro d9 H6 s0 s1 hb6 kp6
          walk_at "w"
          refine iteD (fun h5 => ?_) (fun h5 => ?_)
          · walk_at "w"
            rename_i p7 np7 H7 hp7 kp7 p8 np8 H8 hp8 kp8 p9 np9 H9 hp9 kp9 p10 np10 H10 hp10 kp10
            have rpA : RpA [b, e] H10 vs (rowsD ts ds) := by walk_at "rp"
            have rq : Rp [b, e] H10 (.ref p7) (rowD (.nam quoL) quoL) := WRow.quote.rp (by rw [← qV_eq]; walk_at "hp") (by walk_at "ni")
            have q5 : quoL.length = 5 := rfl
            have t1 := sumL_take_le (ts.map can) 1
            have t2 := sumL_take_le ds 1
            have b1 := B6.s1
            have b2 := B6.s2
            rw [← List.map_take] at t1
            refine k p10 (.nam quoL :: ts.take 1) (quoL :: ds.take 1) H10 ?_ ⟨.cons WRow.quote.1 (paired_take _ B6.pd), ?_, ?_, ?_⟩ (by walk_at "bx") (by walk_at "bx") (by walk_at "kk")
            · refine .lst hp10 (by walk_at "ni") ?_
              show RpA _ _ _ (rowD _ _ :: rowsD _ _)
              rw [← rowsD_take]
              exact (RpA.one rq).app (rpA.take _)
            · simp; omega
            · rw [List.map_cons, sumL_cons, can_nam]; omega
            · rw [sumL_cons]; omega
          · walk_at "w"
            exact k a ts ds H6 (by walk_at "rp") (B6.mono (by omega) (by omega)) (by walk_at "bx") (by walk_at "bx") (by walk_at "kk")
    · refine tSeq_go ?_
      walk_at "w"
      walk_at "tk"
      intro wd H1 a0 a1 hb1 kp1
      walk_at "w"
      walk_at "tk"
      intro tn H2 b0 b1 hb2 kp2
      walk_at "w"
      walk_at "tk"
      intro d3 H3 c0 c1 hb3 kp3
      walk_at "w"
      refine iteD (fun h5 => ?_) (fun h5 => ?_)
      · walk_at "w"
        walk_at "tk"
        intro d4 H4 e0 e1 hb4 kp4
        walk_at "w"
        walk_at "tk"
        intro d5 H5 f0 f1 hb5 kp5
        walk_at "w"
        exact hj _ _ ⟨wd + d4, tn + d5, rfl, by omega, by omega, by omega, by omega, by walk_at "bx", by walk_at "bx", by walk_at "kk"⟩
      · exact hj _ _ ⟨wd, tn, rfl, by omega, by omega, by omega, by omega, by walk_at "bx", by walk_at "bx", by walk_at "kk"⟩
end
end Wh
set_option Elab.async false
set_option linter.all false
set_option maxRecDepth 100000
set_option maxHeartbeats 1000000
/-! Values many times wrapped. -/
namespace Wh
open PySem L2 PySem.Spec PyProof.Rows
def repL (n : Nat) (p : List Nat) : List Nat := (List.replicate n p).flatten
theorem repL_zero (p : List Nat) : repL 0 p = [] := rfl
theorem repL_succ (n : Nat) (p : List Nat) : repL (n + 1) p = p ++ repL n p := by
  unfold repL; rw [List.replicate_succ, List.flatten_cons]
theorem repL_succ' (n : Nat) (p : List Nat) : repL (n + 1) p = repL n p ++ p := by
  unfold repL; rw [List.replicate_succ', List.flatten_append]; simp
theorem repL_len (n : Nat) (p : List Nat) : (repL n p).length = n * p.length := by
  induction n with
  | zero => simp [repL_zero]
  | succ n ih => rw [repL_succ, List.length_append, ih, Nat.succ_mul]; omega
theorem fold_app : ∀ (l : List (Array Nat)) (a : Array Nat), (l.foldl (· ++ ·) a).toList = a.toList ++ (l.map Array.toList).flatten
  | [], a => by simp
  | x :: r, a => by rw [List.foldl_cons, fold_app r]; simp
theorem S_ext {a : Str} {l : List Nat} (h : a.cps.toList = l) : a = SX.S l := by
  cases a with
  | mk c => subst h; show _ = Str.mk _; simp
theorem mul_S (p : List Nat) (n : Int) : Txt.mul (SX.S p) n = SX.S (repL n.toNat p) := by
  unfold Txt.mul
  by_cases h1 : n < 1
  · rw [if_pos h1, show n.toNat = 0 from by omega]; rfl
  · rw [if_neg h1]
    by_cases h2 : (n == 1 || (SX.S p).length == 0) = true
    · rw [if_pos h2]
      simp only [Bool.or_eq_true, beq_iff_eq] at h2
      rcases h2 with h2 | h2
      · subst h2
        show SX.S p = SX.S (repL 1 p)
        rw [repL_succ, repL_zero, List.append_nil]
      · rw [SX.S_len] at h2
        have : p = [] := List.length_eq_zero_iff.mp h2
        subst this
        congr 1
        exact (List.length_eq_zero_iff.mp (by rw [repL_len]; simp)).symm
    · rw [if_neg h2]
      refine S_ext ?_
      show (List.foldl (· ++ ·) #[] (List.replicate n.toNat (SX.S p).cps)).toList = _
      rw [fold_app]
      simp only [List.map_replicate]
      rfl
/-- one wrap: on the one form, and on a dress -/
structure Wrap (f : Tr → Tr) (p q p' q' : List Nat) : Prop where
  pr : ∀ x, Pr x → Pr (f x)
  cn : ∀ x, can (f x) = p ++ can x ++ q
  dr : ∀ x d, Dr x d → Dr (f x) (p' ++ d ++ q')
def itF (f : Tr → Tr) : Nat → Tr → Tr
  | 0, x => x
  | n + 1, x => f (itF f n x)
theorem Wrap.many {f : Tr → Tr} {p q p' q' : List Nat} (W : Wrap f p q p' q') (n : Nat) {x : Tr} {d : List Nat} (hp : Pr x) (hd : Dr x d) :
    Pr (itF f n x) ∧ can (itF f n x) = repL n p ++ can x ++ repL n q ∧ Dr (itF f n x) (repL n p' ++ d ++ repL n q') := by
  induction n with
  | zero => exact ⟨hp, by simp [repL_zero, itF], by simpa [repL_zero, itF] using hd⟩
  | succ n ih =>
    obtain ⟨h1, h2, h3⟩ := ih
    refine ⟨W.pr _ h1, ?_, ?_⟩
    · show can (f (itF f n x)) = _
      rw [W.cn, h2, repL_succ n p, repL_succ' n q]
      simp only [List.append_assoc]
    · have := W.dr _ _ h3
      rw [repL_succ n p', repL_succ' n q']
      simpa only [List.append_assoc, itF] using this
theorem can_one (x : Tr) : can (mkl [x]) = 40 :: (can x ++ [41]) := by
  rw [show mkl [x] = Tr.cons x .nil from rfl, can_plain rfl, tail_nil]
theorem wrap0 : Wrap (fun x => mkl [x]) [40] [41] [40] [41] :=
  ⟨fun x h => mkl_Pr (l := [x]) (by simpa using h), fun x => by rw [can_one]; simp, fun x d h => by
    have h1 : DrP ([] ++ [x]) ([40] ++ [] ++ d) := DrP.nil.snoc h rfl (fun _ => sep_left (x := 40) rfl rfl)
    have h2 := h1.close (g := []) rfl
    simpa using h2⟩
theorem wrap1 : Wrap quo [39] [] [39] [] :=
  ⟨fun x h => mkl_Pr (l := [.nam quoL, x]) (by intro t ht; simp at ht; rcases ht with rfl | rfl; exact (by decide : nmOk quoL = true); exact h), fun x => by rw [can_quo]; simp, fun x d h => by
    have := h.quote (g := []) rfl
    simpa using this⟩
theorem qDr : Dr (.nam quoL) quoL := .nam' (by decide)
theorem wrap2 : Wrap quo [39] [] [40, 113, 117, 111, 116, 101, 32] [41] :=
  ⟨wrap1.pr, wrap1.cn, fun x d h => by
    have h1 : DrP ([] ++ [.nam quoL]) ([40] ++ [] ++ quoL) := DrP.nil.snoc qDr rfl (fun _ => sep_left (x := 40) rfl rfl)
    have h2 := h1.snoc (g := [32]) h rfl (fun z => by cases z)
    have h3 := h2.close (g := []) rfl
    simpa [quoL, quo] using h3⟩
theorem wrap3 : Wrap (fun x => mkl [.nam [97], x]) [40, 97, 32] [41] [40, 97, 10] [41] :=
  ⟨fun x h => mkl_Pr (l := [.nam [97], x]) (by intro t ht; simp at ht; rcases ht with rfl | rfl; exact (by decide : nmOk [97] = true); exact h), fun x => by
    have q : quoted (Tr.cons (.nam [97]) (mkl [x])) = none := by
      show (if isQ (.nam [97]) = true then some x else none) = none
      rw [if_neg (by decide)]
    show can (Tr.cons (.nam [97]) (mkl [x])) = _
    rw [can_plain q, tail_mkl]
    simp [can_nam], fun x d h => by
    have h1 : DrP ([] ++ [.nam [97]]) ([40] ++ [] ++ [97]) := DrP.nil.snoc (.nam' (by decide)) rfl (fun _ => sep_left (x := 40) rfl rfl)
    have h2 := h1.snoc (g := [10]) h rfl (fun z => by cases z)
    have h3 := h2.close (g := []) rfl
    simpa using h3⟩
/-- the same value many times -/
theorem can_many {n : Nat} {x : Tr} (h : 3 ≤ n) : can (mkl (List.replicate n x)) = [40] ++ TL.joinL [32] (List.replicate n (can x)) ++ [41] := by
  rw [← listed_can, List.map_replicate]
  unfold listedL
  rw [if_neg (by rw [List.length_replicate]; omega)]
  simp
theorem DrP_many {x : Tr} {d : List Nat} (h : Dr x d) : ∀ (n : Nat), DrP (List.replicate (n + 1) x) ([40] ++ (d ++ repL n ([10] ++ d)))
  | 0 => by
    have h1 : DrP ([] ++ [x]) ([40] ++ [] ++ d) := DrP.nil.snoc h rfl (fun _ => sep_left (x := 40) rfl rfl)
    simpa [repL_zero] using h1
  | n + 1 => by
    have h1 := (DrP_many h n).snoc (g := [10]) h rfl (fun z => by cases z)
    rw [List.replicate_succ', repL_succ']
    simpa only [List.append_assoc] using h1
theorem flat_rep (d : List Nat) (s : List Nat) (n : Nat) : (List.replicate n d).flatMap (fun q => s ++ q) = repL n (s ++ d) := by
  induction n with
  | zero => rfl
  | succ n ih => rw [List.replicate_succ, List.flatMap_cons, ih, repL_succ]
theorem Dr_many {x : Tr} {d : List Nat} (h : Dr x d) {n : Nat} (hn : 1 ≤ n) : Dr (mkl (List.replicate n x)) ([40] ++ TL.joinL [10] (List.replicate n d) ++ [10, 41]) := by
  obtain ⟨m, rfl⟩ : ∃ m, n = m + 1 := ⟨n - 1, by omega⟩
  have := (DrP_many h m).close (g := [10]) rfl
  rw [List.replicate_succ (a := d), joinL_cons, flat_rep]
  simpa [List.append_assoc] using this
theorem joinL_rep_len (s d : List Nat) (hs : s.length = 1) (n : Nat) : (TL.joinL s (List.replicate n d)).length ≤ n * (d.length + 1) := by
  cases n with
  | zero => simp [TL.joinL]
  | succ n =>
    rw [List.replicate_succ, joinL_cons, flat_rep, List.length_append, repL_len, List.length_append, hs, Nat.succ_mul, Nat.add_comm 1]; omega
theorem blanks_all (n : Nat) : (repL n [32]).all isB = true := by
  induction n with
  | zero => rfl
  | succ n ih => rw [repL_succ, List.all_append, ih]; rfl
end Wh
set_option Elab.async false
set_option linter.all false
set_option maxRecDepth 100000
set_option maxHeartbeats 2000000
/-! The law's deep rows. -/
namespace Wh
open PySem L2 PySem.Spec PyProof.Rows
local macro_rules | `(tactic| walk_at "ne") => `(tactic| first | with_reducible assumption | (apply Ne.symm; with_reducible assumption))
local macro_rules | `(tactic| walk_at "hp") => `(tactic| first | with_reducible assumption | with_reducible exact upd_same | ((with_reducible refine (upd_ne ?n).trans ?h); (case n => walk_at "ne"); (case h => walk_at "hp")) | ((with_reducible show upd _ _ _ _ = _); exact upd_same))
local macro_rules | `(tactic| walk_at "cond") => `(tactic| first | with_reducible assumption | exact (rfl : (_ : Bool) = true) | ((try dsimp only) <;> first | with_reducible assumption | decide | omega) | exact ⟨by first | decide | omega | decide +kernel, by first | decide | omega | decide +kernel⟩ | decide +kernel | exact .inr ⟨by decide, by decide⟩ | exact .inl ⟨by decide, by decide⟩)
local macro_rules | `(tactic| walk_at "sq") => `(tactic| first | with_reducible assumption | exact SqL.of (by walk_at "hp"))
local macro_rules | `(tactic| walk_at "sz") => `(tactic| first | with_reducible assumption | (show _ ≤ 16777216; omega))
local macro_rules | `(tactic| walk_at "at") => `(tactic| first | with_reducible assumption | exact atI_nat (by with_reducible assumption) | exact atI_nat (j := 0) (rfl : (_ : Option Nat) = some _) | exact atI_nat (by assumption))
local macro_rules | `(tactic| walk_at "w1") => `(tactic| (fail_if_success with_reducible show @ite _ _ _ _ _); first
  | refine ⟨_, rfl, ?_⟩
  | refine ⟨_, _, (rfl : _ = V.int _), (rfl : _ = V.int _), And.intro (by walk_at "cond") ?_⟩
  | refine ⟨_, _, (rfl : _ = V.int _), (rfl : _ = V.int _), ?_⟩
  | refine ⟨_, _, (rfl : _ = V.str _), (rfl : _ = V.str _), And.intro (by walk_at "sz") ?_⟩
  | refine ⟨_, _, (rfl : _ = V.str _), (rfl : _ = V.str _), ?_⟩
  | refine ⟨_, _, _, _, (rfl : _ = V.ref _), (rfl : _ = V.int _), (by walk_at "sq"), rfl, ?_⟩
  | refine ⟨_, _, _, _, (rfl : _ = V.ref _), (rfl : _ = V.int _), (by walk_at "hp"), rfl, ?_⟩
  | refine ⟨Or.inl ⟨rfl, _, (by walk_at "sq")⟩, ?_⟩
  | refine ⟨_, _, _, (rfl : _ = V.ref _), (rfl : (_ : List V) = _), (by walk_at "hp"), (by with_reducible assumption), ?_⟩
  | refine ⟨_, _, (rfl : (_ : List V) = _), Or.inl ((by walk_at "sq")), ?_⟩
  | refine ⟨_, _, _, _, (rfl : _ = V.ref _), (rfl : _ = V.int _), (by walk_at "sq"), (by walk_at "at"), ?_⟩
  | refine ⟨_, _, _, (rfl : _ = V.str _), (rfl : _ = V.int _), (by walk_at "sz"), (by walk_at "at"), ?_⟩
  | refine ⟨_, _, (rfl : (_ : List V) = [V.str _]), SX.int_S (by assumption) (by simp) (by assumption), (by assumption), ?_⟩
  | refine ⟨_, _, (rfl : (_ : List V) = [_, _]), ?_⟩
  | refine ⟨_, _, (rfl : _ = V.ref _), (by walk_at "sq"), ?_⟩
  | refine ⟨(rfl : (_ : Bool) = true), ?_⟩
  | refine ⟨(rfl : (_ : V) = V.non), ?_⟩
  | refine And.intro (by walk_at "sz") ?_
  | refine ⟨⟨_, (rfl : _ = V.str _)⟩, ?_⟩
  | refine ⟨_, (rfl : _ = V.str _), (rfl : (_ : List V) = _), trivial, ?_⟩
  | refine .inl ⟨_, rfl, ?_⟩)
local macro_rules | `(tactic| walk_at "w") => `(tactic| repeat walk_at "w1")
local macro_rules | `(tactic| walk_at "fld") => `(tactic| (fail_if_success with_reducible show @ite _ _ _ _ _); first
  | refine ⟨_, _, _, _, _, (rfl : _ = V.ref _), (by walk_at "hp"), Txt.cl_Heap _, Txt.nf__shapes _, hz_shapes _, ?_⟩
  | refine ⟨_, _, _, _, _, (rfl : _ = V.ref _), (by walk_at "hp"), Txt.cl_Heap _, Txt.nf__faces _, hz_faces _, ?_⟩
  | refine ⟨_, _, _, _, _, (rfl : _ = V.ref _), (by walk_at "hp"), Txt.cl_Heap _, Txt.nf__firsts _, hz_firsts _, ?_⟩
  | refine ⟨_, _, _, _, _, (rfl : _ = V.ref _), (by walk_at "hp"), Txt.cl_Heap _, Txt.nf__seconds _, hz_seconds _, ?_⟩
  | refine ⟨_, _, _, _, _, (rfl : _ = V.ref _), (by walk_at "hp"), Txt.cl_Heap _, Txt.nf__hefts _, hz_hefts _, ?_⟩
  | refine ⟨_, _, _, _, _, (rfl : _ = V.ref _), (by walk_at "hp"), Txt.cl_Heap _, Txt.nf__numbers _, hz_numbers _, ?_⟩
  | refine ⟨_, _, _, _, _, (rfl : _ = V.ref _), (by walk_at "hp"), Txt.cl_Heap _, Txt.nf__names _, hz_names _, ?_⟩
  | refine ⟨_, _, _, _, _, (rfl : _ = V.ref _), (by walk_at "hp"), Txt.cl_Heap _, Txt.nf__pairs _, hz_pairs _, ?_⟩)
local macro_rules | `(tactic| walk_at "wf") => `(tactic| repeat first | walk_at "w1" | walk_at "fld")
local macro_rules | `(tactic| walk_at "mem") => `(tactic| first | (first | with_reducible assumption | exact mem_hd | (refine' mem_tl ?h; (case h => walk_at "mem"))) | fail)
local macro_rules | `(tactic| walk_at "ni") => `(tactic| first | (first | with_reducible assumption | exact ni_nil | (refine' ni_cons ?n ?r; (case n => walk_at "ne"); (case r => walk_at "ni"))) | fail)
local macro_rules | `(tactic| walk_at "al") => `(tactic| first | (first | (refine' Al.of ?h; (case h => with_reducible assumption)) | (refine' BoxAt.al ?h; (case h => with_reducible assumption)) | (refine' Al.kp ?k ?n ?h; (case k => with_reducible assumption); (case n => walk_at "ni"); (case h => walk_at "al"))) | fail)
local macro_rules | `(tactic| walk_at "ne") => `(tactic| first | (first | with_reducible assumption | (apply Ne.symm; with_reducible assumption) | (refine' ne_fr1 ?f ?l; (case f => with_reducible assumption); (case l => walk_at "al")) | (refine' ne_fr2 ?f ?l; (case f => with_reducible assumption); (case l => walk_at "al")) | (refine' ne_nf ?n ?m; (case n => with_reducible assumption); (case m => walk_at "mem")) | (apply Ne.symm; (refine' ne_nf ?n ?m; (case n => with_reducible assumption); (case m => walk_at "mem")))) | fail)
local macro_rules | `(tactic| walk_at "hp") => `(tactic| first | (first | with_reducible assumption | (refine' Kp.look ?k ?n ?h; (case k => with_reducible assumption); (case n => walk_at "ni"); (case h => walk_at "hp"))) | fail)
local macro_rules | `(tactic| walk_at "bx") => `(tactic| first | (first | with_reducible assumption | (refine' BoxAt.kp' ?k ?n ?h; (case k => with_reducible assumption); (case n => walk_at "ni"); (case h => walk_at "bx"))) | fail)
local macro_rules | `(tactic| walk_at "sz") => `(tactic| first | (walk_at "bx") | fail)
local macro_rules | `(tactic| walk_at "su") => `(tactic| first | (first | with_reducible assumption | exact su_nil | (refine' su_cons ?a ?b; (case a => walk_at "mem"); (case b => walk_at "su"))) | fail)
local macro_rules | `(tactic| walk_at "rp") => `(tactic| first | (first | with_reducible assumption | (refine' Rp.kp ?k ?s ?h; (case k => with_reducible assumption); (case s => walk_at "su"); (case h => walk_at "rp")) | (refine' RpA.kp ?k ?s ?h; (case k => with_reducible assumption); (case s => walk_at "su"); (case h => walk_at "rp"))) | fail)
local macro_rules | `(tactic| walk_at "nb") => `(tactic| first | (first | exact id | (refine' nn_back ?k ?n ?c; (case k => with_reducible assumption); (case n => walk_at "ni"); (case c => walk_at "nb"))) | fail)
local macro_rules | `(tactic| walk_at "nn") => `(tactic| first | (first | with_reducible assumption | (refine' nn_start ?n ?c; (case n => with_reducible assumption); (case c => walk_at "nb"))) | fail)
local macro_rules | `(tactic| walk_at "fr") => `(tactic| first | (first | exact fr_nil | (refine' fr_cons ?a ?b; (case a => first | (left; walk_at "mem") | (right; walk_at "nn")); (case b => walk_at "fr"))) | fail)
local macro_rules | `(tactic| walk_at "kk") => `(tactic| first | (first | exact Kp.refl _ | with_reducible assumption | (refine' Kp.step ?p ?k ?s; (case k => with_reducible assumption); (case p => walk_at "kk"); (case s => walk_at "fr"))) | fail)
local macro_rules | `(tactic| walk_at "new") => `(tactic| first | ((intro p np; generalize eH : upd _ p _ = H'; have hp := (newN np eH).1; (try dsimp only at hp); (try simp only [cutV_none_nat, cutV_nat_none, cutV_nat_nat, cutV_mid, cutV_mid1, cutV_from2, cutV_from1, cutV_to1, cutV_to3, cutV_tail, flat_one, Int.toNat_natCast] at hp); have kp := (newN np eH).2; clear eH)) | fail)
local macro_rules | `(tactic| walk_at "sto") => `(tactic| first | ((generalize eH : upd _ _ _ = H'; obtain ⟨hp, kp⟩ := newS eH; clear eH)) | fail)
local macro_rules | `(tactic| walk_at "w1") => `(tactic| first | ((fail_if_success with_reducible show @ite _ _ _ _ _); first | ((refine ⟨(show _ ≤ sizeLine by (first | exact Nat.le_of_ble_eq_true rfl | (show _ ≤ 16777216; omega))), ?_⟩); walk_at "new") | ((with_reducible show ∀ p, _ = none → _); walk_at "new")) | fail)
local macro_rules | `(tactic| walk_at "v") => `(tactic| first | (repeat ((fail_if_success with_reducible show tSeq (tIfS _ _ _) _ _ _ _); first | walk_at "w1" | walk_at "fld")) | fail)
local macro_rules | `(tactic| walk_at "tk") => `(tactic| first | ((try (refine ⟨(by walk_at "bx"), ?_⟩)); (try (refine ⟨(by first | decide | omega), ?_⟩)); (try (refine ⟨(by first | decide | omega), ?_⟩))) | fail)
local macro_rules | `(tactic| walk_at "sq") => `(tactic| first | (exact SqT.of (by walk_at "hp")) | fail)
local macro_rules | `(tactic| walk_at "szl") => `(tactic| first | (first | exact Nat.le_of_ble_eq_true rfl | (show _ ≤ 16777216; simp only [List.length_append, List.length_take, List.length_drop, List.length_cons, List.length_nil, List.length_map, List.length_replicate]; omega)) | fail)
local macro_rules | `(tactic| walk_at "w1") => `(tactic| first | ((fail_if_success with_reducible show @ite _ _ _ _ _); first | ((refine ⟨_, _, _, _, (rfl : _ = V.ref _), (rfl : _ = V.ref _), (by first | walk_at "hp" | walk_at "sq"), (by first | walk_at "hp" | walk_at "sq"), (by walk_at "szl"), ?_⟩); walk_at "new")) | fail)
local macro_rules | `(tactic| walk_at "szs") => `(tactic| first | (rw [SX.S_len, SX.S_len]; show _ ≤ 16777216; (try simp only [List.length_append, List.length_cons, List.length_nil, repL_len]); omega) | fail)
local macro_rules | `(tactic| walk_at "szm") => `(tactic| first | (rw [SX.S_len]; (try simp only [List.length_append, List.length_cons, List.length_nil, repL_len]); omega) | fail)
local macro_rules | `(tactic| walk_at "sz") => `(tactic| first | (rw [SX.S_len]; show _ ≤ 16777216; omega) | fail)
local macro_rules | `(tactic| walk_at "szr") => `(tactic| first | (show _ ≤ 16777216; simp only [List.length_cons, List.length_nil, Int.toNat_natCast]; omega) | fail)
local macro_rules | `(tactic| walk_at "w1") => `(tactic| first | ((fail_if_success with_reducible show @ite _ _ _ _ _); first | ((refine ⟨_, _, _, (rfl : _ = V.ref _), (rfl : _ = V.int _), (by walk_at "hp"), (by omega), (by omega), (by walk_at "szr"), ?_⟩); walk_at "new")) | fail)
local macro_rules | `(tactic| walk_at "w1") => `(tactic| first | ((fail_if_success with_reducible show @ite _ _ _ _ _); first
  | ((refine ⟨_, _, (rfl : _ = V.str (SX.S _)), (rfl : _ = V.str (SX.S _)), And.intro (by walk_at "szs") ?_⟩); rw [SX.S_cat])
  | ((refine ⟨_, _, (rfl : _ = V.str (SX.S _)), (rfl : _ = V.int _), (by omega), (by omega), (fun _ => by walk_at "szm"), ?_⟩); rw [mul_S])) | fail)
section
variable {P : Program} {w : World} {K : PySem.W.Frag} {mg : Str → Option Value} {base : Heap}
theorem lit_28 : Str.ofString "(" = SX.S [40] := by decide +kernel
theorem lit_27 : Str.ofString "'" = SX.S [39] := by decide +kernel
theorem lit_2871756f746520 : Str.ofString "(quote " = SX.S [40, 113, 117, 111, 116, 101, 32] := by decide +kernel
theorem lit_283720 : Str.ofString "(7 " = SX.S [40, 55, 32] := by decide +kernel
theorem lit_29 : Str.ofString ")" = SX.S [41] := by decide +kernel
theorem lit_ : Str.ofString "" = SX.S [] := by decide +kernel
theorem lit_71756f7465 : Str.ofString "quote" = SX.S [113, 117, 111, 116, 101] := by decide +kernel
theorem lit_37 : Str.ofString "7" = SX.S [55] := by decide +kernel
theorem lit_2029 : Str.ofString " )" = SX.S [32, 41] := by decide +kernel
theorem lit_0a : Str.ofString "\n" = SX.S [10] := by decide +kernel
theorem lit_20 : Str.ofString " " = SX.S [32] := by decide +kernel
/-- one wrap's figures -/
structure Wr (f : Tr → Tr) (p q p' q' : List Nat) (cw cs : Nat) (hd : List Tr) : Prop where
  W : Wrap f p q p' q'
  wt : ∀ x, wtT (f x) = wtT x + cw
  sz : ∀ x, szT (f x) = szT x + cs
  fx : ∀ x, f x = mkl (hd ++ [x])
theorem Wr.itw {f : Tr → Tr} {p q p' q' : List Nat} {cw cs : Nat} {hd : List Tr} (h : Wr f p q p' q' cw cs hd) (n : Nat) (x : Tr) : wtT (itF f n x) = wtT x + cw * n ∧ szT (itF f n x) = szT x + cs * n := by
  induction n with
  | zero => exact ⟨by simp [itF], by simp [itF]⟩
  | succ n ih =>
    refine ⟨?_, ?_⟩
    · show wtT (f (itF f n x)) = _
      rw [h.wt, ih.1, Nat.mul_succ]; omega
    · show szT (f (itF f n x)) = _
      rw [h.sz, ih.2, Nat.mul_succ]; omega
theorem wrap7 : Wrap (fun x => mkl [.num 7, x]) [40, 55, 32] [41] [40, 55, 32] [41] :=
  ⟨fun x h => mkl_Pr (l := [.num 7, x]) (by intro t ht; simp at ht; rcases ht with rfl | rfl; exact (by decide : (7 : Nat) ≤ 9999); exact h), fun x => by
    have q : quoted (Tr.cons (.num 7) (mkl [x])) = none := by
      show (if isQ (.num 7) = true then some x else none) = none
      rw [if_neg (by decide)]
    show can (Tr.cons (.num 7) (mkl [x])) = _
    rw [can_plain q, tail_mkl]
    simp [can_num, show TL.numL 7 = [55] from by decide], fun x d h => by
    have h7 : Dr (.num 7) [55] := by
      have := Dr.num' (n := 7) (by decide)
      rwa [show TL.numL 7 = [55] from by decide] at this
    have h1 : DrP ([] ++ [.num 7]) ([40] ++ [] ++ [55]) := DrP.nil.snoc h7 rfl (fun _ => sep_left (x := 40) rfl rfl)
    have h2 := h1.snoc (g := [32]) h rfl (fun z => by cases z)
    have h3 := h2.close (g := []) rfl
    simpa using h3⟩
theorem Wr0 : Wr (fun x => mkl [x]) [40] [41] [40] [41] 1 1 [] := ⟨wrap0, fun x => by rw [wtT_mkl]; simp; omega, fun x => by rw [szT_mkl]; simp, fun _ => rfl⟩
theorem Wr1 : Wr quo [39] [] [39] [] 2 2 [.nam quoL] := ⟨wrap1, fun x => by unfold quo; rw [wtT_mkl]; simp [wtT]; omega, fun x => by unfold quo; rw [szT_mkl]; simp [szT]; omega, fun _ => rfl⟩
theorem Wr2 : Wr quo [39] [] [40, 113, 117, 111, 116, 101, 32] [41] 2 2 [.nam quoL] := ⟨wrap2, Wr1.wt, Wr1.sz, fun _ => rfl⟩
theorem Wr3 : Wr (fun x => mkl [.num 7, x]) [40, 55, 32] [41] [40, 55, 32] [41] 2 9 [.num 7] := ⟨wrap7, fun x => by rw [wtT_mkl]; simp [wtT]; omega, fun x => by rw [szT_mkl]; simp [szT]; omega, fun _ => rfl⟩
theorem ins_rp {F : List Addr} {H : Hp} {q ia : Addr} {f : Tr → Tr} {P Q P' Q' : List Nat} {cw cs : Nat} {hd : List Tr} (h : Wr f P Q P' Q' cw cs hd) {t : Tr} {n : Nat} {d' : List Nat} {ws : List (List Nat)} {wi si : Int} (hws : ws = (hd ++ [itF f n t]).map can)
    (hq : H q = some (.tup [tV (listedL ws), tV d', .int wi, .int si, .ref ia])) (hi : H ia = some (.lst (wvs ws))) (nq : q ∉ F) (ni : ia ∉ F) (ew : wi = ((wtT t + cw * (n + 1) : Nat) : Int)) (es : si = ((szT t + cs * (n + 1) : Nat) : Int)) : Rp F H (.ref q) (rowD (itF f (n + 1) t) d') := by
  obtain ⟨w1, w2⟩ := h.itw (n + 1) t
  have e : itF f (n + 1) t = mkl (hd ++ [itF f n t]) := h.fx _
  subst hws
  rw [listed_can, ew, es, ← w1, ← w2, ← e] at hq
  refine .tup hq nq (.cons (.str _) (.cons (.str _) (.cons (.int _) (.cons (.int _) (.cons ?_ .nil)))))
  unfold memD
  rw [e, mkl_L, if_pos rfl, spread_mkl]
  have := RpA.strs (F := F) (H := H) ((hd ++ [itF f n t]).map can)
  rw [List.map_map (g := tD)] at this
  exact .lst hi ni this
def spIns : Sp := fun vs H Q _ => ∃ (p : Addr) (way many : Int) (F : List Addr) (t : Tr) (d : List Nat), vs = [.ref p, .int way, .int many] ∧ 0 ≤ way ∧ way < 4 ∧ 1 ≤ many ∧ many ≤ 51000 ∧ (way = 0 → many ≤ 20000) ∧ (way = 2 → many ≤ 6000) ∧ (way = 3 → many ≤ 10000) ∧ (∀ x ∈ F, Al H x) ∧ Rp F H (.ref p) (rowD t d) ∧ Row t d ∧ (can t).length ≤ 10000 ∧ d.length ≤ 10000 ∧
  ∀ (q : Addr) (t' : Tr) (d' : List Nat) (H' : Hp), Rp F H' (.ref q) (rowD t' d') → Row t' d' → (can t').length ≤ 70000 → d'.length ≤ 70000 → Kp [] H H' → Q (.ref q) H'
theorem ok_law_inside (T : Txt K mg) : FnOk P w K mg base CX0 2 T.a_law_inside T.d_law_inside ["row", "way", "many"] spIns := by
  refine T.law_inside.fn.ok sc_law_inside (fun vs H Q E h => ?_) (fun cdv A outer s H vs Q E hr h => ?_)
  · obtain ⟨b, e, m, F, t, d, rfl, _⟩ := h
    rfl
  · obtain ⟨p0, way, many, F, t, d, rfl, w0, w1, m0, m1, y0, y2, y3, hF, hR, hrow, l1, l2, k⟩ := h
    obtain ⟨p, m, e1, hp, npF, hm⟩ := row_item hR
    cases e1
    refine ⟨_, (pss_cons (ps_set (i := 3) sc_law_inside.nd rfl (Or.inl rfl) (pe_op op_mul_str (pe_ix ix_list (pe_lst (pa_cons pe_str (pa_cons pe_str (pa_cons pe_str (pa_cons pe_str pa_nil))))) (pv 1) (fun _ _ => rfl)) (pv 2)))
      (pss_cons (ps_set (i := 4) sc_law_inside.nd rfl (Or.inl rfl) (pe_op op_mul_str (pe_ix ix_list (pe_lst (pa_cons pe_str (pa_cons pe_str (pa_cons pe_str (pa_cons pe_str pa_nil))))) (pv 1) (fun _ _ => rfl)) (pv 2)))
      (pss_cons (ps_set (i := 5) sc_law_inside.nd rfl (Or.inl rfl) (pe_op op_add_str (pe_op op_add_str (pe_op op_mul_str (pe_ix ix_list (pe_lst (pa_cons pe_str (pa_cons pe_str (pa_cons pe_str (pa_cons pe_str pa_nil))))) (pv 1) (fun _ _ => rfl)) (pe_op op_sub (pv 2) pe_int)) (pe_ix ix_tup (pv 0) pe_int (fun _ _ => rfl))) (pe_op op_mul_str (pe_ix ix_list (pe_lst (pa_cons pe_str (pa_cons pe_str (pa_cons pe_str (pa_cons pe_str pa_nil))))) (pv 1) (fun _ _ => rfl)) (pe_op op_sub (pv 2) pe_int))))
      (pss_cons (ps_set (i := 6) sc_law_inside.nd rfl (Or.inl rfl) (pe_lst (pa_cons (pv 5) pa_nil)))
      (pss_cons (ps_if (pt_cmpR op_gt (pv 1) pe_int (nomark _)) (pss_one (ps_set (i := 6) sc_law_inside.nd rfl (Or.inl rfl) (pe_lst (pa_cons (pe_ix ix_list (pe_lst (pa_cons pe_str (pa_cons pe_str (pa_cons pe_str (pa_cons pe_str pa_nil))))) (pv 1) (fun _ _ => rfl)) (pa_cons (pv 5) pa_nil))))) pss_nil)
      (pss_cons (ps_set (i := 7) sc_law_inside.nd rfl (Or.inl rfl) (pe_op op_add (pe_ix ix_tup (pv 0) pe_int (fun _ _ => rfl)) (pe_op op_mul (pe_ix ix_list (pe_lst (pa_cons pe_int (pa_cons pe_int (pa_cons pe_int (pa_cons pe_int pa_nil))))) (pv 1) (fun _ _ => rfl)) (pv 2))))
      (pss_cons (ps_set (i := 8) sc_law_inside.nd rfl (Or.inl rfl) (pe_op op_add (pe_ix ix_tup (pv 0) pe_int (fun _ _ => rfl)) (pe_op op_mul (pe_ix ix_list (pe_lst (pa_cons pe_int (pa_cons pe_int (pa_cons pe_int (pa_cons pe_int pa_nil))))) (pv 1) (fun _ _ => rfl)) (pv 2))))
      (pss_one (ps_ret (pe_tup (pa_cons (pe_call (ok_law_listed (P := P) (w := w) (base := base) T) (hr.mono (by decide)) rfl T.law_listed.mg T.law_listed.fn.kp T.law_listed.b .nil pass0 (pa_cons (pv 6) pa_nil)) (pa_cons (pe_op op_add_str (pe_op op_add_str (pv 3) (pe_ix ix_tup (pv 0) pe_int (fun _ _ => rfl))) (pv 4)) (pa_cons (pv 7) (pa_cons (pv 8) (pa_cons (pv 6) pa_nil))))))))))))))), ?_⟩
    try dsimp only [cxOf, Cx.nox]
    simp only [lit_28, lit_27, lit_2871756f746520, lit_283720, lit_29, lit_, lit_71756f7465, lit_37]
    obtain ⟨mn, rfl⟩ := Int.eq_ofNat_of_zero_le (show 0 ≤ many by omega)
    obtain ⟨n, rfl⟩ : ∃ n, mn = n + 1 := ⟨mn - 1, by omega⟩
    have e1 : (((n + 1 : Nat) : Int) - 1).toNat = n := by omega
    have e2 : (((n + 1 : Nat) : Int)).toNat = n + 1 := by omega
    have c4 : way = 0 ∨ way = 1 ∨ way = 2 ∨ way = 3 := by omega
    rcases c4 with rfl | rfl | rfl | rfl
    · have W := Wr0
      have y0 := y0 rfl
      obtain ⟨a1, a2, a3⟩ := W.W.many n hrow.pr hrow.dr
      obtain ⟨b1, b2, b3⟩ := W.W.many (n + 1) hrow.pr hrow.dr
      have c1 := congrArg List.length a2
      have c2 := congrArg List.length b2
      simp only [List.length_append, repL_len, List.length_cons, List.length_nil] at c1 c2
      walk_at "w"
      refine iteD (fun h => ?_) (fun h => ?_)
      · exact absurd h (by omega)
      · walk_at "w"
        rename_i pI nI HI hI kI pA nA HA hA kA pB nB HB hB kB
        simp only [e1, ← a2] at hI
        simp only [e1, e2, ← a2]
        have hI : HI pI = some (.lst (wvs ((([] : List Tr) ++ [itF (fun x => mkl [x]) n t]).map can))) := hI
        refine ⟨pI, ([] ++ [itF (fun x => mkl [x]) n t]).map can, rfl, by walk_at "hp", by simp, ?_, ?_⟩
        · simp [sumL_cons, sumL_nil, can_nam, can_num, show TL.numL 7 = [55] from by decide, quoL]; omega
        walk_at "w"
        rename_i q nq HQ hq kq
        refine k q _ _ HQ (ins_rp W rfl hq (by walk_at "hp") (fun m => hF q m (by walk_at "nn")) (fun m => hF pI m (by walk_at "nn")) (by omega) (by omega)) ⟨b1, b3⟩ ?_ ?_ (by walk_at "kk")
        · omega
        · simp only [List.length_append, repL_len, List.length_cons, List.length_nil]; omega
    · have W := Wr1
      skip
      obtain ⟨a1, a2, a3⟩ := W.W.many n hrow.pr hrow.dr
      obtain ⟨b1, b2, b3⟩ := W.W.many (n + 1) hrow.pr hrow.dr
      have c1 := congrArg List.length a2
      have c2 := congrArg List.length b2
      simp only [List.length_append, repL_len, List.length_cons, List.length_nil] at c1 c2
      walk_at "w"
      refine iteD (fun h => ?_) (fun h => ?_)
      · walk_at "w"
        rename_i pI nI HI hI kI pA nA HA hA kA pB nB HB hB kB
        simp only [e1, ← a2] at hI
        simp only [e1, e2, ← a2]
        have hI : HI pI = some (.lst (wvs (([Tr.nam quoL] ++ [itF quo n t]).map can))) := hI
        refine ⟨pI, ([Tr.nam quoL] ++ [itF quo n t]).map can, rfl, by walk_at "hp", by simp, ?_, ?_⟩
        · simp [sumL_cons, sumL_nil, can_nam, can_num, show TL.numL 7 = [55] from by decide, quoL]; omega
        walk_at "w"
        rename_i q nq HQ hq kq
        refine k q _ _ HQ (ins_rp W rfl hq (by walk_at "hp") (fun m => hF q m (by walk_at "nn")) (fun m => hF pI m (by walk_at "nn")) (by omega) (by omega)) ⟨b1, b3⟩ ?_ ?_ (by walk_at "kk")
        · omega
        · simp only [List.length_append, repL_len, List.length_cons, List.length_nil]; omega
      · exact absurd h (by omega)
    · have W := Wr2
      have y2 := y2 rfl
      obtain ⟨a1, a2, a3⟩ := W.W.many n hrow.pr hrow.dr
      obtain ⟨b1, b2, b3⟩ := W.W.many (n + 1) hrow.pr hrow.dr
      have c1 := congrArg List.length a2
      have c2 := congrArg List.length b2
      simp only [List.length_append, repL_len, List.length_cons, List.length_nil] at c1 c2
      walk_at "w"
      refine iteD (fun h => ?_) (fun h => ?_)
      · walk_at "w"
        rename_i pI nI HI hI kI pA nA HA hA kA pB nB HB hB kB
        simp only [e1, ← a2] at hI
        simp only [e1, e2, ← a2]
        have hI : HI pI = some (.lst (wvs (([Tr.nam quoL] ++ [itF quo n t]).map can))) := hI
        refine ⟨pI, ([Tr.nam quoL] ++ [itF quo n t]).map can, rfl, by walk_at "hp", by simp, ?_, ?_⟩
        · simp [sumL_cons, sumL_nil, can_nam, can_num, show TL.numL 7 = [55] from by decide, quoL]; omega
        walk_at "w"
        rename_i q nq HQ hq kq
        refine k q _ _ HQ (ins_rp W rfl hq (by walk_at "hp") (fun m => hF q m (by walk_at "nn")) (fun m => hF pI m (by walk_at "nn")) (by omega) (by omega)) ⟨b1, b3⟩ ?_ ?_ (by walk_at "kk")
        · omega
        · simp only [List.length_append, repL_len, List.length_cons, List.length_nil]; omega
      · exact absurd h (by omega)
    · have W := Wr3
      have y3 := y3 rfl
      obtain ⟨a1, a2, a3⟩ := W.W.many n hrow.pr hrow.dr
      obtain ⟨b1, b2, b3⟩ := W.W.many (n + 1) hrow.pr hrow.dr
      have c1 := congrArg List.length a2
      have c2 := congrArg List.length b2
      simp only [List.length_append, repL_len, List.length_cons, List.length_nil] at c1 c2
      walk_at "w"
      refine iteD (fun h => ?_) (fun h => ?_)
      · walk_at "w"
        rename_i pI nI HI hI kI pA nA HA hA kA pB nB HB hB kB
        simp only [e1, ← a2] at hI
        simp only [e1, e2, ← a2]
        have hI : HI pI = some (.lst (wvs (([Tr.num 7] ++ [itF (fun x => mkl [Tr.num 7, x]) n t]).map can))) := hI
        refine ⟨pI, ([Tr.num 7] ++ [itF (fun x => mkl [Tr.num 7, x]) n t]).map can, rfl, by walk_at "hp", by simp, ?_, ?_⟩
        · simp [sumL_cons, sumL_nil, can_nam, can_num, show TL.numL 7 = [55] from by decide, quoL]; omega
        walk_at "w"
        rename_i q nq HQ hq kq
        refine k q _ _ HQ (ins_rp W rfl hq (by walk_at "hp") (fun m => hF q m (by walk_at "nn")) (fun m => hF pI m (by walk_at "nn")) (by omega) (by omega)) ⟨b1, b3⟩ ?_ ?_ (by walk_at "kk")
        · omega
        · simp only [List.length_append, repL_len, List.length_cons, List.length_nil]; omega
      · exact absurd h (by omega)
end
end Wh
set_option Elab.async false
set_option linter.all false
set_option maxRecDepth 100000
set_option maxHeartbeats 2000000
/-! The one form is at most twice as long as a dress. -/
namespace Wh
open PySem L2 PySem.Spec PyProof.Rows
theorem digitsVal_lt_aux : ∀ (l : List Nat) (a : Nat), l.all isDig = true → l.foldl (fun v c => v * 10 + (c - 48)) a < (a + 1) * 10 ^ l.length
  | [], a, _ => by simp
  | c :: r, a, h => by
    have hc : isDig c = true := by simp at h; exact h.1
    have hr : r.all isDig = true := by simp at h; simpa using h.2
    have ih := digitsVal_lt_aux r (a * 10 + (c - 48)) hr
    have c9 : c - 48 ≤ 9 := by simp [isDig] at hc; omega
    rw [List.foldl_cons, List.length_cons]
    refine Nat.lt_of_lt_of_le ih ?_
    have : (a * 10 + (c - 48) + 1) * 10 ^ r.length ≤ ((a + 1) * 10) * 10 ^ r.length := Nat.mul_le_mul_right _ (by omega)
    rw [Nat.pow_succ, Nat.mul_comm (10 ^ r.length) 10, ← Nat.mul_assoc]
    exact this
theorem digits_len {c : Nat} {r : List Nat} (h : (c :: r).all isDig = true) : (TL.numL (NumText.digitsVal (c :: r))).length ≤ (c :: r).length := by
  refine TL.numL_len (by simp) ?_
  have := digitsVal_lt_aux (c :: r) 0 h
  rw [Nat.zero_add, Nat.one_mul] at this
  exact this
theorem atom_len {p : List Nat} {t : Tr} (h : atom p = some t) : (can t).length ≤ p.length ∧ 0 < p.length := by
  cases p with
  | nil => cases h
  | cons c r =>
    refine ⟨?_, by simp⟩
    unfold atom at h
    dsimp only at h
    split at h
    · split at h
      · cases h
      · rename_i h1 h2
        split at h
        · cases h
        · cases h
          exact digits_len (by simpa using fun z => h2 (.inr z))
    · split at h
      · cases h; exact Nat.le_refl _
      · cases h
def pvT (t : Tr) : Nat := (can t).length + 1
def pwW : Wt → Nat
  | [] => 0
  | none :: w => 1 + pwW w
  | some l :: w => 1 + (l.map pvT).sum + pwW w
def ovT : Option Tr → Nat
  | none => 0
  | some t => pvT t
theorem settle_pot : ∀ (w : Wt) (t : Tr), pwW (settle w t).1 + ovT (settle w t).2 ≤ pwW w + pvT t
  | [], t => by simp [settle, pwW, ovT]
  | none :: w, t => by
    have := settle_pot w (quo t)
    have e : pvT (quo t) = pvT t + 1 := by unfold pvT; rw [can_quo]; simp
    simp only [settle, pwW]; omega
  | some l :: w, t => by simp [settle, pwW, ovT]; omega
theorem sum_pv (l : List Tr) : (l.map pvT).sum = sumL (l.map can) + l.length := by
  induction l with
  | nil => rfl
  | cons t r ih => rw [List.map_cons, List.sum_cons, ih, List.map_cons, sumL_cons, List.length_cons]; unfold pvT; omega
theorem take_pot {w : Wt} {p : List Nat} {q : Wt × Option Tr} (h : Wh.take w p = some q) : pwW q.1 + ovT q.2 ≤ pwW w + 2 * p.length := by
  unfold Wh.take at h
  split at h
  · rename_i e; cases h; subst e; simp [pwW, ovT]; omega
  · split at h
    · rename_i e; cases h; subst e; simp [pwW, ovT]; omega
    · split at h
      · rename_i e
        subst e
        split at h
        · rename_i l w'
          cases h
          have h1 := settle_pot w' (mkl l)
          have h2 := can_mkl_len l
          have h3 := sum_pv l
          have h4 : pvT (mkl l) = (can (mkl l)).length + 1 := rfl
          simp only [pwW, List.length_singleton]; omega
        · cases h
      · cases e : atom p with
        | none => rw [e] at h; cases h
        | some t =>
          rw [e] at h
          cases h
          have h1 := settle_pot w t
          have h2 := atom_len e
          have h4 : pvT t = (can t).length + 1 := rfl
          omega
theorem run_pot : ∀ (ts : List (List Nat)) (w : Wt) (v : Option Tr) (q : Wt × Option Tr), run w v ts = some q → pwW q.1 + ovT q.2 ≤ pwW w + ovT v + 2 * sumL ts
  | [], w, v, q, h => by
    cases v <;> (simp only [run] at h; cases h; simp)
  | p :: ts, w, some v, q, h => by simp [run] at h
  | p :: ts, w, none, q, h => by
    simp only [run] at h
    cases e : Wh.take w p with
    | none => rw [e] at h; cases h
    | some u =>
      rw [e] at h
      have h1 := run_pot ts u.1 u.2 q h
      have h2 := take_pot e
      rw [sumL_cons]
      have : ovT none = 0 := rfl
      omega
theorem tkA_sum : ∀ (d cur : List Nat), sumL (tkA cur d) ≤ cur.length + d.length
  | [], cur => by cases cur <;> simp [tkA, flush, sumL_cons, sumL_nil]
  | c :: r, cur => by
    by_cases h : isW c = true
    · simp only [tkA, h, if_true]
      have := tkA_sum r (cur ++ [c])
      simp at this ⊢; omega
    · rw [tkA_N _ _ h, sumL_app, sumL_app]
      have h1 := tkA_sum r []
      have h2 : sumL (flush cur) ≤ cur.length := by cases cur <;> simp [flush, sumL_cons, sumL_nil]
      have h3 : sumL (if isB c then [] else [[c]]) ≤ 1 := by split <;> simp [sumL_cons, sumL_nil]
      simp at h1 ⊢; omega
theorem Dr.can_len {t : Tr} {d : List Nat} (h : Dr t d) : (can t).length + 1 ≤ 2 * d.length := by
  have h1 := run_pot _ _ _ _ h.rd.run
  have h2 := tkA_sum d []
  have h3 : sumL (tk d) ≤ d.length := by simpa [tk] using h2
  have h4 : ovT (some t) = (can t).length + 1 := rfl
  have h5 : pwW [] = 0 := rfl
  have h6 : ovT none = 0 := rfl
  simp only [h5, h6, h4] at h1
  omega
end Wh
set_option Elab.async false
set_option linter.all false
set_option maxRecDepth 100000
set_option maxHeartbeats 2000000
/-! The law's great rows. -/
namespace Wh
open PySem L2 PySem.Spec PyProof.Rows
local macro_rules | `(tactic| walk_at "ne") => `(tactic| first | with_reducible assumption | (apply Ne.symm; with_reducible assumption))
local macro_rules | `(tactic| walk_at "hp") => `(tactic| first | with_reducible assumption | with_reducible exact upd_same | ((with_reducible refine (upd_ne ?n).trans ?h); (case n => walk_at "ne"); (case h => walk_at "hp")) | ((with_reducible show upd _ _ _ _ = _); exact upd_same))
local macro_rules | `(tactic| walk_at "cond") => `(tactic| first | with_reducible assumption | exact (rfl : (_ : Bool) = true) | ((try dsimp only) <;> first | with_reducible assumption | decide | omega) | exact ⟨by first | decide | omega | decide +kernel, by first | decide | omega | decide +kernel⟩ | decide +kernel | exact .inr ⟨by decide, by decide⟩ | exact .inl ⟨by decide, by decide⟩)
local macro_rules | `(tactic| walk_at "sq") => `(tactic| first | with_reducible assumption | exact SqL.of (by walk_at "hp"))
local macro_rules | `(tactic| walk_at "sz") => `(tactic| first | with_reducible assumption | (show _ ≤ 16777216; omega))
local macro_rules | `(tactic| walk_at "at") => `(tactic| first | with_reducible assumption | exact atI_nat (by with_reducible assumption) | exact atI_nat (j := 0) (rfl : (_ : Option Nat) = some _) | exact atI_nat (by assumption))
local macro_rules | `(tactic| walk_at "w1") => `(tactic| (fail_if_success with_reducible show @ite _ _ _ _ _); first
  | refine ⟨_, rfl, ?_⟩
  | refine ⟨_, _, (rfl : _ = V.int _), (rfl : _ = V.int _), And.intro (by walk_at "cond") ?_⟩
  | refine ⟨_, _, (rfl : _ = V.int _), (rfl : _ = V.int _), ?_⟩
  | refine ⟨_, _, (rfl : _ = V.str _), (rfl : _ = V.str _), And.intro (by walk_at "sz") ?_⟩
  | refine ⟨_, _, (rfl : _ = V.str _), (rfl : _ = V.str _), ?_⟩
  | refine ⟨_, _, _, _, (rfl : _ = V.ref _), (rfl : _ = V.int _), (by walk_at "sq"), rfl, ?_⟩
  | refine ⟨_, _, _, _, (rfl : _ = V.ref _), (rfl : _ = V.int _), (by walk_at "hp"), rfl, ?_⟩
  | refine ⟨Or.inl ⟨rfl, _, (by walk_at "sq")⟩, ?_⟩
  | refine ⟨_, _, _, (rfl : _ = V.ref _), (rfl : (_ : List V) = _), (by walk_at "hp"), (by with_reducible assumption), ?_⟩
  | refine ⟨_, _, (rfl : (_ : List V) = _), Or.inl ((by walk_at "sq")), ?_⟩
  | refine ⟨_, _, _, _, (rfl : _ = V.ref _), (rfl : _ = V.int _), (by walk_at "sq"), (by walk_at "at"), ?_⟩
  | refine ⟨_, _, _, (rfl : _ = V.str _), (rfl : _ = V.int _), (by walk_at "sz"), (by walk_at "at"), ?_⟩
  | refine ⟨_, _, (rfl : (_ : List V) = [V.str _]), SX.int_S (by assumption) (by simp) (by assumption), (by assumption), ?_⟩
  | refine ⟨_, _, (rfl : (_ : List V) = [_, _]), ?_⟩
  | refine ⟨_, _, (rfl : _ = V.ref _), (by walk_at "sq"), ?_⟩
  | refine ⟨(rfl : (_ : Bool) = true), ?_⟩
  | refine ⟨(rfl : (_ : V) = V.non), ?_⟩
  | refine And.intro (by walk_at "sz") ?_
  | refine ⟨⟨_, (rfl : _ = V.str _)⟩, ?_⟩
  | refine ⟨_, (rfl : _ = V.str _), (rfl : (_ : List V) = _), trivial, ?_⟩
  | refine .inl ⟨_, rfl, ?_⟩)
local macro_rules | `(tactic| walk_at "w") => `(tactic| repeat walk_at "w1")
local macro_rules | `(tactic| walk_at "fld") => `(tactic| (fail_if_success with_reducible show @ite _ _ _ _ _); first
  | refine ⟨_, _, _, _, _, (rfl : _ = V.ref _), (by walk_at "hp"), Txt.cl_Heap _, Txt.nf__shapes _, hz_shapes _, ?_⟩
  | refine ⟨_, _, _, _, _, (rfl : _ = V.ref _), (by walk_at "hp"), Txt.cl_Heap _, Txt.nf__faces _, hz_faces _, ?_⟩
  | refine ⟨_, _, _, _, _, (rfl : _ = V.ref _), (by walk_at "hp"), Txt.cl_Heap _, Txt.nf__firsts _, hz_firsts _, ?_⟩
  | refine ⟨_, _, _, _, _, (rfl : _ = V.ref _), (by walk_at "hp"), Txt.cl_Heap _, Txt.nf__seconds _, hz_seconds _, ?_⟩
  | refine ⟨_, _, _, _, _, (rfl : _ = V.ref _), (by walk_at "hp"), Txt.cl_Heap _, Txt.nf__hefts _, hz_hefts _, ?_⟩
  | refine ⟨_, _, _, _, _, (rfl : _ = V.ref _), (by walk_at "hp"), Txt.cl_Heap _, Txt.nf__numbers _, hz_numbers _, ?_⟩
  | refine ⟨_, _, _, _, _, (rfl : _ = V.ref _), (by walk_at "hp"), Txt.cl_Heap _, Txt.nf__names _, hz_names _, ?_⟩
  | refine ⟨_, _, _, _, _, (rfl : _ = V.ref _), (by walk_at "hp"), Txt.cl_Heap _, Txt.nf__pairs _, hz_pairs _, ?_⟩)
local macro_rules | `(tactic| walk_at "wf") => `(tactic| repeat first | walk_at "w1" | walk_at "fld")
local macro_rules | `(tactic| walk_at "mem") => `(tactic| first | (first | with_reducible assumption | exact mem_hd | (refine' mem_tl ?h; (case h => walk_at "mem"))) | fail)
local macro_rules | `(tactic| walk_at "ni") => `(tactic| first | (first | with_reducible assumption | exact ni_nil | (refine' ni_cons ?n ?r; (case n => walk_at "ne"); (case r => walk_at "ni"))) | fail)
local macro_rules | `(tactic| walk_at "al") => `(tactic| first | (first | (refine' Al.of ?h; (case h => with_reducible assumption)) | (refine' BoxAt.al ?h; (case h => with_reducible assumption)) | (refine' Al.kp ?k ?n ?h; (case k => with_reducible assumption); (case n => walk_at "ni"); (case h => walk_at "al"))) | fail)
local macro_rules | `(tactic| walk_at "ne") => `(tactic| first | (first | with_reducible assumption | (apply Ne.symm; with_reducible assumption) | (refine' ne_fr1 ?f ?l; (case f => with_reducible assumption); (case l => walk_at "al")) | (refine' ne_fr2 ?f ?l; (case f => with_reducible assumption); (case l => walk_at "al")) | (refine' ne_nf ?n ?m; (case n => with_reducible assumption); (case m => walk_at "mem")) | (apply Ne.symm; (refine' ne_nf ?n ?m; (case n => with_reducible assumption); (case m => walk_at "mem")))) | fail)
local macro_rules | `(tactic| walk_at "hp") => `(tactic| first | (first | with_reducible assumption | (refine' Kp.look ?k ?n ?h; (case k => with_reducible assumption); (case n => walk_at "ni"); (case h => walk_at "hp"))) | fail)
local macro_rules | `(tactic| walk_at "bx") => `(tactic| first | (first | with_reducible assumption | (refine' BoxAt.kp' ?k ?n ?h; (case k => with_reducible assumption); (case n => walk_at "ni"); (case h => walk_at "bx"))) | fail)
local macro_rules | `(tactic| walk_at "sz") => `(tactic| first | (walk_at "bx") | fail)
local macro_rules | `(tactic| walk_at "su") => `(tactic| first | (first | with_reducible assumption | exact su_nil | (refine' su_cons ?a ?b; (case a => walk_at "mem"); (case b => walk_at "su"))) | fail)
local macro_rules | `(tactic| walk_at "rp") => `(tactic| first | (first | with_reducible assumption | (refine' Rp.kp ?k ?s ?h; (case k => with_reducible assumption); (case s => walk_at "su"); (case h => walk_at "rp")) | (refine' RpA.kp ?k ?s ?h; (case k => with_reducible assumption); (case s => walk_at "su"); (case h => walk_at "rp"))) | fail)
local macro_rules | `(tactic| walk_at "nb") => `(tactic| first | (first | exact id | (refine' nn_back ?k ?n ?c; (case k => with_reducible assumption); (case n => walk_at "ni"); (case c => walk_at "nb"))) | fail)
local macro_rules | `(tactic| walk_at "nn") => `(tactic| first | (first | with_reducible assumption | (refine' nn_start ?n ?c; (case n => with_reducible assumption); (case c => walk_at "nb"))) | fail)
local macro_rules | `(tactic| walk_at "fr") => `(tactic| first | (first | exact fr_nil | (refine' fr_cons ?a ?b; (case a => first | (left; walk_at "mem") | (right; walk_at "nn")); (case b => walk_at "fr"))) | fail)
local macro_rules | `(tactic| walk_at "kk") => `(tactic| first | (first | exact Kp.refl _ | with_reducible assumption | (refine' Kp.step ?p ?k ?s; (case k => with_reducible assumption); (case p => walk_at "kk"); (case s => walk_at "fr"))) | fail)
local macro_rules | `(tactic| walk_at "new") => `(tactic| first | ((intro p np; generalize eH : upd _ p _ = H'; have hp := (newN np eH).1; (try dsimp only at hp); (try simp only [cutV_none_nat, cutV_nat_none, cutV_nat_nat, cutV_mid, cutV_mid1, cutV_from2, cutV_from1, cutV_to1, cutV_to3, cutV_tail, flat_one, Int.toNat_natCast] at hp); have kp := (newN np eH).2; clear eH)) | fail)
local macro_rules | `(tactic| walk_at "sto") => `(tactic| first | ((generalize eH : upd _ _ _ = H'; obtain ⟨hp, kp⟩ := newS eH; clear eH)) | fail)
local macro_rules | `(tactic| walk_at "w1") => `(tactic| first | ((fail_if_success with_reducible show @ite _ _ _ _ _); first | ((refine ⟨(show _ ≤ sizeLine by (first | exact Nat.le_of_ble_eq_true rfl | (show _ ≤ 16777216; omega))), ?_⟩); walk_at "new") | ((with_reducible show ∀ p, _ = none → _); walk_at "new")) | fail)
local macro_rules | `(tactic| walk_at "v") => `(tactic| first | (repeat ((fail_if_success with_reducible show tSeq (tIfS _ _ _) _ _ _ _); first | walk_at "w1" | walk_at "fld")) | fail)
local macro_rules | `(tactic| walk_at "tk") => `(tactic| first | ((try (refine ⟨(by walk_at "bx"), ?_⟩)); (try (refine ⟨(by first | decide | omega), ?_⟩)); (try (refine ⟨(by first | decide | omega), ?_⟩))) | fail)
local macro_rules | `(tactic| walk_at "sq") => `(tactic| first | (exact SqT.of (by walk_at "hp")) | fail)
local macro_rules | `(tactic| walk_at "szl") => `(tactic| first | (first | exact Nat.le_of_ble_eq_true rfl | (show _ ≤ 16777216; simp only [List.length_append, List.length_take, List.length_drop, List.length_cons, List.length_nil, List.length_map, List.length_replicate]; omega)) | fail)
local macro_rules | `(tactic| walk_at "w1") => `(tactic| first | ((fail_if_success with_reducible show @ite _ _ _ _ _); first | ((refine ⟨_, _, _, _, (rfl : _ = V.ref _), (rfl : _ = V.ref _), (by first | walk_at "hp" | walk_at "sq"), (by first | walk_at "hp" | walk_at "sq"), (by walk_at "szl"), ?_⟩); walk_at "new")) | fail)
local macro_rules | `(tactic| walk_at "szs") => `(tactic| first | (rw [SX.S_len, SX.S_len]; show _ ≤ 16777216; (try simp only [List.length_append, List.length_cons, List.length_nil, repL_len]); omega) | fail)
local macro_rules | `(tactic| walk_at "szm") => `(tactic| first | (rw [SX.S_len]; (try simp only [List.length_append, List.length_cons, List.length_nil, repL_len]); omega) | fail)
local macro_rules | `(tactic| walk_at "sz") => `(tactic| first | (rw [SX.S_len]; show _ ≤ 16777216; omega) | fail)
local macro_rules | `(tactic| walk_at "szr") => `(tactic| first | (show _ ≤ 16777216; simp only [List.length_cons, List.length_nil, Int.toNat_natCast]; omega) | fail)
local macro_rules | `(tactic| walk_at "w1") => `(tactic| first | ((fail_if_success with_reducible show @ite _ _ _ _ _); first | ((refine ⟨_, _, _, (rfl : _ = V.ref _), (rfl : _ = V.int _), (by walk_at "hp"), (by omega), (by omega), (by walk_at "szr"), ?_⟩); walk_at "new")) | fail)
local macro_rules | `(tactic| walk_at "cond") => `(tactic| first | (exact Or.inl (And.intro (by omega) (by omega))) | fail)
local macro_rules | `(tactic| walk_at "w1") => `(tactic| first | ((fail_if_success with_reducible show @ite _ _ _ _ _); first
  | ((refine ⟨_, _, (rfl : _ = V.str (SX.S _)), (rfl : _ = V.str (SX.S _)), And.intro (by walk_at "szs") ?_⟩); rw [SX.S_cat])
  | ((refine ⟨_, _, (rfl : _ = V.str (SX.S _)), (rfl : _ = V.int _), (by omega), (by omega), (fun _ => by walk_at "szm"), ?_⟩); rw [mul_S])) | fail)
section
variable {P : Program} {w : World} {K : PySem.W.Frag} {mg : Str → Option Value} {base : Heap}
theorem Dr_many' {x : Tr} {d : List Nat} (h : Dr x d) {n : Nat} (hn : 1 ≤ n) : Dr (mkl (List.replicate n x)) ([40] ++ TL.joinL [10] (List.replicate n d) ++ [32, 41]) := by
  obtain ⟨m, rfl⟩ : ∃ m, n = m + 1 := ⟨n - 1, by omega⟩
  have := (DrP_many h m).close (g := [32]) rfl
  rw [List.replicate_succ (a := d), joinL_cons, flat_rep]
  simpa [List.append_assoc] using this
structure RowsG (ts : List Tr) (ds : List (List Nat)) : Prop where
  pd : Paired Row ts ds
  ln : ds.length ≤ 60
  s1 : sumL (ts.map can) ≤ 150000
  s2 : sumL ds ≤ 150000
theorem RowsB.putG {ts : List Tr} {ds : List (List Nat)} {t : Tr} {d : List Nat} {i : Nat} (h : RowsB ts ds 60 2000) (hi : i < ds.length) (hr : Row t d) (l1 : (can t).length ≤ 140000) (l2 : d.length ≤ 140000) :
    RowsG (ts.take i ++ [t] ++ ts.drop (i + 1)) (ds.take i ++ [d] ++ ds.drop (i + 1)) := by
  have a1 := sumL_take_le (ts.map can) i
  have a2 := sumL_drop_le (ts.map can) (i + 1)
  have a3 := sumL_take_le ds i
  have a4 := sumL_drop_le ds (i + 1)
  have e1 := sumL_app (ds.take i) (ds.drop i)
  rw [List.take_append_drop] at e1
  have e2 := sumL_app ((ds.drop i).take 1) ((ds.drop i).drop 1)
  rw [List.take_append_drop, List.drop_drop] at e2
  have f1 := sumL_app ((ts.map can).take i) ((ts.map can).drop i)
  rw [List.take_append_drop] at f1
  have f2 := sumL_app (((ts.map can).drop i).take 1) (((ts.map can).drop i).drop 1)
  rw [List.take_append_drop, List.drop_drop] at f2
  have h1 := h.s1
  have h2 := h.s2
  have h3 := h.ln
  have h4 := h.len
  refine ⟨paired_app (paired_app (paired_take _ h.pd) (.cons hr .nil)) (paired_drop _ h.pd), ?_, ?_, ?_⟩
  · simp only [List.length_append, List.length_take, List.length_drop, List.length_singleton]; omega
  · rw [List.map_append, List.map_append, List.map_take, List.map_drop, sumL_app, sumL_app, List.map_cons, List.map_nil, sumL_cons, sumL_nil]; omega
  · rw [sumL_app, sumL_app, sumL_cons, sumL_nil]; omega
theorem RowsB.G {ts : List Tr} {ds : List (List Nat)} (h : RowsB ts ds 60 2000) : RowsG ts ds := ⟨h.pd, h.ln, Nat.le_trans h.s1 (by decide), Nat.le_trans h.s2 (by decide)⟩
theorem sr_rep (n a : Nat) : (List.replicate n a).sum = n * a := by
  induction n with
  | zero => simp
  | succ n ih => rw [List.replicate_succ, List.sum_cons, ih, Nat.succ_mul]; omega
theorem join_sz {s l : List Nat} {n : Nat} (hs : s.length = 1) (hz : n * l.length + n ≤ 16777216) : ((List.replicate n (SX.S l)).map (·.length)).sum + (List.replicate n (SX.S l)).length * (SX.S s).length ≤ 16777216 := by
  rw [List.map_replicate, sr_rep, List.length_replicate, SX.S_len, SX.S_len, hs]; omega
theorem join_rep (s l : List Nat) (n : Nat) : Txt.join (SX.S s) (List.replicate n (SX.S l)) = SX.S (TL.joinL s (List.replicate n l)) := by
  rw [← List.map_replicate, SX.join_S]
theorem many_rp {F : List Addr} {H : Hp} {q ia : Addr} {t : Tr} {m : Nat} {d' : List Nat} {wi si : Int} (h3 : 3 ≤ m) (hq : H q = some (.tup [tV ([40] ++ TL.joinL [32] (List.replicate m (can t)) ++ [41]), tV d', .int wi, .int si, .ref ia])) (hi : H ia = some (.lst (List.replicate m (tV (can t))))) (nq : q ∉ F) (ni : ia ∉ F)
    (ew : wi = 1 + (m : Int) * ((wtT t : Nat) : Int)) (es : si = (m : Int) * (((szT t : Nat) : Int) + 1)) : Rp F H (.ref q) (rowD (mkl (List.replicate m t)) d') := by
  have w1 : wi = ((wtT (mkl (List.replicate m t)) : Nat) : Int) := by
    rw [wtT_mkl, List.map_replicate, sr_rep, ew, Int.natCast_add, Int.natCast_mul]; rfl
  have w2 : si = ((szT (mkl (List.replicate m t)) : Nat) : Int) := by
    rw [szT_mkl, List.map_replicate, sr_rep, es, Int.natCast_mul]; rfl
  rw [w1, w2, ← can_many h3] at hq
  refine .tup hq nq (.cons (.str _) (.cons (.str _) (.cons (.int _) (.cons (.int _) (.cons ?_ .nil)))))
  unfold memD
  rw [mkl_L, if_pos rfl, spread_mkl, List.map_replicate]
  exact .lst hi ni (.rep (.str _) m)
theorem Row.many {t : Tr} {d : List Nat} (h : Row t d) {m : Nat} (hm : 1 ≤ m) : Row (mkl (List.replicate m t)) ([40] ++ TL.joinL [10] (List.replicate m d) ++ [32, 41]) :=
  ⟨mkl_Pr fun u hu => by rw [List.eq_of_mem_replicate hu]; exact h.pr, Dr_many' h.dr hm⟩
def spGreat : Sp := fun vs H Q _ => ∃ (b a : Addr) (F : List Addr) (ts : List Tr) (ds : List (List Nat)), vs = [.ref b, .ref a] ∧ BoxAt H b ∧ b ∈ F ∧ (∀ x ∈ F, Al H x) ∧ Rp F H (.ref a) (.list (rowsD ts ds)) ∧ RowsB ts ds 60 2000 ∧ 0 < ds.length ∧
  ∀ (a' : Addr) (ts' : List Tr) (ds' : List (List Nat)) (H' : Hp), Rp F H' (.ref a') (.list (rowsD ts' ds')) → RowsG ts' ds' → BoxAt H' b → Kp [b] H H' → Q (.ref a') H'
theorem ok_law_great (T : Txt K mg) : FnOk P w K mg base CX0 4 T.a_law_great T.d_law_great ["box", "rows"] spGreat := by
  refine T.law_great.fn.ok sc_law_great (fun vs H Q E h => ?_) (fun cdv A outer s H vs Q E hr h => ?_)
  · obtain ⟨b, a, F, ts, ds, rfl, _⟩ := h
    rfl
  · obtain ⟨b, a0, F, ts, ds, rfl, hb, hbF, hF, hR, B, hpos, k⟩ := h
    obtain ⟨a, vs, e1, ha, naF, hA⟩ := hR.lst'
    cases e1
    have hlen := B.len
    have hvl : vs.length = ds.length := by rw [hA.len, rowsD_len hlen]
    have hln := B.ln
    have nab := ne_nf naF hbF
    refine ⟨_, (pss_cons (ps_set (i := 2) sc_law_great.nd rfl (Or.inl rfl) (pe_call (ok_law_take (P := P) (w := w) (base := base) T) (hr.mono (by decide)) rfl T.law_take.mg T.law_take.fn.kp T.law_take.b .nil pass0 (pa_cons (pv 0) (pa_cons pe_int pa_nil))))
      (pss_cons (ps_set (i := 3) sc_law_great.nd rfl (Or.inl rfl) (pe_call (ok_law_take (P := P) (w := w) (base := base) T) (hr.mono (by decide)) rfl T.law_take.mg T.law_take.fn.kp T.law_take.b .nil pass0 (pa_cons (pv 0) (pa_cons (pe_callB call_len_seq (by rfl) T.b_len (by decide +kernel) (pa_cons (pv 1) pa_nil)) pa_nil))))
      (pss_cons (ps_set (i := 4) sc_law_great.nd rfl (Or.inl rfl) (pe_call (ok_law_take (P := P) (w := w) (base := base) T) (hr.mono (by decide)) rfl T.law_take.mg T.law_take.fn.kp T.law_take.b .nil pass0 (pa_cons (pv 0) (pa_cons pe_int pa_nil))))
      (pss_cons (ps_set (i := 5) sc_law_great.nd rfl (Or.inl rfl) (pe_op op_add pe_int (pe_call (ok_law_take (P := P) (w := w) (base := base) T) (hr.mono (by decide)) rfl T.law_take.mg T.law_take.fn.kp T.law_take.b .nil pass0 (pa_cons (pv 0) (pa_cons pe_int pa_nil)))))
      (pss_cons (ps_if (pt_cmpR op_gt (pv 2) pe_int (nomark _)) (pss_one (ps_ret (pv 1))) pss_nil)
      (pss_cons (ps_if (pt_cmpR op_lt (pv 2) pe_int (nomark _)) (pss_one (ps_set (i := 5) sc_law_great.nd rfl (Or.inl rfl) (pe_op op_add pe_int (pe_call (ok_law_take (P := P) (w := w) (base := base) T) (hr.mono (by decide)) rfl T.law_take.mg T.law_take.fn.kp T.law_take.b .nil pass0 (pa_cons (pv 0) (pa_cons pe_int pa_nil)))))) pss_nil)
      (pss_cons (ps_set (i := 6) sc_law_great.nd rfl (Or.inl rfl) (pe_ix ix_list (pv 1) (pv 3) (fun _ _ => rfl)))
      (pss_cons (ps_if (pt_cmpR op_eq (pv 4) pe_int (nomark _)) (pss_cons (ps_set (i := 5) sc_law_great.nd rfl (Or.inl rfl) (pe_op op_add pe_int (pv 5)))
      (pss_cons (ps_if (pt_cmpR op_eq (pv 2) pe_int (nomark _)) (pss_cons (ps_set (i := 6) sc_law_great.nd rfl (Or.inl rfl) (pe_call (ok_law_word (P := P) (w := w) (base := base) T) (hr.mono (by decide)) rfl T.law_word.mg T.law_word.fn.kp T.law_word.b .nil pass0 (pa_cons (pv 0) pa_nil)))
      (pss_one (ps_set (i := 5) sc_law_great.nd rfl (Or.inl rfl) (pe_op op_fdiv pe_int (pe_callB call_len_str (by rfl) T.b_len (by decide +kernel) (pa_cons (pe_ix ix_tup (pv 6) pe_int (fun _ _ => rfl)) pa_nil)))))) pss_nil)
      (pss_cons (ps_if (pt_cmpR op_gt (pe_op op_mul (pv 5) (pe_callB call_len_str (by rfl) T.b_len (by decide +kernel) (pa_cons (pe_ix ix_tup (pv 6) pe_int (fun _ _ => rfl)) pa_nil))) pe_int (nomark _)) (pss_one (ps_ret (pv 1))) pss_nil)
      (pss_cons (ps_set (i := 7) sc_law_great.nd rfl (Or.inl rfl) (pe_op op_rep (pe_lst (pa_cons (pe_ix ix_tup (pv 6) pe_int (fun _ _ => rfl)) pa_nil)) (pv 5)))
      (pss_cons (ps_set (i := 8) sc_law_great.nd rfl (Or.inl rfl) (pe_op op_add_str (pe_op op_add_str pe_str (pe_join pe_str (pe_op op_rep (pe_lst (pa_cons (pe_ix ix_tup (pv 6) pe_int (fun _ _ => rfl)) pa_nil)) (pv 5)))) pe_str))
      (pss_cons (ps_set (i := 9) sc_law_great.nd rfl (Or.inl rfl) (pe_tup (pa_cons (pe_op op_add_str (pe_op op_add_str pe_str (pe_join pe_str (pv 7))) pe_str) (pa_cons (pv 8) (pa_cons (pe_op op_add pe_int (pe_op op_mul (pv 5) (pe_ix ix_tup (pv 6) pe_int (fun _ _ => rfl)))) (pa_cons (pe_op op_mul (pv 5) (pe_op op_add (pe_ix ix_tup (pv 6) pe_int (fun _ _ => rfl)) pe_int)) (pa_cons (pv 7) pa_nil)))))))
      (pss_one (ps_ret (pe_op op_cat (pe_op op_cat (pe_slice sl_list (pv 1) po_none (po_some (pv 3))) (pe_lst (pa_cons (pv 9) pa_nil))) (pe_slice sl_list (pv 1) (po_some (pe_op op_add (pv 3) pe_int)) po_none)))))))))) pss_nil)
      (pss_cons (ps_if (pt_cmpR op_eq (pv 2) pe_int (nomark _)) (pss_one (ps_set (i := 5) sc_law_great.nd rfl (Or.inl rfl) (pe_ix ix_list (pe_lst (pa_cons pe_int (pa_cons pe_int (pa_cons pe_int (pa_cons pe_int pa_nil))))) (pv 4) (fun _ _ => rfl)))) pss_nil)
      (pss_one (ps_ret (pe_op op_cat (pe_op op_cat (pe_slice sl_list (pv 1) po_none (po_some (pv 3))) (pe_lst (pa_cons (pe_call (ok_law_inside (P := P) (w := w) (base := base) T) (hr.mono (by decide)) rfl T.law_inside.mg T.law_inside.fn.kp T.law_inside.b .nil pass0 (pa_cons (pv 6) (pa_cons (pv 4) (pa_cons (pv 5) pa_nil)))) pa_nil))) (pe_slice sl_list (pv 1) (po_some (pe_op op_add (pv 3) pe_int)) po_none))))))))))))), ?_⟩
    try dsimp only [cxOf, Cx.nox]
    simp only [lit_2029, lit_28, lit_29, lit_0a, lit_20]
    refine tSeq_join6 (fun σ H5 => ∃ (sz way m : Int) (i : Nat), σ = [some (.ref b), some (.ref a0), some (.int sz), some (.int (i : Int)), some (.int way), some (.int m), none, none, none, none] ∧ i < ds.length ∧ 0 ≤ way ∧ way < 5 ∧ 1 ≤ m ∧ m ≤ 3000 ∧ BoxAt H5 b ∧ Kp [b] H H5) ?_ (fun N hj => ?_)
    · rintro σ H5 ⟨sz, way, m, i, rfl, hi, w0, w1, m0, m1, hb5, kp5⟩
      obtain ⟨t, ht⟩ : ∃ t, ts[i]? = some t := ⟨ts[i], List.getElem?_eq_getElem (by omega)⟩
      obtain ⟨d, hd⟩ : ∃ d, ds[i]? = some d := ⟨ds[i], List.getElem?_eq_getElem hi⟩
      have hA5 : RpA F H5 vs (rowsD ts ds) := by walk_at "rp"
      obtain ⟨v, hv, rv⟩ := hA5.at (i := i) (d := rowD t d) (by unfold rowsD; rw [List.getElem?_zipWith, ht, hd])
      obtain ⟨r, mm, rfl, hr0, nrF, hmm⟩ := row_item rv
      have hrow : Row t d := by
        obtain ⟨t', h1, h2⟩ := paired_at B.pd hd
        rw [ht] at h1
        cases h1
        exact h2
      have dl := hrow.dr.can_len
      have d2 : d.length ≤ 2000 := Nat.le_trans (sumL_at hd) B.s2
      have c2 : (can t).length ≤ 2000 := Nat.le_trans (sumL_at (ws := ts.map can) (by rw [List.getElem?_map, ht]; rfl)) B.s1
      walk_at "w"
      refine iteD (fun h1 => ?_) (fun h1 => ?_)
      · dsimp only
        refine tSeq_join2 (fun σ H6 => ∃ (r : Addr) (t : Tr) (d : List Nat) (m : Nat), σ = [some (.ref b), some (.ref a0), some (.int sz), some (.int (i : Int)), some (.int way), some (.int (m : Int)), some (.ref r), none, none, none] ∧ Rp F H6 (.ref r) (rowD t d) ∧ Row t d ∧ 3 ≤ m ∧ m ≤ 30000 ∧ d.length ≤ 2000 ∧ (can t).length ≤ 2000 ∧ BoxAt H6 b ∧ Kp [b] H5 H6) ?_ (fun N hj => ?_)
        · clear hv rv hr0 nrF hmm hrow dl d2 c2 ht hd
          rintro σ H6 ⟨r, t, d, m, rfl, R6, hrow, m2, m3, dl2, cl2, hb6, kp6⟩
          obtain ⟨r', mm, e6, hr6, nrF, hmm⟩ := row_item R6
          cases e6
          have dl := hrow.dr.can_len
          have hA6 : RpA F H6 vs (rowsD ts ds) := by walk_at "rp"
          have hvl6 : vs.length ≤ 60 := by omega
          walk_at "w"
          refine iteD (fun h2 => ?_) (fun h2 => ?_)
          · walk_at "w"
            exact k a0 ts ds H6 (by walk_at "rp") B.G (by walk_at "bx") (by walk_at "kk")
          · rw [SX.S_len] at h2
            have h3 : m * d.length ≤ 50000 := by
              have : ((m * d.length : Nat) : Int) = (m : Int) * (d.length : Int) := Int.natCast_mul _ _
              omega
            have h4 : m * (can t).length ≤ 100000 := by
              have : m * ((can t).length + 1) ≤ m * (2 * d.length) := Nat.mul_le_mul_left _ dl
              rw [Nat.mul_add, Nat.mul_left_comm] at this
              omega
            have jt := joinL_rep_len [32] (can t) rfl m
            have jd := joinL_rep_len [10] d rfl m
            rw [Nat.mul_add, Nat.mul_one] at jt jd
            walk_at "w"
            refine ⟨_, _, List.replicate m (SX.S d), rfl, rfl, .inl (SqL.of (by rw [List.map_replicate]; walk_at "hp")), join_sz rfl (by omega), ?_⟩
            rw [join_rep]
            walk_at "w"
            refine ⟨_, _, List.replicate m (SX.S (can t)), rfl, rfl, .inl (SqL.of (by rw [List.map_replicate]; walk_at "hp")), join_sz rfl (by omega), ?_⟩
            rw [join_rep]
            walk_at "w"
            rename_i pW nW HW hW kW pA nA HA hA' kA pB nB HB hB kB pC nC HC hC kC pD nD HD hD kD pE nE HE hE kE
            have T0 := hrow.many (m := m) (by omega)
            have hA9 : RpA F HE vs (rowsD ts ds) := by walk_at "rp"
            have r9 : Rp F HE (.ref pW) (rowD (mkl (List.replicate m t)) ([40] ++ TL.joinL [10] (List.replicate m d) ++ [32, 41])) :=
              many_rp m2 (by walk_at "hp") (by walk_at "hp") (fun m => hF pW m (by walk_at "nn")) (fun m => hF _ m (by walk_at "nn")) rfl rfl
            refine k pE _ _ HE (.lst hE (fun m => hF pE m (by walk_at "nn")) ?_) (B.putG hi T0 ?_ ?_) (by walk_at "bx") (by walk_at "kk")
            · rw [rowsD_cut hlen]
              exact ((hA9.take _).app (.one r9)).app (hA9.drop _)
            · rw [can_many m2]; simp only [List.length_append, List.length_cons, List.length_nil]; omega
            · simp only [List.length_append, List.length_cons, List.length_nil]; omega
        · refine tSeq_go ?_
          walk_at "w"
          refine iteD (fun h2 => ?_) (fun h2 => ?_)
          · walk_at "w"
            intro t' l n p6 H6 wr np hp hb6 kp6
            have hl := wr.2.2.1
            have hl0 := wr.2.2.2.1
            have hcl := wr.2.1
            have e : (30000 : Int) / ((SX.S (can t')).length : Int) = ((30000 / l.length : Nat) : Int) := by rw [SX.S_len, hcl]; rfl
            have q1 : 2500 ≤ 30000 / l.length := (Nat.le_div_iff_mul_le hl0).mpr (by omega)
            have q2 : 30000 / l.length ≤ 30000 := Nat.div_le_self _ _
            rw [← hcl] at hp
            have hcl2 : (can t').length ≤ 12 := by rw [hcl]; exact hl
            walk_at "w"
            refine ⟨⟨by rw [SX.S_len, hcl]; omega, by rw [SX.S_len, hcl]; omega⟩, ?_⟩
            dsimp only
            rw [e]
            exact hj _ _ ⟨p6, t', l, _, rfl, wr.rp (by rw [← hcl]; exact hp) (fun m => hF p6 m (by walk_at "nn")), wr.1, by omega, by omega, by omega, by omega, hb6, kp6⟩
          · obtain ⟨mn, rfl⟩ := Int.eq_ofNat_of_zero_le (show 0 ≤ m by omega)
            exact hj _ _ ⟨r, t, d, 2 + mn, rfl, by walk_at "rp", hrow, by omega, by omega, by omega, by omega, by walk_at "bx", by walk_at "kk"⟩
      · have hA6 : RpA F H5 vs (rowsD ts ds) := by walk_at "rp"
        have AF : ∀ x ∈ F, Al H5 x := fun x hx => by
          by_cases e : x = b
          · subst e; exact hb5.al
          · exact (hF x hx).kp kp5 (ni_cons e ni_nil)
        have hw4 : way ≠ 4 := fun q => h1 (by rw [q])
        dsimp only [tNext]
        refine tSeq_join (fun σ H6 => ∃ m : Int, σ = [some (.ref b), some (.ref a0), some (.int sz), some (.int (i : Int)), some (.int way), some (.int m), some (.ref r), none, none, none] ∧ 1 ≤ m ∧ m ≤ 51000 ∧ (way = 0 → m ≤ 20000) ∧ (way = 2 → m ≤ 6000) ∧ (way = 3 → m ≤ 10000) ∧ Kp [] H5 H6) ?_ (fun N hj => ?_)
        · rintro σ H6 ⟨m, rfl, m2, m3, m4, m5, m6, kp6⟩
          have hA6 : RpA F H6 vs (rowsD ts ds) := by walk_at "rp"
          have AF : ∀ x ∈ F, Al H6 x := fun x hx => (AF x hx).kp kp6 ni_nil
          walk_at "w"
          refine ⟨r, way, m, F, t, d, rfl, w0, by omega, m2, m3, m4, m5, m6, fun x hx => (AF x hx).kp ?_ ni_nil, by walk_at "rp", hrow, by omega, by omega, fun q t' d' H7 rp7 row7 l1 l2 kp7 => ?_⟩
          · walk_at "kk"
          walk_at "w"
          rename_i pB nB HB hB kB pC nC HC hC kC pD nD HD hD kD pE nE HE hE kE
          have hA9 : RpA F HE vs (rowsD ts ds) := by walk_at "rp"
          have r9 : Rp F HE (.ref q) (rowD t' d') := by walk_at "rp"
          refine k pE _ _ HE (.lst hE (fun m => hF pE m (by walk_at "nn")) ?_) (B.putG hi row7 (by omega) (by omega)) (by walk_at "bx") (by walk_at "kk")
          rw [rowsD_cut hlen]
          exact ((hA9.take _).app (.one r9)).app (hA9.drop _)
        · refine tSeq_go ?_
          walk_at "w"
          refine iteD (fun h2 => ?_) (fun h2 => ?_)
          · have c4 : way = 0 ∨ way = 1 ∨ way = 2 ∨ way = 3 := by omega
            rcases c4 with rfl | rfl | rfl | rfl
            all_goals
              walk_at "w"
              exact hj _ _ ⟨_, rfl, by omega, by omega, by omega, by omega, by omega, by walk_at "kk"⟩
          · exact hj _ _ ⟨m, rfl, by omega, by omega, by omega, by omega, by omega, .refl _⟩
    · refine tSeq_go ?_
      walk_at "w"
      walk_at "tk"
      intro sz H1 s0 s1 hb1 kp1
      walk_at "w"
      walk_at "tk"
      intro at0 H2 t0 t1 hb2 kp2
      obtain ⟨i, rfl⟩ := Int.eq_ofNat_of_zero_le t0
      walk_at "w"
      walk_at "tk"
      intro way H3 w0 w1 hb3 kp3
      walk_at "w"
      walk_at "tk"
      intro m H4 m0 m1 hb4 kp4
      walk_at "w"
      refine iteD (fun h1 => ?_) (fun h1 => ?_)
      · walk_at "w"
        exact k a0 ts ds H4 (by walk_at "rp") B.G (by walk_at "bx") (by walk_at "kk")
      · walk_at "w"
        refine iteD (fun h2 => ?_) (fun h2 => ?_)
        · walk_at "w"
          walk_at "tk"
          intro m' H5 n0 n1 hb5 kp5
          walk_at "w"
          exact hj _ _ ⟨sz, way, 1 + m', i, rfl, by omega, w0, w1, by omega, by omega, by walk_at "bx", by walk_at "kk"⟩
        · exact hj _ _ ⟨sz, way, 1 + m, i, rfl, by omega, w0, w1, by omega, by omega, by walk_at "bx", by walk_at "kk"⟩
end
end Wh
set_option Elab.async false
set_option linter.all false
set_option maxRecDepth 100000
set_option maxHeartbeats 2000000
/-! The law's checks of a row. -/
namespace Wh
open PySem L2 PySem.Spec PyProof.Rows
local macro_rules | `(tactic| walk_at "ne") => `(tactic| first | with_reducible assumption | (apply Ne.symm; with_reducible assumption))
local macro_rules | `(tactic| walk_at "hp") => `(tactic| first | with_reducible assumption | with_reducible exact upd_same | ((with_reducible refine (upd_ne ?n).trans ?h); (case n => walk_at "ne"); (case h => walk_at "hp")) | ((with_reducible show upd _ _ _ _ = _); exact upd_same))
local macro_rules | `(tactic| walk_at "cond") => `(tactic| first | with_reducible assumption | exact (rfl : (_ : Bool) = true) | ((try dsimp only) <;> first | with_reducible assumption | decide | omega) | exact ⟨by first | decide | omega | decide +kernel, by first | decide | omega | decide +kernel⟩ | decide +kernel | exact .inr ⟨by decide, by decide⟩ | exact .inl ⟨by decide, by decide⟩)
local macro_rules | `(tactic| walk_at "sq") => `(tactic| first | with_reducible assumption | exact SqL.of (by walk_at "hp"))
local macro_rules | `(tactic| walk_at "sz") => `(tactic| first | with_reducible assumption | (show _ ≤ 16777216; omega))
local macro_rules | `(tactic| walk_at "at") => `(tactic| first | with_reducible assumption | exact atI_nat (by with_reducible assumption) | exact atI_nat (j := 0) (rfl : (_ : Option Nat) = some _) | exact atI_nat (by assumption))
local macro_rules | `(tactic| walk_at "w1") => `(tactic| (fail_if_success with_reducible show @ite _ _ _ _ _); first
  | refine ⟨_, rfl, ?_⟩
  | refine ⟨_, _, (rfl : _ = V.int _), (rfl : _ = V.int _), And.intro (by walk_at "cond") ?_⟩
  | refine ⟨_, _, (rfl : _ = V.int _), (rfl : _ = V.int _), ?_⟩
  | refine ⟨_, _, (rfl : _ = V.str _), (rfl : _ = V.str _), And.intro (by walk_at "sz") ?_⟩
  | refine ⟨_, _, (rfl : _ = V.str _), (rfl : _ = V.str _), ?_⟩
  | refine ⟨_, _, _, _, (rfl : _ = V.ref _), (rfl : _ = V.int _), (by walk_at "sq"), rfl, ?_⟩
  | refine ⟨_, _, _, _, (rfl : _ = V.ref _), (rfl : _ = V.int _), (by walk_at "hp"), rfl, ?_⟩
  | refine ⟨Or.inl ⟨rfl, _, (by walk_at "sq")⟩, ?_⟩
  | refine ⟨_, _, _, (rfl : _ = V.ref _), (rfl : (_ : List V) = _), (by walk_at "hp"), (by with_reducible assumption), ?_⟩
  | refine ⟨_, _, (rfl : (_ : List V) = _), Or.inl ((by walk_at "sq")), ?_⟩
  | refine ⟨_, _, _, _, (rfl : _ = V.ref _), (rfl : _ = V.int _), (by walk_at "sq"), (by walk_at "at"), ?_⟩
  | refine ⟨_, _, _, (rfl : _ = V.str _), (rfl : _ = V.int _), (by walk_at "sz"), (by walk_at "at"), ?_⟩
  | refine ⟨_, _, (rfl : (_ : List V) = [V.str _]), SX.int_S (by assumption) (by simp) (by assumption), (by assumption), ?_⟩
  | refine ⟨_, _, (rfl : (_ : List V) = [_, _]), ?_⟩
  | refine ⟨_, _, (rfl : _ = V.ref _), (by walk_at "sq"), ?_⟩
  | refine ⟨(rfl : (_ : Bool) = true), ?_⟩
  | refine ⟨(rfl : (_ : V) = V.non), ?_⟩
  | refine And.intro (by walk_at "sz") ?_
  | refine ⟨⟨_, (rfl : _ = V.str _)⟩, ?_⟩
  | refine ⟨_, (rfl : _ = V.str _), (rfl : (_ : List V) = _), trivial, ?_⟩
  | refine .inl ⟨_, rfl, ?_⟩)
local macro_rules | `(tactic| walk_at "w") => `(tactic| repeat walk_at "w1")
local macro_rules | `(tactic| walk_at "fld") => `(tactic| (fail_if_success with_reducible show @ite _ _ _ _ _); first
  | refine ⟨_, _, _, _, _, (rfl : _ = V.ref _), (by walk_at "hp"), Txt.cl_Heap _, Txt.nf__shapes _, hz_shapes _, ?_⟩
  | refine ⟨_, _, _, _, _, (rfl : _ = V.ref _), (by walk_at "hp"), Txt.cl_Heap _, Txt.nf__faces _, hz_faces _, ?_⟩
  | refine ⟨_, _, _, _, _, (rfl : _ = V.ref _), (by walk_at "hp"), Txt.cl_Heap _, Txt.nf__firsts _, hz_firsts _, ?_⟩
  | refine ⟨_, _, _, _, _, (rfl : _ = V.ref _), (by walk_at "hp"), Txt.cl_Heap _, Txt.nf__seconds _, hz_seconds _, ?_⟩
  | refine ⟨_, _, _, _, _, (rfl : _ = V.ref _), (by walk_at "hp"), Txt.cl_Heap _, Txt.nf__hefts _, hz_hefts _, ?_⟩
  | refine ⟨_, _, _, _, _, (rfl : _ = V.ref _), (by walk_at "hp"), Txt.cl_Heap _, Txt.nf__numbers _, hz_numbers _, ?_⟩
  | refine ⟨_, _, _, _, _, (rfl : _ = V.ref _), (by walk_at "hp"), Txt.cl_Heap _, Txt.nf__names _, hz_names _, ?_⟩
  | refine ⟨_, _, _, _, _, (rfl : _ = V.ref _), (by walk_at "hp"), Txt.cl_Heap _, Txt.nf__pairs _, hz_pairs _, ?_⟩)
local macro_rules | `(tactic| walk_at "wf") => `(tactic| repeat first | walk_at "w1" | walk_at "fld")
local macro_rules | `(tactic| walk_at "mem") => `(tactic| first | (first | with_reducible assumption | exact mem_hd | (refine' mem_tl ?h; (case h => walk_at "mem"))) | fail)
local macro_rules | `(tactic| walk_at "ni") => `(tactic| first | (first | with_reducible assumption | exact ni_nil | (refine' ni_cons ?n ?r; (case n => walk_at "ne"); (case r => walk_at "ni"))) | fail)
local macro_rules | `(tactic| walk_at "al") => `(tactic| first | (first | (refine' Al.of ?h; (case h => with_reducible assumption)) | (refine' BoxAt.al ?h; (case h => with_reducible assumption)) | (refine' Al.kp ?k ?n ?h; (case k => with_reducible assumption); (case n => walk_at "ni"); (case h => walk_at "al"))) | fail)
local macro_rules | `(tactic| walk_at "ne") => `(tactic| first | (first | with_reducible assumption | (apply Ne.symm; with_reducible assumption) | (refine' ne_fr1 ?f ?l; (case f => with_reducible assumption); (case l => walk_at "al")) | (refine' ne_fr2 ?f ?l; (case f => with_reducible assumption); (case l => walk_at "al")) | (refine' ne_nf ?n ?m; (case n => with_reducible assumption); (case m => walk_at "mem")) | (apply Ne.symm; (refine' ne_nf ?n ?m; (case n => with_reducible assumption); (case m => walk_at "mem")))) | fail)
local macro_rules | `(tactic| walk_at "hp") => `(tactic| first | (first | with_reducible assumption | (refine' Kp.look ?k ?n ?h; (case k => with_reducible assumption); (case n => walk_at "ni"); (case h => walk_at "hp"))) | fail)
local macro_rules | `(tactic| walk_at "bx") => `(tactic| first | (first | with_reducible assumption | (refine' BoxAt.kp' ?k ?n ?h; (case k => with_reducible assumption); (case n => walk_at "ni"); (case h => walk_at "bx"))) | fail)
local macro_rules | `(tactic| walk_at "sz") => `(tactic| first | (walk_at "bx") | fail)
local macro_rules | `(tactic| walk_at "su") => `(tactic| first | (first | with_reducible assumption | exact su_nil | (refine' su_cons ?a ?b; (case a => walk_at "mem"); (case b => walk_at "su"))) | fail)
local macro_rules | `(tactic| walk_at "rp") => `(tactic| first | (first | with_reducible assumption | (refine' Rp.kp ?k ?s ?h; (case k => with_reducible assumption); (case s => walk_at "su"); (case h => walk_at "rp")) | (refine' RpA.kp ?k ?s ?h; (case k => with_reducible assumption); (case s => walk_at "su"); (case h => walk_at "rp"))) | fail)
local macro_rules | `(tactic| walk_at "nb") => `(tactic| first | (first | exact id | (refine' nn_back ?k ?n ?c; (case k => with_reducible assumption); (case n => walk_at "ni"); (case c => walk_at "nb"))) | fail)
local macro_rules | `(tactic| walk_at "nn") => `(tactic| first | (first | with_reducible assumption | (refine' nn_start ?n ?c; (case n => with_reducible assumption); (case c => walk_at "nb"))) | fail)
local macro_rules | `(tactic| walk_at "fr") => `(tactic| first | (first | exact fr_nil | (refine' fr_cons ?a ?b; (case a => first | (left; walk_at "mem") | (right; walk_at "nn")); (case b => walk_at "fr"))) | fail)
local macro_rules | `(tactic| walk_at "kk") => `(tactic| first | (first | exact Kp.refl _ | with_reducible assumption | (refine' Kp.step ?p ?k ?s; (case k => with_reducible assumption); (case p => walk_at "kk"); (case s => walk_at "fr"))) | fail)
local macro_rules | `(tactic| walk_at "new") => `(tactic| first | ((intro p np; generalize eH : upd _ p _ = H'; have hp := (newN np eH).1; (try dsimp only at hp); (try simp only [cutV_none_nat, cutV_nat_none, cutV_nat_nat, cutV_mid, cutV_mid1, cutV_from2, cutV_from1, cutV_to1, cutV_to3, cutV_tail, flat_one, Int.toNat_natCast] at hp); have kp := (newN np eH).2; clear eH)) | fail)
local macro_rules | `(tactic| walk_at "sto") => `(tactic| first | ((generalize eH : upd _ _ _ = H'; obtain ⟨hp, kp⟩ := newS eH; clear eH)) | fail)
local macro_rules | `(tactic| walk_at "w1") => `(tactic| first | ((fail_if_success with_reducible show @ite _ _ _ _ _); first | ((refine ⟨(show _ ≤ sizeLine by (first | exact Nat.le_of_ble_eq_true rfl | (show _ ≤ 16777216; omega))), ?_⟩); walk_at "new") | ((with_reducible show ∀ p, _ = none → _); walk_at "new")) | fail)
local macro_rules | `(tactic| walk_at "v") => `(tactic| first | (repeat ((fail_if_success with_reducible show tSeq (tIfS _ _ _) _ _ _ _); first | walk_at "w1" | walk_at "fld")) | fail)
local macro_rules | `(tactic| walk_at "tk") => `(tactic| first | ((try (refine ⟨(by walk_at "bx"), ?_⟩)); (try (refine ⟨(by first | decide | omega), ?_⟩)); (try (refine ⟨(by first | decide | omega), ?_⟩))) | fail)
local macro_rules | `(tactic| walk_at "sq") => `(tactic| first | (exact SqT.of (by walk_at "hp")) | fail)
local macro_rules | `(tactic| walk_at "szl") => `(tactic| first | (first | exact Nat.le_of_ble_eq_true rfl | (show _ ≤ 16777216; simp only [List.length_append, List.length_take, List.length_drop, List.length_cons, List.length_nil, List.length_map, List.length_replicate]; omega)) | fail)
local macro_rules | `(tactic| walk_at "w1") => `(tactic| first | ((fail_if_success with_reducible show @ite _ _ _ _ _); first | ((refine ⟨_, _, _, _, (rfl : _ = V.ref _), (rfl : _ = V.ref _), (by first | walk_at "hp" | walk_at "sq"), (by first | walk_at "hp" | walk_at "sq"), (by walk_at "szl"), ?_⟩); walk_at "new")) | fail)
local macro_rules | `(tactic| walk_at "szs") => `(tactic| first | (rw [SX.S_len, SX.S_len]; show _ ≤ 16777216; (try simp only [List.length_append, List.length_cons, List.length_nil, repL_len]); omega) | fail)
local macro_rules | `(tactic| walk_at "szm") => `(tactic| first | (rw [SX.S_len]; (try simp only [List.length_append, List.length_cons, List.length_nil, repL_len]); omega) | fail)
local macro_rules | `(tactic| walk_at "sz") => `(tactic| first | (rw [SX.S_len]; show _ ≤ 16777216; omega) | fail)
local macro_rules | `(tactic| walk_at "szr") => `(tactic| first | (show _ ≤ 16777216; simp only [List.length_cons, List.length_nil, Int.toNat_natCast]; omega) | fail)
local macro_rules | `(tactic| walk_at "w1") => `(tactic| first | ((fail_if_success with_reducible show @ite _ _ _ _ _); first | ((refine ⟨_, _, _, (rfl : _ = V.ref _), (rfl : _ = V.int _), (by walk_at "hp"), (by omega), (by omega), (by walk_at "szr"), ?_⟩); walk_at "new")) | fail)
local macro_rules | `(tactic| walk_at "cond") => `(tactic| first | (exact Or.inl (And.intro (by omega) (by omega))) | fail)
local macro_rules | `(tactic| walk_at "w1") => `(tactic| first | ((fail_if_success with_reducible show @ite _ _ _ _ _); first
  | ((refine ⟨_, _, (rfl : _ = V.str (SX.S _)), (rfl : _ = V.str (SX.S _)), And.intro (by walk_at "szs") ?_⟩); rw [SX.S_cat])
  | ((refine ⟨_, _, (rfl : _ = V.str (SX.S _)), (rfl : _ = V.int _), (by omega), (by omega), (fun _ => by walk_at "szm"), ?_⟩); rw [mul_S])) | fail)
section
variable {P : Program} {w : World} {K : PySem.W.Frag} {mg : Str → Option Value} {base : Heap}
def Lay (d : PyData) (n : Nat) : Prop := d.canLay0 = true ∧ d.depth ≤ n
theorem Lay.mono {d : PyData} {n m : Nat} (h : Lay d n) (k : n ≤ m) : Lay d m := ⟨h.1, Nat.le_trans h.2 k⟩
theorem Lay.sh {d : PyData} {n : Nat} (h : Lay d n) (k : n ≤ 64) : SeqAt.shaped d = true := by
  unfold SeqAt.shaped
  rw [h.1, decide_eq_true (Nat.le_trans h.2 k)]; rfl
theorem Lay.str {l : List Nat} (h : ∀ c ∈ l, c < 128) (n : Nat) : Lay (tD l) n := by
  refine ⟨?_, by show PyData.depth (.str _) ≤ n; simp [PyData.depth]⟩
  show PyData.canLay0 (.str _) = true
  unfold PyData.canLay0 PyData.strOk
  rw [← Array.all_toList]
  show l.all _ = true
  rw [List.all_eq_true]
  intro c hc
  have := h c hc
  simp; omega
theorem layAll {ds : List PyData} {n : Nat} (h : ∀ d ∈ ds, Lay d n) : PyData.canLayAll0 ds = true ∧ PyData.depthAll ds ≤ n := by
  induction ds with
  | nil => exact ⟨by simp [PyData.canLayAll0], by simp [PyData.depthAll]⟩
  | cons d r ih =>
    obtain ⟨h1, h2⟩ := ih fun e he => h e (by simp [he])
    obtain ⟨h3, h4⟩ := h d (by simp)
    exact ⟨by simp [PyData.canLayAll0, h1, h3], by simp [PyData.depthAll]; omega⟩
theorem Lay.list {ds : List PyData} {n : Nat} (h : ∀ d ∈ ds, Lay d n) : Lay (.list ds) (n + 1) := by
  obtain ⟨h1, h2⟩ := layAll h
  exact ⟨by simpa [PyData.canLay0] using h1, by simp [PyData.depth]; omega⟩
theorem Lay.tuple {ds : List PyData} {n : Nat} (h : ∀ d ∈ ds, Lay d n) : Lay (.tuple ds) (n + 1) := by
  obtain ⟨h1, h2⟩ := layAll h
  exact ⟨by simpa [PyData.canLay0] using h1, by simp [PyData.depth]; omega⟩
theorem can_asc {t : Tr} (h : Pr t) : ∀ c ∈ can t, c < 128 := (can_Dr t h).1.asc
theorem Lay.mem {t : Tr} (h : Pr t) : Lay (memD t) 2 := by
  unfold memD
  split
  · refine Lay.list (n := 1) fun d hd => ?_
    obtain ⟨u, hu, rfl⟩ := List.mem_map.mp hd
    exact .str (can_asc (Pr_spread h u hu)) 1
  · exact ⟨by simp [PyData.canLay0], by simp [PyData.depth]⟩
theorem Lay.int (i : Int) (n : Nat) : Lay (.int i) n := ⟨by simp [PyData.canLay0], by simp [PyData.depth]⟩
theorem Lay.row {t : Tr} {d : List Nat} (h : Row t d) : Lay (rowD t d) 3 := by
  refine Lay.tuple fun e he => ?_
  simp only [List.mem_cons, List.not_mem_nil, or_false] at he
  rcases he with rfl | rfl | rfl | rfl | rfl
  · exact .str (can_asc h.pr) _
  · exact .str h.dr.asc _
  · exact .int _ _
  · exact .int _ _
  · exact .mem h.pr
theorem Lay.rows {ts : List Tr} {ds : List (List Nat)} (h : Paired Row ts ds) : Lay (.list (rowsD ts ds)) 4 := by
  refine Lay.list fun e he => ?_
  induction h with
  | nil => cases he
  | cons h r ih =>
    rcases List.mem_cons.mp he with rfl | he
    · exact .row h
    · exact ih he
def spWhole : Sp := fun vs H Q _ => ∃ i : Int, vs = [.int i] ∧ Q (.bl true) H
theorem ok_law_whole (T : Txt K mg) : FnOk P w K mg base CX0 1 T.a_law_whole T.d_law_whole ["number"] spWhole := by
  refine T.law_whole.fn.ok sc_law_whole (fun vs H Q E h => ?_) (fun cdv A outer s H vs Q E hr h => ?_)
  · obtain ⟨i, rfl, _⟩ := h
    rfl
  · obtain ⟨i, rfl, k⟩ := h
    refine ⟨_, (pss_one (ps_ret (pe_and (pe_callB call_isi (by rfl) T.b_isinstance (by decide +kernel) (pa_cons (pv 0) (pa_cons (pe_bltn (v := .ty "int") (u := .type "int") (by rfl) T.b_int (by decide +kernel) rfl) pa_nil))) (pe_one (pe_not (pe_callB call_isi (by rfl) T.b_isinstance (by decide +kernel) (pa_cons (pv 0) (pa_cons (pe_bltn (v := .ty "bool") (u := .type "bool") (by rfl) T.b_bool (by decide +kernel) rfl) pa_nil)))))))), ?_⟩
    try dsimp only [cxOf, Cx.nox]
    walk_at "w"
    refine ⟨_, _, _, _, true, rfl, .ty _, .base (.int _), L2.kit_ty (by decide +kernel), ?_⟩
    walk_at "w"
    refine iteT ?_
    walk_at "w"
    refine ⟨_, _, _, _, false, rfl, .ty _, .base (.int _), L2.kit_ty (by decide +kernel), ?_⟩
    walk_at "w"
    exact k
theorem can_spread {t : Tr} (h : Pr t) (hL : isL t = true) : (spread t).length ≤ (can t).length + 2 ∧ ∀ u ∈ spread t, (can u).length ≤ (can t).length + 5 := by
  have e := mkl_spread hL h
  have e2 : can t = listedL ((spread t).map can) := by rw [listed_can, e]
  have key : ∀ ws : List (List Nat), ws.length ≤ (listedL ws).length + 2 ∧ ∀ u ∈ ws, u.length ≤ (listedL ws).length + 5 := by
    intro ws
    unfold listedL
    split
    · rename_i hq
      obtain ⟨x, y, rfl⟩ : ∃ x y, ws = [x, y] := by
        match ws, hq.1 with
        | [x, y], _ => exact ⟨x, y, rfl⟩
      have hx : x = quoL := by simpa using hq.2
      subst hx
      refine ⟨by simp, fun u hu => ?_⟩
      simp at hu
      rcases hu with rfl | rfl
      · simp [quoL]
      · simp; omega
    · have : ∀ (ws : List (List Nat)), ws.length ≤ (TL.joinL [32] ws).length + 1 ∧ ∀ u ∈ ws, u.length ≤ (TL.joinL [32] ws).length := by
        intro ws
        cases ws with
        | nil => simp
        | cons p l =>
          rw [joinL_cons]
          have h1 : ∀ m : List (List Nat), m.length ≤ (m.flatMap fun q => [32] ++ q).length ∧ ∀ u ∈ m, u.length ≤ (m.flatMap fun q => [32] ++ q).length := fun m => by
            induction m with
            | nil => simp
            | cons x r ih =>
              rw [List.flatMap_cons, List.length_append]
              refine ⟨by simp only [List.length_cons, List.length_append, List.length_nil]; omega, fun u hu => ?_⟩
              rcases List.mem_cons.mp hu with rfl | hu
              · simp only [List.length_append]; omega
              · have := ih.2 u hu; omega
          obtain ⟨h2, h3⟩ := h1 l
          refine ⟨by simp only [List.length_cons, List.length_append]; omega, fun u hu => ?_⟩
          rcases List.mem_cons.mp hu with rfl | hu
          · simp only [List.length_append]; omega
          · have := h3 u hu; simp only [List.length_append]; omega
      obtain ⟨h2, h3⟩ := this ws
      refine ⟨by simp only [List.length_cons, List.length_append, List.length_nil]; omega, fun u hu => ?_⟩
      have := h3 u hu
      simp only [List.length_cons, List.length_append, List.length_nil]; omega
  obtain ⟨h1, h2⟩ := key ((spread t).map can)
  rw [← e2] at h1 h2
  exact ⟨by simpa using h1, fun u hu => h2 _ (List.mem_map_of_mem hu)⟩
def spRight : Sp := fun vs H Q _ => ∃ (p : Addr) (t : Tr) (d : List Nat), vs = [.ref p] ∧ Rp [] H (.ref p) (rowD t d) ∧ Row t d ∧ d.length ≤ 500000 ∧ (can t).length ≤ 500000 ∧ ∀ H', Kp [] H H' → Q (.bl true) H'
theorem ok_law_right (T : Txt K mg) : FnOk P w K mg base CX0 8 T.a_law_right T.d_law_right ["row"] spRight := by
  refine T.law_right.fn.ok sc_law_right (fun vs H Q E h => ?_) (fun cdv A outer s H vs Q E hr h => ?_)
  · obtain ⟨p, t, d, rfl, _⟩ := h
    rfl
  · obtain ⟨p0, t, d, rfl, hR, hrow, l1, l2, k⟩ := h
    obtain ⟨p, m, e1, hp, _, hm⟩ := row_item hR
    cases e1
    refine ⟨_, (pss_cons (ps_set (i := 1) sc_law_right.nd rfl (Or.inl rfl) (pe_call (ok_weight_of (P := P) (w := w) (base := base) T) (hr.mono (by decide)) rfl T.weight_of.mg T.weight_of.fn.kp T.weight_of.b .nil pass0 (pa_cons (pe_ix ix_tup (pv 0) pe_int (fun _ _ => rfl)) pa_nil)))
      (pss_cons (ps_set (i := 2) sc_law_right.nd rfl (Or.inl rfl) (pe_call (ok_size_of (P := P) (w := w) (base := base) T) (hr.mono (by decide)) rfl T.size_of.mg T.size_of.fn.kp T.size_of.b .nil pass0 (pa_cons (pe_ix ix_tup (pv 0) pe_int (fun _ _ => rfl)) pa_nil)))
      (pss_cons (ps_if (PW.pt (pw_or (pt_not (pt_val (pe_call (ok_law_whole (P := P) (w := w) (base := base) T) (hr.mono (by decide)) rfl T.law_whole.mg T.law_whole.fn.kp T.law_whole.b .nil pass0 (pa_cons (pv 1) pa_nil)))) (pw_or (pt_not (pt_val (pe_call (ok_law_whole (P := P) (w := w) (base := base) T) (hr.mono (by decide)) rfl T.law_whole.mg T.law_whole.fn.kp T.law_whole.b .nil pass0 (pa_cons (pv 2) pa_nil)))) (pw_or (pt_cmpR op_ne (pv 1) (pe_ix ix_tup (pv 0) pe_int (fun _ _ => rfl)) (nomark _)) (pw_or1 (pt_cmpR op_ne (pv 2) (pe_ix ix_tup (pv 0) pe_int (fun _ _ => rfl)) (nomark _))))))) (pss_one (ps_ret pe_bl)) pss_nil)
      (pss_cons (ps_set (i := 3) sc_law_right.nd rfl (Or.inl rfl) (pe_call (ok_members (P := P) (w := w) (base := base) T) (hr.mono (by decide)) rfl T.members.mg T.members.fn.kp T.members.b .nil pass0 (pa_cons (pe_ix ix_tup (pv 0) pe_int (fun _ _ => rfl)) pa_nil)))
      (pss_cons (ps_if (pt_cmpR op_isN (pe_ix ix_tup (pv 0) pe_int (fun _ _ => rfl)) pe_non (nomark _)) (pss_one (ps_ret (pe_cmpR op_isN (pv 3) pe_non (nomark _)))) pss_nil)
      (pss_cons (ps_if (PW.pt (pw_or (pt_not (pt_val (pe_callB call_isi (by rfl) T.b_isinstance (by decide +kernel) (pa_cons (pv 3) (pa_cons (pe_bltn (v := .ty "list") (u := .type "list") (by rfl) T.b_list (by decide +kernel) rfl) pa_nil))))) (pw_or1 (pt_cmpR (op_neD hr.units) (pv 3) (pe_ix ix_tup (pv 0) pe_int (fun _ _ => rfl)) (nomark _))))) (pss_one (ps_ret pe_bl)) pss_nil)
      (pss_cons (ps_expr (pe_bm PySem.F.plainAttrs_list PySem.F.slot_list_append PySem.F.type_list_append mt_append (pv 3) (pa_cons pe_str pa_nil)))
      (pss_cons (ps_expr (pe_bm PySem.F.plainAttrs_list PySem.F.slot_list_append PySem.F.type_list_append mt_append (pv 3) (pa_cons pe_str pa_nil)))
      (pss_cons (ps_set (i := 4) sc_law_right.nd rfl (Or.inl rfl) (pe_call (ok_members (P := P) (w := w) (base := base) T) (hr.mono (by decide)) rfl T.members.mg T.members.fn.kp T.members.b .nil pass0 (pa_cons (pe_ix ix_tup (pv 0) pe_int (fun _ _ => rfl)) pa_nil)))
      (pss_one (ps_ret (pe_and (pe_callB call_isi (by rfl) T.b_isinstance (by decide +kernel) (pa_cons (pv 4) (pa_cons (pe_bltn (v := .ty "list") (u := .type "list") (by rfl) T.b_list (by decide +kernel) rfl) pa_nil))) (pe_one (pe_cmpR (op_eqD hr.units) (pv 4) (pe_ix ix_tup (pv 0) pe_int (fun _ _ => rfl)) (nomark _))))))))))))))), ?_⟩
    try dsimp only [cxOf, Cx.nox]
    walk_at "w"
    refine ⟨d, t, rfl, by omega, hrow.dr.rd.run, fun H1 s1 => ?_⟩
    have k1 : Kp [] H H1 := .of_same s1
    walk_at "w"
    refine ⟨d, t, rfl, by omega, hrow.dr.rd.run, fun H2 s2 => ?_⟩
    have k2 : Kp [] H1 H2 := .of_same s2
    walk_at "w"
    refine iteF ?_
    walk_at "w"
    refine iteF ?_
    walk_at "w"
    refine iteNS rfl ?_
    walk_at "w"
    refine iteNS rfl ?_
    walk_at "w"
    have cs := can_spread hrow.pr
    refine ⟨d, t, rfl, by omega, hrow.dr.rd.run, hrow.pr, fun u hu => ?_, ?_, fun hL H3 s3 => ?_, fun hL p3 H3 n3 h3 s3 => ?_⟩
    · cases hL : isL t with
      | true => have := (cs hL).2 u hu; omega
      | false => cases t <;> first | (simp [spread] at hu; done) | cases hL
    · cases hL : isL t with
      | true => have := (cs hL).1; omega
      | false => cases t <;> first | (simp [spread]; done) | cases hL
    · have k3 : Kp [] H2 H3 := .of_same s3
      have em : m = .non := by
        unfold memD at hm
        rw [hL] at hm
        exact hm.non'
      subst em
      walk_at "w"
      refine iteTe (by rfl) ?_
      walk_at "w"
      exact k H3 (by walk_at "kk")
    · have k3 : Kp [] H2 H3 := .of_same s3
      have em : memD t = .list ((spread t).map fun u => tD (can u)) := by unfold memD; rw [if_pos hL]
      rw [em] at hm
      obtain ⟨mp, ms, rfl, hmp, _, hmA⟩ := hm.lst'
      have eD := RpA.strs (F := []) (H := H3) ((spread t).map can)
      rw [List.map_map, List.map_map] at eD
      have D1 : Rp [] H3 (.ref p3) (memD t) := by rw [em]; exact .lst h3 (by simp) eD
      walk_at "w"
      refine iteFe (by rfl) ?_
      walk_at "w"
      refine ⟨_, _, _, _, true, rfl, .ty _, .base (.lst h3), L2.kit_ty (by decide +kernel), ?_⟩
      walk_at "w"
      refine iteF ?_
      walk_at "w"
      have D2 : Rp [] H3 (.ref mp) (memD t) := by rw [em]; exact .lst (by walk_at "hp") (by simp) (by walk_at "rp")
      have lay := Lay.mem hrow.pr
      refine ⟨_, _, D1.dp, D2.dp, lay.sh (by decide), lay.sh (by decide), ?_⟩
      rw [SeqAt.eqv_refl _ lay.1]
      walk_at "w"
      refine iteF ?_
      have sl := (cs hL).1
      have z0 : ((spread t).map fun u => V.str (SX.S (can u))).length < sizeLine := by rw [List.length_map]; show _ < 16777216; omega
      have z1 : (((spread t).map fun u => V.str (SX.S (can u))) ++ [V.str (Str.ofString "x")]).length < sizeLine := by rw [List.length_append, List.length_map]; show _ + 1 < 16777216; omega
      walk_at "w"
      generalize e4 : upd (upd H3 p3 _) p3 _ = H4
      have k4 : Kp [p3] H3 H4 := by rw [← e4]; exact ((Kp.refl H3).at (by simp)).at (by simp)
      clear e4
      refine ⟨d, t, rfl, by omega, hrow.dr.rd.run, hrow.pr, fun u hu => ?_, by omega, fun hL2 => (by rw [hL] at hL2; cases hL2), fun _ p5 H5 n5 h5 s5 => ?_⟩
      · have := (cs hL).2 u hu; omega
      have k5 : Kp [] H4 H5 := .of_same s5
      have eD5 := RpA.strs (F := []) (H := H5) ((spread t).map can)
      rw [List.map_map, List.map_map] at eD5
      have D5 : Rp [] H5 (.ref p5) (memD t) := by rw [em]; exact .lst h5 (by simp) eD5
      walk_at "w"
      refine ⟨_, _, _, _, true, rfl, .ty _, .base (.lst h5), L2.kit_ty (by decide +kernel), ?_⟩
      walk_at "w"
      refine iteT ?_
      walk_at "w"
      have D6 : Rp [] H5 (.ref mp) (memD t) := by
        have eM : ms = ((spread t).map can).map tV := RpA.strs' (ls := (spread t).map can) (by rw [List.map_map]; exact hmA)
        have hm5 : H5 mp = some (.lst ms) := by walk_at "hp"
        rw [eM, List.map_map] at hm5
        rw [em]; exact .lst hm5 (by simp) eD5
      refine ⟨_, _, D5.dp, D6.dp, lay.sh (by decide), lay.sh (by decide), ?_⟩
      rw [SeqAt.eqv_refl _ lay.1]
      exact k H5 (by walk_at "kk")
end
end Wh
set_option Elab.async false
set_option linter.all false
set_option maxRecDepth 100000
set_option maxHeartbeats 2000000
/-! The law. -/
namespace Wh
open PySem L2 PySem.Spec PyProof.Rows
local macro_rules | `(tactic| walk_at "ne") => `(tactic| first | with_reducible assumption | (apply Ne.symm; with_reducible assumption))
local macro_rules | `(tactic| walk_at "hp") => `(tactic| first | with_reducible assumption | with_reducible exact upd_same | ((with_reducible refine (upd_ne ?n).trans ?h); (case n => walk_at "ne"); (case h => walk_at "hp")) | ((with_reducible show upd _ _ _ _ = _); exact upd_same))
local macro_rules | `(tactic| walk_at "cond") => `(tactic| first | with_reducible assumption | exact (rfl : (_ : Bool) = true) | ((try dsimp only) <;> first | with_reducible assumption | decide | omega) | exact ⟨by first | decide | omega | decide +kernel, by first | decide | omega | decide +kernel⟩ | decide +kernel | exact .inr ⟨by decide, by decide⟩ | exact .inl ⟨by decide, by decide⟩)
local macro_rules | `(tactic| walk_at "sq") => `(tactic| first | with_reducible assumption | exact SqL.of (by walk_at "hp"))
local macro_rules | `(tactic| walk_at "sz") => `(tactic| first | with_reducible assumption | (show _ ≤ 16777216; omega))
local macro_rules | `(tactic| walk_at "at") => `(tactic| first | with_reducible assumption | exact atI_nat (by with_reducible assumption) | exact atI_nat (j := 0) (rfl : (_ : Option Nat) = some _) | exact atI_nat (by assumption))
local macro_rules | `(tactic| walk_at "w1") => `(tactic| (fail_if_success with_reducible show @ite _ _ _ _ _); first
  | refine ⟨_, rfl, ?_⟩
  | refine ⟨_, _, (rfl : _ = V.int _), (rfl : _ = V.int _), And.intro (by walk_at "cond") ?_⟩
  | refine ⟨_, _, (rfl : _ = V.int _), (rfl : _ = V.int _), ?_⟩
  | refine ⟨_, _, (rfl : _ = V.str _), (rfl : _ = V.str _), And.intro (by walk_at "sz") ?_⟩
  | refine ⟨_, _, (rfl : _ = V.str _), (rfl : _ = V.str _), ?_⟩
  | refine ⟨_, _, _, _, (rfl : _ = V.ref _), (rfl : _ = V.int _), (by walk_at "sq"), rfl, ?_⟩
  | refine ⟨_, _, _, _, (rfl : _ = V.ref _), (rfl : _ = V.int _), (by walk_at "hp"), rfl, ?_⟩
  | refine ⟨Or.inl ⟨rfl, _, (by walk_at "sq")⟩, ?_⟩
  | refine ⟨_, _, _, (rfl : _ = V.ref _), (rfl : (_ : List V) = _), (by walk_at "hp"), (by with_reducible assumption), ?_⟩
  | refine ⟨_, _, (rfl : (_ : List V) = _), Or.inl ((by walk_at "sq")), ?_⟩
  | refine ⟨_, _, _, _, (rfl : _ = V.ref _), (rfl : _ = V.int _), (by walk_at "sq"), (by walk_at "at"), ?_⟩
  | refine ⟨_, _, _, (rfl : _ = V.str _), (rfl : _ = V.int _), (by walk_at "sz"), (by walk_at "at"), ?_⟩
  | refine ⟨_, _, (rfl : (_ : List V) = [V.str _]), SX.int_S (by assumption) (by simp) (by assumption), (by assumption), ?_⟩
  | refine ⟨_, _, (rfl : (_ : List V) = [_, _]), ?_⟩
  | refine ⟨_, _, (rfl : _ = V.ref _), (by walk_at "sq"), ?_⟩
  | refine ⟨(rfl : (_ : Bool) = true), ?_⟩
  | refine ⟨(rfl : (_ : V) = V.non), ?_⟩
  | refine And.intro (by walk_at "sz") ?_
  | refine ⟨⟨_, (rfl : _ = V.str _)⟩, ?_⟩
  | refine ⟨_, (rfl : _ = V.str _), (rfl : (_ : List V) = _), trivial, ?_⟩
  | refine .inl ⟨_, rfl, ?_⟩)
local macro_rules | `(tactic| walk_at "w") => `(tactic| repeat walk_at "w1")
local macro_rules | `(tactic| walk_at "fld") => `(tactic| (fail_if_success with_reducible show @ite _ _ _ _ _); first
  | refine ⟨_, _, _, _, _, (rfl : _ = V.ref _), (by walk_at "hp"), Txt.cl_Heap _, Txt.nf__shapes _, hz_shapes _, ?_⟩
  | refine ⟨_, _, _, _, _, (rfl : _ = V.ref _), (by walk_at "hp"), Txt.cl_Heap _, Txt.nf__faces _, hz_faces _, ?_⟩
  | refine ⟨_, _, _, _, _, (rfl : _ = V.ref _), (by walk_at "hp"), Txt.cl_Heap _, Txt.nf__firsts _, hz_firsts _, ?_⟩
  | refine ⟨_, _, _, _, _, (rfl : _ = V.ref _), (by walk_at "hp"), Txt.cl_Heap _, Txt.nf__seconds _, hz_seconds _, ?_⟩
  | refine ⟨_, _, _, _, _, (rfl : _ = V.ref _), (by walk_at "hp"), Txt.cl_Heap _, Txt.nf__hefts _, hz_hefts _, ?_⟩
  | refine ⟨_, _, _, _, _, (rfl : _ = V.ref _), (by walk_at "hp"), Txt.cl_Heap _, Txt.nf__numbers _, hz_numbers _, ?_⟩
  | refine ⟨_, _, _, _, _, (rfl : _ = V.ref _), (by walk_at "hp"), Txt.cl_Heap _, Txt.nf__names _, hz_names _, ?_⟩
  | refine ⟨_, _, _, _, _, (rfl : _ = V.ref _), (by walk_at "hp"), Txt.cl_Heap _, Txt.nf__pairs _, hz_pairs _, ?_⟩)
local macro_rules | `(tactic| walk_at "wf") => `(tactic| repeat first | walk_at "w1" | walk_at "fld")
local macro_rules | `(tactic| walk_at "mem") => `(tactic| first | (first | with_reducible assumption | exact mem_hd | (refine' mem_tl ?h; (case h => walk_at "mem"))) | fail)
local macro_rules | `(tactic| walk_at "ni") => `(tactic| first | (first | with_reducible assumption | exact ni_nil | (refine' ni_cons ?n ?r; (case n => walk_at "ne"); (case r => walk_at "ni"))) | fail)
local macro_rules | `(tactic| walk_at "al") => `(tactic| first | (first | (refine' Al.of ?h; (case h => with_reducible assumption)) | (refine' BoxAt.al ?h; (case h => with_reducible assumption)) | (refine' Al.kp ?k ?n ?h; (case k => with_reducible assumption); (case n => walk_at "ni"); (case h => walk_at "al"))) | fail)
local macro_rules | `(tactic| walk_at "ne") => `(tactic| first | (first | with_reducible assumption | (apply Ne.symm; with_reducible assumption) | (refine' ne_fr1 ?f ?l; (case f => with_reducible assumption); (case l => walk_at "al")) | (refine' ne_fr2 ?f ?l; (case f => with_reducible assumption); (case l => walk_at "al")) | (refine' ne_nf ?n ?m; (case n => with_reducible assumption); (case m => walk_at "mem")) | (apply Ne.symm; (refine' ne_nf ?n ?m; (case n => with_reducible assumption); (case m => walk_at "mem")))) | fail)
local macro_rules | `(tactic| walk_at "hp") => `(tactic| first | (first | with_reducible assumption | (refine' Kp.look ?k ?n ?h; (case k => with_reducible assumption); (case n => walk_at "ni"); (case h => walk_at "hp"))) | fail)
local macro_rules | `(tactic| walk_at "bx") => `(tactic| first | (first | with_reducible assumption | (refine' BoxAt.kp' ?k ?n ?h; (case k => with_reducible assumption); (case n => walk_at "ni"); (case h => walk_at "bx"))) | fail)
local macro_rules | `(tactic| walk_at "sz") => `(tactic| first | (walk_at "bx") | fail)
local macro_rules | `(tactic| walk_at "su") => `(tactic| first | (first | with_reducible assumption | exact su_nil | (refine' su_cons ?a ?b; (case a => walk_at "mem"); (case b => walk_at "su"))) | fail)
local macro_rules | `(tactic| walk_at "rp") => `(tactic| first | (first | with_reducible assumption | (refine' Rp.kp ?k ?s ?h; (case k => with_reducible assumption); (case s => walk_at "su"); (case h => walk_at "rp")) | (refine' RpA.kp ?k ?s ?h; (case k => with_reducible assumption); (case s => walk_at "su"); (case h => walk_at "rp"))) | fail)
local macro_rules | `(tactic| walk_at "nb") => `(tactic| first | (first | exact id | (refine' nn_back ?k ?n ?c; (case k => with_reducible assumption); (case n => walk_at "ni"); (case c => walk_at "nb"))) | fail)
local macro_rules | `(tactic| walk_at "nn") => `(tactic| first | (first | with_reducible assumption | (refine' nn_start ?n ?c; (case n => with_reducible assumption); (case c => walk_at "nb"))) | fail)
local macro_rules | `(tactic| walk_at "fr") => `(tactic| first | (first | exact fr_nil | (refine' fr_cons ?a ?b; (case a => first | (left; walk_at "mem") | (right; walk_at "nn")); (case b => walk_at "fr"))) | fail)
local macro_rules | `(tactic| walk_at "kk") => `(tactic| first | (first | exact Kp.refl _ | with_reducible assumption | (refine' Kp.step ?p ?k ?s; (case k => with_reducible assumption); (case p => walk_at "kk"); (case s => walk_at "fr"))) | fail)
local macro_rules | `(tactic| walk_at "new") => `(tactic| first | ((intro p np; generalize eH : upd _ p _ = H'; have hp := (newN np eH).1; (try dsimp only at hp); (try simp only [cutV_none_nat, cutV_nat_none, cutV_nat_nat, cutV_mid, cutV_mid1, cutV_from2, cutV_from1, cutV_to1, cutV_to3, cutV_tail, flat_one, Int.toNat_natCast] at hp); have kp := (newN np eH).2; clear eH)) | fail)
local macro_rules | `(tactic| walk_at "sto") => `(tactic| first | ((generalize eH : upd _ _ _ = H'; obtain ⟨hp, kp⟩ := newS eH; clear eH)) | fail)
local macro_rules | `(tactic| walk_at "w1") => `(tactic| first | ((fail_if_success with_reducible show @ite _ _ _ _ _); first | ((refine ⟨(show _ ≤ sizeLine by (first | exact Nat.le_of_ble_eq_true rfl | (show _ ≤ 16777216; omega))), ?_⟩); walk_at "new") | ((with_reducible show ∀ p, _ = none → _); walk_at "new")) | fail)
local macro_rules | `(tactic| walk_at "v") => `(tactic| first | (repeat ((fail_if_success with_reducible show tSeq (tIfS _ _ _) _ _ _ _); first | walk_at "w1" | walk_at "fld")) | fail)
local macro_rules | `(tactic| walk_at "tk") => `(tactic| first | ((try (refine ⟨(by walk_at "bx"), ?_⟩)); (try (refine ⟨(by first | decide | omega), ?_⟩)); (try (refine ⟨(by first | decide | omega), ?_⟩))) | fail)
local macro_rules | `(tactic| walk_at "sq") => `(tactic| first | (exact SqT.of (by walk_at "hp")) | fail)
local macro_rules | `(tactic| walk_at "szl") => `(tactic| first | (first | exact Nat.le_of_ble_eq_true rfl | (show _ ≤ 16777216; simp only [List.length_append, List.length_take, List.length_drop, List.length_cons, List.length_nil, List.length_map, List.length_replicate]; omega)) | fail)
local macro_rules | `(tactic| walk_at "w1") => `(tactic| first | ((fail_if_success with_reducible show @ite _ _ _ _ _); first | ((refine ⟨_, _, _, _, (rfl : _ = V.ref _), (rfl : _ = V.ref _), (by first | walk_at "hp" | walk_at "sq"), (by first | walk_at "hp" | walk_at "sq"), (by walk_at "szl"), ?_⟩); walk_at "new")) | fail)
local macro_rules | `(tactic| walk_at "szs") => `(tactic| first | (rw [SX.S_len, SX.S_len]; show _ ≤ 16777216; (try simp only [List.length_append, List.length_cons, List.length_nil, repL_len]); omega) | fail)
local macro_rules | `(tactic| walk_at "szm") => `(tactic| first | (rw [SX.S_len]; (try simp only [List.length_append, List.length_cons, List.length_nil, repL_len]); omega) | fail)
local macro_rules | `(tactic| walk_at "sz") => `(tactic| first | (rw [SX.S_len]; show _ ≤ 16777216; omega) | fail)
local macro_rules | `(tactic| walk_at "szr") => `(tactic| first | (show _ ≤ 16777216; simp only [List.length_cons, List.length_nil, Int.toNat_natCast]; omega) | fail)
local macro_rules | `(tactic| walk_at "w1") => `(tactic| first | ((fail_if_success with_reducible show @ite _ _ _ _ _); first | ((refine ⟨_, _, _, (rfl : _ = V.ref _), (rfl : _ = V.int _), (by walk_at "hp"), (by omega), (by omega), (by walk_at "szr"), ?_⟩); walk_at "new")) | fail)
local macro_rules | `(tactic| walk_at "cond") => `(tactic| first | (exact Or.inl (And.intro (by omega) (by omega))) | fail)
local macro_rules | `(tactic| walk_at "w1") => `(tactic| first | ((fail_if_success with_reducible show @ite _ _ _ _ _); first
  | ((refine ⟨_, _, (rfl : _ = V.str (SX.S _)), (rfl : _ = V.str (SX.S _)), And.intro (by walk_at "szs") ?_⟩); rw [SX.S_cat])
  | ((refine ⟨_, _, (rfl : _ = V.str (SX.S _)), (rfl : _ = V.int _), (by omega), (by omega), (fun _ => by walk_at "szm"), ?_⟩); rw [mul_S])) | fail)
section
variable {P : Program} {w : World} {K : PySem.W.Frag} {mg : Str → Option Value} {base : Heap}
theorem sq_kp {F : List Addr} {H H' : Hp} {a : Addr} {xs : List V} (h : SqL K H a xs) (kp : Kp F H H') (n : ∀ x ∈ F, H x = none) : SqL K H' a xs := by
  rcases h with (h | ⟨o, h⟩) | h
  · exact .inl (.inl (kp a _ (fun z => by rw [n a z] at h; cases h) h))
  · exact .inl (.inr ⟨o, kp a _ (fun z => by rw [n a z] at h; cases h) h⟩)
  · exact .inr h
theorem rows_can {ts : List Tr} {ds : List (List Nat)} (h : Paired Row ts ds) : sumL (ts.map can) ≤ 2 * sumL ds := by
  induction h with
  | nil => simp [sumL_nil]
  | cons h r ih =>
    have := h.dr.can_len
    rw [List.map_cons, sumL_cons, sumL_cons]; omega
def spLaw (K : PySem.W.Frag) : Sp := fun vs H Q _ => ∃ (a : Addr) (ns : List Int), vs = [.ref a] ∧ SqL K H a (ns.map V.int) ∧ ns.length ≤ 63 ∧ ∀ H', Q (.bl true) H'
theorem ok_law (T : Txt K mg) : FnOk P w K mg base CX0 9 T.a_law T.d_law ["script"] (spLaw K) := by
  refine T.law.fn.ok sc_law (fun vs H Q E h => ?_) (fun cdv A outer s H vs Q E hr h => ?_)
  · obtain ⟨a, ns, rfl, _⟩ := h
    rfl
  · obtain ⟨a, ns, rfl, hS, hlen, k⟩ := h
    refine ⟨_, (pss_cons (ps_set (i := 1) sc_law.nd rfl (Or.inl rfl) (pe_call (ok_law_box (P := P) (w := w) (base := base) T) (hr.mono (by decide)) rfl T.law_box.mg T.law_box.fn.kp T.law_box.b .nil pass0 (pa_cons (pv 0) (pa_cons pe_int pa_nil))))
      (pss_cons (ps_set (i := 2) sc_law.nd rfl (Or.inl rfl) (pe_call (ok_law_rows (P := P) (w := w) (base := base) T) (hr.mono (by decide)) rfl T.law_rows.mg T.law_rows.fn.kp T.law_rows.b .nil pass0 (pa_cons (pe_call (ok_law_box (P := P) (w := w) (base := base) T) (hr.mono (by decide)) rfl T.law_box.mg T.law_box.fn.kp T.law_box.b .nil pass0 (pa_cons (pv 0) (pa_cons pe_int pa_nil))) (pa_cons (pv 1) pa_nil))))
      (pss_cons (ps_if (pt_cmpR (op_neD hr.units) (pv 2) (pe_lst pa_nil) (nomark _)) (pss_one (ps_set (i := 2) sc_law.nd rfl (Or.inl rfl) (pe_call (ok_law_great (P := P) (w := w) (base := base) T) (hr.mono (by decide)) rfl T.law_great.mg T.law_great.fn.kp T.law_great.b .nil pass0 (pa_cons (pe_call (ok_law_box (P := P) (w := w) (base := base) T) (hr.mono (by decide)) rfl T.law_box.mg T.law_box.fn.kp T.law_box.b .nil pass0 (pa_cons (pv 0) (pa_cons pe_int pa_nil))) (pa_cons (pv 2) pa_nil))))) pss_nil)
      (pss_cons (ps_setLc (i := 4) (own := [("row", 3)]) (g := gName 3) (tt := tYes)  rfl sc_law.nd rfl rfl (sw_true rfl rfl rfl (by decide +kernel)) (pi_list (pv 2)) (blkOk_by (own := [("row", 3)]) (N := ["script", "dress", "rows", "row", "texts", "handed", "told"]) (sc := defScope s_law) (by decide +kernel)) (fun _ _ _ _ _ => pg_name (i := 3) sc_law.nd rfl (Or.inl rfl)) (fun _ _ _ _ _ => pts_nil) (fun _ _ _ _ _ => (pe_ix (show IxR _ (rIxT K) from ix_tup) (pv 3) pe_int (fun _ _ => rfl))))
      (pss_cons (ps_set (i := 5) sc_law.nd rfl (Or.inl rfl) (pe_callTy call_list_of (by rfl) T.b_list (by decide +kernel) (pa_cons (pv 4) pa_nil)))
      (pss_cons (ps_set (i := 6) sc_law.nd rfl (Or.inl rfl) (pe_call (ok_list_text (P := P) (w := w) (base := base) T) (hr.mono (by decide)) rfl T.list_text.mg T.list_text.fn.kp T.list_text.b .nil pass0 (pa_cons (pv 5) pa_nil)))
      (pss_cons (ps_if (PW.pt (pw_or (pt_cmpR (op_neD hr.units) (pv 5) (pv 4) (nomark _)) (pw_or (pt_not (pt_val (pe_callB call_isi (by rfl) T.b_isinstance (by decide +kernel) (pa_cons (pv 6) (pa_cons (pe_bltn (v := .ty "str") (u := .type "str") (by rfl) T.b_str (by decide +kernel) rfl) pa_nil))))) (pw_or1 (pt_cmpR op_ne (pv 6) (pe_call (ok_law_listed (P := P) (w := w) (base := base) T) (hr.mono (by decide)) rfl T.law_listed.mg T.law_listed.fn.kp T.law_listed.b .nil pass0 (pa_cons (pe_lc (own := [("row", 3)]) (g := gName 3) (tt := tYes)  rfl sc_law.nd (pi_list (pv 2)) (blkOk_by (own := [("row", 3)]) (N := ["script", "dress", "rows", "row", "texts", "handed", "told"]) (sc := defScope s_law) (by decide +kernel)) (fun _ _ _ _ _ => pg_name (i := 3) sc_law.nd rfl (Or.inl rfl)) (fun _ _ _ _ _ => pts_nil) (fun _ _ _ _ _ => (pe_ix (show IxR _ (rIxT K) from ix_tup) (pv 3) pe_int (fun _ _ => rfl)))) pa_nil)) (nomark _)))))) (pss_one (ps_ret pe_bl)) pss_nil)
      (pss_cons (ps_for PassesOwn.never rfl (pi_list (pv 2)) (pg_name (i := 3) sc_law.nd rfl (Or.inl rfl)) (pss_one (ps_if (pt_not (pt_val (pe_call (ok_law_right (P := P) (w := w) (base := base) T) (hr.mono (by decide)) rfl T.law_right.mg T.law_right.fn.kp T.law_right.b .nil pass0 (pa_cons (pv 3) pa_nil)))) (pss_one (ps_ret pe_bl)) pss_nil)))
      (pss_cons (ps_if (pt_cmpR op_gt (pe_callB (cr_sum rfl) (by rfl) T.b_sum (by decide +kernel) (pa_cons (pe_lc (own := [("row", 3)]) (g := gName 3) (tt := tYes)  rfl sc_law.nd (pi_list (pv 2)) (blkOk_by (own := [("row", 3)]) (N := ["script", "dress", "rows", "row", "texts", "handed", "told"]) (sc := defScope s_law) (by decide +kernel)) (fun _ _ _ _ _ => pg_name (i := 3) sc_law.nd rfl (Or.inl rfl)) (fun _ _ _ _ _ => pts_nil) (fun _ _ _ _ _ => (pe_callB call_len_str (by rfl) T.b_len (by decide +kernel) (pa_cons (pe_ix (show IxR _ (rIxT K) from ix_tup) (pv 3) pe_int (fun _ _ => rfl)) pa_nil)))) pa_nil)) pe_int (nomark _)) (pss_one (ps_ret pe_bl)) pss_nil)
      (pss_one (ps_ret (pe_call (ok_law_right (P := P) (w := w) (base := base) T) (hr.mono (by decide)) rfl T.law_right.mg T.law_right.fn.kp T.law_right.b .nil pass0 (pa_cons (pe_call (ok_law_joined (P := P) (w := w) (base := base) T) (hr.mono (by decide)) rfl T.law_joined.mg T.law_joined.fn.kp T.law_joined.b .nil pass0 (pa_cons (pv 1) (pa_cons (pv 2) pa_nil))) pa_nil))))))))))))), ?_⟩
    try dsimp only [cxOf, Cx.nox]
    refine tSeq_join3 (fun σ H5 => ∃ (e r : Addr) (ts : List Tr) (ds : List (List Nat)), σ = [some (.ref a), some (.ref e), some (.ref r), none, none, none, none] ∧ Rp [e] H5 (.ref r) (.list (rowsD ts ds)) ∧ RowsG ts ds ∧ BoxAt H5 e) ?_ (fun N hj => ?_)
    · rintro σ H5 ⟨e, r0, ts, ds, rfl, hR, G, he⟩
      obtain ⟨r, vs, e1, hr0, nrF, hA⟩ := hR.lst'
      cases e1
      have hln := G.ln
      have hs1 := G.s1
      have hs2 := G.s2
      have hlen := paired_len G.pd
      have hvl : vs.length = ds.length := by rw [hA.len, rowsD_len hlen]
      have cl := can_mkl_len ts
      walk_at "w"
      refine lc_map (wvs ds) (SqL.of hr0) (by omega) (by rw [wvs_len]; omega) (fun _ => rfl) ?_ (fun p1 H1 n1 h1 k1 => ?_)
      · rintro j x y H' R hx hy kp hR
        obtain ⟨t, d, ht, hd, rr, _⟩ := rows_at (hA.kp kp su_nil) G.pd hx
        obtain ⟨p, m, rfl, hp, _, _⟩ := row_item rr
        obtain ⟨l, hl, rfl⟩ := wvs_at' hy
        rw [hd] at hl
        cases hl
        walk_at "w"
        exact hR _ (.refl _)
      walk_at "w"
      rename_i p2 n2 H2 h2 k2
      refine ⟨p2, ts, ds, rfl, SqL.of h2, paired_imp (fun _ _ h => h.dr.rd.run) G.pd, rows_Pr G.pd, by show sumL ds ≤ _; omega, by omega, by omega, fun H3 s3 => ?_⟩
      have k3 : Kp [] H2 H3 := .of_same s3
      have h13 : H3 p1 = some (.lst (wvs ds)) := by walk_at "hp"
      have h23 : H3 p2 = some (.lst (wvs ds)) := by walk_at "hp"
      have layT : Lay (.list (ds.map tD)) 1 := Lay.list (n := 0) fun e he => by
        obtain ⟨l, hl, rfl⟩ := List.mem_map.mp he
        obtain ⟨i, hi⟩ := List.getElem?_of_mem hl
        obtain ⟨t, _, rw'⟩ := paired_at G.pd hi
        exact .str rw'.dr.asc 0
      have D1 : Rp [] H3 (.ref p1) (.list (ds.map tD)) := .lst h13 (by simp) (RpA.strs ds)
      have D2 : Rp [] H3 (.ref p2) (.list (ds.map tD)) := .lst h23 (by simp) (RpA.strs ds)
      walk_at "w"
      refine ⟨_, _, D2.dp, D1.dp, layT.sh (by decide), layT.sh (by decide), ?_⟩
      rw [SeqAt.eqv_refl _ layT.1]
      walk_at "w"
      refine iteF ?_
      walk_at "w"
      refine ⟨_, _, _, _, true, rfl, .ty _, .base (.str _), L2.kit_ty (by decide +kernel), ?_⟩
      walk_at "w"
      refine iteF ?_
      walk_at "w"
      refine lc_map (wvs (ts.map can)) (SqL.of (by walk_at "hp")) (by omega) (by rw [wvs_len, List.length_map]; omega) (fun _ => rfl) ?_ (fun p4 H4 n4 h4 k4 => ?_)
      · rintro j x y H' R hx hy kp hR
        obtain ⟨t, d, ht, hd, rr, _⟩ := rows_at (show RpA [e] H' vs (rowsD ts ds) by walk_at "rp") G.pd hx
        obtain ⟨p, m, rfl, hp, _, _⟩ := row_item rr
        obtain ⟨l, hl, rfl⟩ := wvs_at' hy
        rw [List.getElem?_map, ht] at hl
        cases hl
        walk_at "w"
        exact hR _ (.refl _)
      refine ⟨p4, ts.map can, rfl, h4, by rw [List.length_map]; omega, by omega, ?_⟩
      rw [listed_can]
      walk_at "w"
      refine iteNS rfl ?_
      walk_at "w"
      refine ⟨⟨_, SqL.of (by walk_at "hp")⟩, for_it (walk_list (xs := vs)) (fun j σ H' => (∃ o3, σ = [some (.ref a), some (.ref e), some (.ref r0), o3, some (.ref p1), some (.ref p2), some (.str (SX.S (can (mkl ts))))]) ∧ Kp [] H4 H') ?_ ?_ ?_ ?_⟩
      · exact ⟨⟨_, rfl⟩, .refl _⟩
      · rintro j σ H' _ ⟨_, kp⟩
        exact SqL.of (by walk_at "hp")
      · rintro j x σ _ H' hj ⟨⟨o3, rfl⟩, kp⟩ ⟨rfl, hx⟩
        obtain ⟨t, d, ht, hd, rr, row⟩ := rows_at (show RpA [e] H' vs (rowsD ts ds) by walk_at "rp") G.pd hx
        have rr0 := rr.less (G := []) su_nil
        obtain ⟨p, m, rfl, hp, _, _⟩ := row_item rr
        have q1 : d.length ≤ 150000 := Nat.le_trans (sumL_at hd) hs2
        have q2 : (can t).length ≤ 150000 := Nat.le_trans (sumL_at (ws := ts.map can) (by rw [List.getElem?_map, ht]; rfl)) hs1
        walk_at "w"
        refine ⟨p, t, d, rfl, rr0, row, by omega, by omega, fun H6 k6 => ?_⟩
        walk_at "w"
        refine iteF ?_
        exact ⟨⟨_, rfl⟩, kp.trans k6⟩
      · rintro σ H' ⟨⟨o3, rfl⟩, kp⟩
        walk_at "w"
        refine lc_map ((ds.map fun l => ((l.length : Nat) : Int)).map V.int) (SqL.of (by walk_at "hp")) (by omega) (by rw [List.length_map, List.length_map]; omega) (fun _ => rfl) ?_ (fun p7 H7 n7 h7 k7 => ?_)
        · rintro j x y H' R hx hy kp hR
          obtain ⟨t, d, ht, hd, rr, _⟩ := rows_at (show RpA [e] H' vs (rowsD ts ds) by walk_at "rp") G.pd hx
          obtain ⟨p, m, rfl, hp, _, _⟩ := row_item rr
          have q1 : d.length ≤ 150000 := Nat.le_trans (sumL_at hd) hs2
          rw [List.getElem?_map, List.getElem?_map, hd] at hy
          cases hy
          walk_at "w"
          rw [SX.S_len]
          exact hR _ (.refl _)
        refine ⟨p7, _, rfl, SqL.of h7, ?_⟩
        have es : (ds.map fun l => ((l.length : Nat) : Int)).sum = ((sumL ds : Nat) : Int) := by
          rw [show (ds.map fun l => ((l.length : Nat) : Int)) = (ds.map List.length).map fun (n : Nat) => ((n : Nat) : Int) from by rw [List.map_map]; rfl, cast_sum]; rfl
        rw [es]
        walk_at "w"
        refine iteD (fun hq => ?_) (fun hq => ?_)
        · walk_at "w"
          exact k _
        · have hc := rows_can G.pd
          walk_at "w"
          refine ⟨e, r0, [e], ts, ds, rfl, by walk_at "bx", by simp, ?_, .lst (by walk_at "hp") nrF (by walk_at "rp"), G.pd, by omega, by omega, by omega, fun p d H8 rp8 row8 hdl he8 kp8 => ?_⟩
          · intro x hx
            simp at hx
            subst hx
            exact BoxAt.al (by walk_at "bx")
          walk_at "w"
          refine ⟨p, mkl ts, d, rfl, rp8.less su_nil, row8, by omega, by omega, fun H9 k9 => ?_⟩
          exact k _
    · refine tSeq_go ?_
      walk_at "w"
      refine ⟨a, ns, 1, rfl, hS, fun e H1 n1 he1 kp1 => ?_⟩
      walk_at "w"
      refine ⟨a, ns, 0, rfl, sq_kp hS kp1 (by simp), fun b H2 n2 hb2 kp2 => ?_⟩
      walk_at "w"
      refine ⟨by walk_at "ne", fun r0 ts ds H3 R3 B3 hb3 he3 kp3 => ?_⟩
      obtain ⟨r, vs, e1, hr0, nrF, hA⟩ := R3.lst'
      cases e1
      have hvl : vs.length = ds.length := by rw [hA.len, rowsD_len B3.len]
      walk_at "w"
      have lay := Lay.rows B3.pd
      rename_i p9 n9 H9 h9 k9
      have DR : Rp [b, e] H9 (.ref r0) (.list (rowsD ts ds)) := by walk_at "rp"
      have DE : Rp [] H9 (.ref p9) (.list []) := .lst h9 (by simp) .nil
      refine ⟨_, _, DR.dp, DE.dp, lay.sh (by decide), (Lay.list (ds := []) (n := 0) (by simp)).sh (by decide), ?_⟩
      walk_at "w"
      cases ds with
      | nil =>
        cases ts with
        | cons t tt => cases B3.pd
        | nil =>
          refine iteFe (by simp [rowsD, PyData.eqv, PyData.eqvAll]) ?_
          exact hj _ _ ⟨e, r0, [], [], rfl, DR.less (su_cons (by simp) su_nil), B3.G, by walk_at "bx"⟩
      | cons d dd =>
        cases ts with
        | nil => cases B3.pd
        | cons t tt =>
          refine iteTe (by simp [rowsD, PyData.eqv, PyData.eqvAll]) ?_
          walk_at "w"
          refine ⟨a, ns, 2, rfl, sq_kp hS (show Kp [b, e] H H9 by walk_at "kk") (fun x hx => ?_), fun c H10 n10 hc10 kp10 => ?_⟩
          · simp at hx
            rcases hx with rfl | rfl
            · walk_at "nn"
            · walk_at "nn"
          have nce : c ≠ e := by walk_at "ne"
          walk_at "w"
          refine ⟨c, r0, [c, b, e], t :: tt, d :: dd, rfl, hc10, by simp, ?_, ?_, B3, by simp, fun a' ts' ds' H11 R11 G11 hc11 kp11 => ?_⟩
          · intro x hx
            simp at hx
            rcases hx with rfl | rfl | rfl
            · exact BoxAt.al (by walk_at "bx")
            · exact BoxAt.al (by walk_at "bx")
            · exact BoxAt.al (by walk_at "bx")
          · exact (DR.more n10).kp kp10 su_nil
          walk_at "w"
          exact hj _ _ ⟨e, a', ts', ds', rfl, R11.less (su_cons (by simp) su_nil), G11, by walk_at "bx"⟩
end
end Wh
set_option Elab.async false
set_option linter.all false
set_option maxRecDepth 100000
set_option maxHeartbeats 4000000
/-! The end. -/
namespace Wh
open PySem L2 PySem.Spec PyProof.Rows
theorem all_mk {l : PySem.W.OpenLaw} {w : World} {K : PySem.W.Frag} {h : Heap} {mg : Str → Option Value} {fa : Addr} (X : K.In h) (G : h.Ns mainGlobals mg) (hfa : mg "law" = some (.ref fa))
    {C_Heap : Addr}
    {f_wall : Addr} {od_wall an_wall : Option Addr} {sl_wall : Array (Option Value)} {oc_wall kV_wall dc_wall pm_wall cd_wall ct_wall : Value}
    {f_Heap__init : Addr} {od_Heap__init an_Heap__init : Option Addr} {sl_Heap__init : Array (Option Value)} {oc_Heap__init kV_Heap__init dc_Heap__init pm_Heap__init cd_Heap__init ct_Heap__init : Value}
    {f_Heap_copy : Addr} {od_Heap_copy an_Heap_copy : Option Addr} {sl_Heap_copy : Array (Option Value)} {oc_Heap_copy kV_Heap_copy dc_Heap_copy pm_Heap_copy cd_Heap_copy ct_Heap_copy : Value}
    {f_Heap_new : Addr} {od_Heap_new an_Heap_new : Option Addr} {sl_Heap_new : Array (Option Value)} {oc_Heap_new kV_Heap_new dc_Heap_new pm_Heap_new cd_Heap_new ct_Heap_new : Value}
    {f_Heap_number : Addr} {od_Heap_number an_Heap_number : Option Addr} {sl_Heap_number : Array (Option Value)} {oc_Heap_number kV_Heap_number dc_Heap_number pm_Heap_number cd_Heap_number ct_Heap_number : Value}
    {f_Heap_name : Addr} {od_Heap_name an_Heap_name : Option Addr} {sl_Heap_name : Array (Option Value)} {oc_Heap_name kV_Heap_name dc_Heap_name pm_Heap_name cd_Heap_name ct_Heap_name : Value}
    {f_Heap_pair : Addr} {od_Heap_pair an_Heap_pair : Option Addr} {sl_Heap_pair : Array (Option Value)} {oc_Heap_pair kV_Heap_pair dc_Heap_pair pm_Heap_pair cd_Heap_pair ct_Heap_pair : Value}
    {f_Heap_shape : Addr} {od_Heap_shape an_Heap_shape : Option Addr} {sl_Heap_shape : Array (Option Value)} {oc_Heap_shape kV_Heap_shape dc_Heap_shape pm_Heap_shape cd_Heap_shape ct_Heap_shape : Value}
    {f_Heap_face : Addr} {od_Heap_face an_Heap_face : Option Addr} {sl_Heap_face : Array (Option Value)} {oc_Heap_face kV_Heap_face dc_Heap_face pm_Heap_face cd_Heap_face ct_Heap_face : Value}
    {f_Heap_first : Addr} {od_Heap_first an_Heap_first : Option Addr} {sl_Heap_first : Array (Option Value)} {oc_Heap_first kV_Heap_first dc_Heap_first pm_Heap_first cd_Heap_first ct_Heap_first : Value}
    {f_Heap_second : Addr} {od_Heap_second an_Heap_second : Option Addr} {sl_Heap_second : Array (Option Value)} {oc_Heap_second kV_Heap_second dc_Heap_second pm_Heap_second cd_Heap_second ct_Heap_second : Value}
    {f_Heap_heft : Addr} {od_Heap_heft an_Heap_heft : Option Addr} {sl_Heap_heft : Array (Option Value)} {oc_Heap_heft kV_Heap_heft dc_Heap_heft pm_Heap_heft cd_Heap_heft ct_Heap_heft : Value}
    {f_Heap_listed : Addr} {od_Heap_listed an_Heap_listed : Option Addr} {sl_Heap_listed : Array (Option Value)} {oc_Heap_listed kV_Heap_listed dc_Heap_listed pm_Heap_listed cd_Heap_listed ct_Heap_listed : Value}
    {f_Heap_spread : Addr} {od_Heap_spread an_Heap_spread : Option Addr} {sl_Heap_spread : Array (Option Value)} {oc_Heap_spread kV_Heap_spread dc_Heap_spread pm_Heap_spread cd_Heap_spread ct_Heap_spread : Value}
    {f_consists_of : Addr} {od_consists_of an_consists_of : Option Addr} {sl_consists_of : Array (Option Value)} {oc_consists_of kV_consists_of dc_consists_of pm_consists_of cd_consists_of ct_consists_of : Value}
    {f_atom : Addr} {od_atom an_atom : Option Addr} {sl_atom : Array (Option Value)} {oc_atom kV_atom dc_atom pm_atom cd_atom ct_atom : Value}
    {f_settle : Addr} {od_settle an_settle : Option Addr} {sl_settle : Array (Option Value)} {oc_settle kV_settle dc_settle pm_settle cd_settle ct_settle : Value}
    {f_take : Addr} {od_take an_take : Option Addr} {sl_take : Array (Option Value)} {oc_take kV_take dc_take pm_take cd_take ct_take : Value}
    {f_end_of_part : Addr} {od_end_of_part an_end_of_part : Option Addr} {sl_end_of_part : Array (Option Value)} {oc_end_of_part kV_end_of_part dc_end_of_part pm_end_of_part cd_end_of_part ct_end_of_part : Value}
    {f_read : Addr} {od_read an_read : Option Addr} {sl_read : Array (Option Value)} {oc_read kV_read dc_read pm_read cd_read ct_read : Value}
    {f_quoted : Addr} {od_quoted an_quoted : Option Addr} {sl_quoted : Array (Option Value)} {oc_quoted kV_quoted dc_quoted pm_quoted cd_quoted ct_quoted : Value}
    {f_write : Addr} {od_write an_write : Option Addr} {sl_write : Array (Option Value)} {oc_write kV_write dc_write pm_write cd_write ct_write : Value}
    {f_put_members : Addr} {od_put_members an_put_members : Option Addr} {sl_put_members : Array (Option Value)} {oc_put_members kV_put_members dc_put_members pm_put_members cd_put_members ct_put_members : Value}
    {f_weight_of : Addr} {od_weight_of an_weight_of : Option Addr} {sl_weight_of : Array (Option Value)} {oc_weight_of kV_weight_of dc_weight_of pm_weight_of cd_weight_of ct_weight_of : Value}
    {f_size_of : Addr} {od_size_of an_size_of : Option Addr} {sl_size_of : Array (Option Value)} {oc_size_of kV_size_of dc_size_of pm_size_of cd_size_of ct_size_of : Value}
    {f_members : Addr} {od_members an_members : Option Addr} {sl_members : Array (Option Value)} {oc_members kV_members dc_members pm_members cd_members ct_members : Value}
    {f_list_text : Addr} {od_list_text an_list_text : Option Addr} {sl_list_text : Array (Option Value)} {oc_list_text kV_list_text dc_list_text pm_list_text cd_list_text ct_list_text : Value}
    {f_law_box : Addr} {od_law_box an_law_box : Option Addr} {sl_law_box : Array (Option Value)} {oc_law_box kV_law_box dc_law_box pm_law_box cd_law_box ct_law_box : Value}
    {f_law_take : Addr} {od_law_take an_law_take : Option Addr} {sl_law_take : Array (Option Value)} {oc_law_take kV_law_take dc_law_take pm_law_take cd_law_take ct_law_take : Value}
    {f_law_name : Addr} {od_law_name an_law_name : Option Addr} {sl_law_name : Array (Option Value)} {oc_law_name kV_law_name dc_law_name pm_law_name cd_law_name ct_law_name : Value}
    {f_law_word : Addr} {od_law_word an_law_word : Option Addr} {sl_law_word : Array (Option Value)} {oc_law_word kV_law_word dc_law_word pm_law_word cd_law_word ct_law_word : Value}
    {f_law_gap : Addr} {od_law_gap an_law_gap : Option Addr} {sl_law_gap : Array (Option Value)} {oc_law_gap kV_law_gap dc_law_gap pm_law_gap cd_law_gap ct_law_gap : Value}
    {f_law_listed : Addr} {od_law_listed an_law_listed : Option Addr} {sl_law_listed : Array (Option Value)} {oc_law_listed kV_law_listed dc_law_listed pm_law_listed cd_law_listed ct_law_listed : Value}
    {f_law_dressed : Addr} {od_law_dressed an_law_dressed : Option Addr} {sl_law_dressed : Array (Option Value)} {oc_law_dressed kV_law_dressed dc_law_dressed pm_law_dressed cd_law_dressed ct_law_dressed : Value}
    {f_law_joined : Addr} {od_law_joined an_law_joined : Option Addr} {sl_law_joined : Array (Option Value)} {oc_law_joined kV_law_joined dc_law_joined pm_law_joined cd_law_joined ct_law_joined : Value}
    {f_law_rows : Addr} {od_law_rows an_law_rows : Option Addr} {sl_law_rows : Array (Option Value)} {oc_law_rows kV_law_rows dc_law_rows pm_law_rows cd_law_rows ct_law_rows : Value}
    {f_law_inside : Addr} {od_law_inside an_law_inside : Option Addr} {sl_law_inside : Array (Option Value)} {oc_law_inside kV_law_inside dc_law_inside pm_law_inside cd_law_inside ct_law_inside : Value}
    {f_law_great : Addr} {od_law_great an_law_great : Option Addr} {sl_law_great : Array (Option Value)} {oc_law_great kV_law_great dc_law_great pm_law_great cd_law_great ct_law_great : Value}
    {f_law_whole : Addr} {od_law_whole an_law_whole : Option Addr} {sl_law_whole : Array (Option Value)} {oc_law_whole kV_law_whole dc_law_whole pm_law_whole cd_law_whole ct_law_whole : Value}
    {f_law_right : Addr} {od_law_right an_law_right : Option Addr} {sl_law_right : Array (Option Value)} {oc_law_right kV_law_right dc_law_right pm_law_right cd_law_right ct_law_right : Value}
    {f_law : Addr} {od_law an_law : Option Addr} {sl_law : Array (Option Value)} {oc_law kV_law dc_law pm_law cd_law ct_law : Value}
    {t_NIL : Tok}
    {t_EMPTY : Tok}
    {t_NUMBER : Tok}
    {t_NAME : Tok}
    {t_PAIR : Tok}
    {t_HEAVY : Tok}
    {t_BLANKS : Tok}
    {t_DIGITS : Tok}
    {t_LOWER : Tok}
    {t_NAME_SIGNS : Tok}
    {t_WORD_SIGNS : Tok}
    {t_LONGEST_NUMBER : Tok}
    {t_LONGEST_NAME : Tok}
    (aC_Heap : PySem.W.nsIn K mainGlobals "Heap" = some (some (.ref C_Heap)))
    (pg_Heap : PySem.W.plainGet K C_Heap Str.empty = true)
    (hd_Heap : PySem.W.hasDictIn K C_Heap = true)
    (po_Heap : PySem.W.plainOver K C_Heap = true)
    (sa_Heap : PySem.W.findIn K (.ref C_Heap) "__setattr__" = some (some (.builtin "object.__setattr__")))
    (mk_Heap : PySem.W.makesIn K C_Heap = true)
    (kc_Heap : PySem.W.keepIn K (.ref C_Heap) = true)
    (nf__shapes : PySem.W.findIn K (.ref C_Heap) "_shapes" = some none)
    (nf__faces : PySem.W.findIn K (.ref C_Heap) "_faces" = some none)
    (nf__firsts : PySem.W.findIn K (.ref C_Heap) "_firsts" = some none)
    (nf__seconds : PySem.W.findIn K (.ref C_Heap) "_seconds" = some none)
    (nf__hefts : PySem.W.findIn K (.ref C_Heap) "_hefts" = some none)
    (nf__numbers : PySem.W.findIn K (.ref C_Heap) "_numbers" = some none)
    (nf__names : PySem.W.findIn K (.ref C_Heap) "_names" = some none)
    (nf__pairs : PySem.W.findIn K (.ref C_Heap) "_pairs" = some none)
    (a_wall : PySem.W.nsIn K mainGlobals "_wall" = some (some (.ref f_wall)))
    (l_wall : K.lookup f_wall = some ⟨oc_wall, od_wall, .func (PySem.W.fnOf "_wall" "_wall" (defArgs s_wall) (defBody s_wall) (defScope s_wall) .none kV_wall dc_wall pm_wall an_wall cd_wall ct_wall), sl_wall⟩)
    (c_wall : PySem.W.codeIn K cd_wall "_wall" = true)
    (k_wall : PySem.W.keepIn K (.ref f_wall) = true)
    (a_Heap__init : PySem.W.findIn K (.ref C_Heap) "__init__" = some (some (.ref f_Heap__init)))
    (i_Heap__init : PySem.W.isFn K (.ref f_Heap__init) = true)
    (l_Heap__init : K.lookup f_Heap__init = some ⟨oc_Heap__init, od_Heap__init, .func (PySem.W.fnOf "__init__" "Heap.__init__" (defArgs s_Heap__init) (defBody s_Heap__init) (defScope s_Heap__init) .none kV_Heap__init dc_Heap__init pm_Heap__init an_Heap__init cd_Heap__init ct_Heap__init), sl_Heap__init⟩)
    (c_Heap__init : PySem.W.codeIn K cd_Heap__init "Heap.__init__" = true)
    (k_Heap__init : PySem.W.keepIn K (.ref f_Heap__init) = true)
    (a_Heap_copy : PySem.W.findIn K (.ref C_Heap) "copy" = some (some (.ref f_Heap_copy)))
    (i_Heap_copy : PySem.W.isFn K (.ref f_Heap_copy) = true)
    (l_Heap_copy : K.lookup f_Heap_copy = some ⟨oc_Heap_copy, od_Heap_copy, .func (PySem.W.fnOf "copy" "Heap.copy" (defArgs s_Heap_copy) (defBody s_Heap_copy) (defScope s_Heap_copy) .none kV_Heap_copy dc_Heap_copy pm_Heap_copy an_Heap_copy cd_Heap_copy ct_Heap_copy), sl_Heap_copy⟩)
    (c_Heap_copy : PySem.W.codeIn K cd_Heap_copy "Heap.copy" = true)
    (k_Heap_copy : PySem.W.keepIn K (.ref f_Heap_copy) = true)
    (a_Heap_new : PySem.W.findIn K (.ref C_Heap) "_new" = some (some (.ref f_Heap_new)))
    (i_Heap_new : PySem.W.isFn K (.ref f_Heap_new) = true)
    (l_Heap_new : K.lookup f_Heap_new = some ⟨oc_Heap_new, od_Heap_new, .func (PySem.W.fnOf "_new" "Heap._new" (defArgs s_Heap_new) (defBody s_Heap_new) (defScope s_Heap_new) .none kV_Heap_new dc_Heap_new pm_Heap_new an_Heap_new cd_Heap_new ct_Heap_new), sl_Heap_new⟩)
    (c_Heap_new : PySem.W.codeIn K cd_Heap_new "Heap._new" = true)
    (k_Heap_new : PySem.W.keepIn K (.ref f_Heap_new) = true)
    (a_Heap_number : PySem.W.findIn K (.ref C_Heap) "number" = some (some (.ref f_Heap_number)))
    (i_Heap_number : PySem.W.isFn K (.ref f_Heap_number) = true)
    (l_Heap_number : K.lookup f_Heap_number = some ⟨oc_Heap_number, od_Heap_number, .func (PySem.W.fnOf "number" "Heap.number" (defArgs s_Heap_number) (defBody s_Heap_number) (defScope s_Heap_number) .none kV_Heap_number dc_Heap_number pm_Heap_number an_Heap_number cd_Heap_number ct_Heap_number), sl_Heap_number⟩)
    (c_Heap_number : PySem.W.codeIn K cd_Heap_number "Heap.number" = true)
    (k_Heap_number : PySem.W.keepIn K (.ref f_Heap_number) = true)
    (a_Heap_name : PySem.W.findIn K (.ref C_Heap) "name" = some (some (.ref f_Heap_name)))
    (i_Heap_name : PySem.W.isFn K (.ref f_Heap_name) = true)
    (l_Heap_name : K.lookup f_Heap_name = some ⟨oc_Heap_name, od_Heap_name, .func (PySem.W.fnOf "name" "Heap.name" (defArgs s_Heap_name) (defBody s_Heap_name) (defScope s_Heap_name) .none kV_Heap_name dc_Heap_name pm_Heap_name an_Heap_name cd_Heap_name ct_Heap_name), sl_Heap_name⟩)
    (c_Heap_name : PySem.W.codeIn K cd_Heap_name "Heap.name" = true)
    (k_Heap_name : PySem.W.keepIn K (.ref f_Heap_name) = true)
    (a_Heap_pair : PySem.W.findIn K (.ref C_Heap) "pair" = some (some (.ref f_Heap_pair)))
    (i_Heap_pair : PySem.W.isFn K (.ref f_Heap_pair) = true)
    (l_Heap_pair : K.lookup f_Heap_pair = some ⟨oc_Heap_pair, od_Heap_pair, .func (PySem.W.fnOf "pair" "Heap.pair" (defArgs s_Heap_pair) (defBody s_Heap_pair) (defScope s_Heap_pair) .none kV_Heap_pair dc_Heap_pair pm_Heap_pair an_Heap_pair cd_Heap_pair ct_Heap_pair), sl_Heap_pair⟩)
    (c_Heap_pair : PySem.W.codeIn K cd_Heap_pair "Heap.pair" = true)
    (k_Heap_pair : PySem.W.keepIn K (.ref f_Heap_pair) = true)
    (a_Heap_shape : PySem.W.findIn K (.ref C_Heap) "shape" = some (some (.ref f_Heap_shape)))
    (i_Heap_shape : PySem.W.isFn K (.ref f_Heap_shape) = true)
    (l_Heap_shape : K.lookup f_Heap_shape = some ⟨oc_Heap_shape, od_Heap_shape, .func (PySem.W.fnOf "shape" "Heap.shape" (defArgs s_Heap_shape) (defBody s_Heap_shape) (defScope s_Heap_shape) .none kV_Heap_shape dc_Heap_shape pm_Heap_shape an_Heap_shape cd_Heap_shape ct_Heap_shape), sl_Heap_shape⟩)
    (c_Heap_shape : PySem.W.codeIn K cd_Heap_shape "Heap.shape" = true)
    (k_Heap_shape : PySem.W.keepIn K (.ref f_Heap_shape) = true)
    (a_Heap_face : PySem.W.findIn K (.ref C_Heap) "face" = some (some (.ref f_Heap_face)))
    (i_Heap_face : PySem.W.isFn K (.ref f_Heap_face) = true)
    (l_Heap_face : K.lookup f_Heap_face = some ⟨oc_Heap_face, od_Heap_face, .func (PySem.W.fnOf "face" "Heap.face" (defArgs s_Heap_face) (defBody s_Heap_face) (defScope s_Heap_face) .none kV_Heap_face dc_Heap_face pm_Heap_face an_Heap_face cd_Heap_face ct_Heap_face), sl_Heap_face⟩)
    (c_Heap_face : PySem.W.codeIn K cd_Heap_face "Heap.face" = true)
    (k_Heap_face : PySem.W.keepIn K (.ref f_Heap_face) = true)
    (a_Heap_first : PySem.W.findIn K (.ref C_Heap) "first" = some (some (.ref f_Heap_first)))
    (i_Heap_first : PySem.W.isFn K (.ref f_Heap_first) = true)
    (l_Heap_first : K.lookup f_Heap_first = some ⟨oc_Heap_first, od_Heap_first, .func (PySem.W.fnOf "first" "Heap.first" (defArgs s_Heap_first) (defBody s_Heap_first) (defScope s_Heap_first) .none kV_Heap_first dc_Heap_first pm_Heap_first an_Heap_first cd_Heap_first ct_Heap_first), sl_Heap_first⟩)
    (c_Heap_first : PySem.W.codeIn K cd_Heap_first "Heap.first" = true)
    (k_Heap_first : PySem.W.keepIn K (.ref f_Heap_first) = true)
    (a_Heap_second : PySem.W.findIn K (.ref C_Heap) "second" = some (some (.ref f_Heap_second)))
    (i_Heap_second : PySem.W.isFn K (.ref f_Heap_second) = true)
    (l_Heap_second : K.lookup f_Heap_second = some ⟨oc_Heap_second, od_Heap_second, .func (PySem.W.fnOf "second" "Heap.second" (defArgs s_Heap_second) (defBody s_Heap_second) (defScope s_Heap_second) .none kV_Heap_second dc_Heap_second pm_Heap_second an_Heap_second cd_Heap_second ct_Heap_second), sl_Heap_second⟩)
    (c_Heap_second : PySem.W.codeIn K cd_Heap_second "Heap.second" = true)
    (k_Heap_second : PySem.W.keepIn K (.ref f_Heap_second) = true)
    (a_Heap_heft : PySem.W.findIn K (.ref C_Heap) "heft" = some (some (.ref f_Heap_heft)))
    (i_Heap_heft : PySem.W.isFn K (.ref f_Heap_heft) = true)
    (l_Heap_heft : K.lookup f_Heap_heft = some ⟨oc_Heap_heft, od_Heap_heft, .func (PySem.W.fnOf "heft" "Heap.heft" (defArgs s_Heap_heft) (defBody s_Heap_heft) (defScope s_Heap_heft) .none kV_Heap_heft dc_Heap_heft pm_Heap_heft an_Heap_heft cd_Heap_heft ct_Heap_heft), sl_Heap_heft⟩)
    (c_Heap_heft : PySem.W.codeIn K cd_Heap_heft "Heap.heft" = true)
    (k_Heap_heft : PySem.W.keepIn K (.ref f_Heap_heft) = true)
    (a_Heap_listed : PySem.W.findIn K (.ref C_Heap) "listed" = some (some (.ref f_Heap_listed)))
    (i_Heap_listed : PySem.W.isFn K (.ref f_Heap_listed) = true)
    (l_Heap_listed : K.lookup f_Heap_listed = some ⟨oc_Heap_listed, od_Heap_listed, .func (PySem.W.fnOf "listed" "Heap.listed" (defArgs s_Heap_listed) (defBody s_Heap_listed) (defScope s_Heap_listed) .none kV_Heap_listed dc_Heap_listed pm_Heap_listed an_Heap_listed cd_Heap_listed ct_Heap_listed), sl_Heap_listed⟩)
    (c_Heap_listed : PySem.W.codeIn K cd_Heap_listed "Heap.listed" = true)
    (k_Heap_listed : PySem.W.keepIn K (.ref f_Heap_listed) = true)
    (a_Heap_spread : PySem.W.findIn K (.ref C_Heap) "spread" = some (some (.ref f_Heap_spread)))
    (i_Heap_spread : PySem.W.isFn K (.ref f_Heap_spread) = true)
    (l_Heap_spread : K.lookup f_Heap_spread = some ⟨oc_Heap_spread, od_Heap_spread, .func (PySem.W.fnOf "spread" "Heap.spread" (defArgs s_Heap_spread) (defBody s_Heap_spread) (defScope s_Heap_spread) .none kV_Heap_spread dc_Heap_spread pm_Heap_spread an_Heap_spread cd_Heap_spread ct_Heap_spread), sl_Heap_spread⟩)
    (c_Heap_spread : PySem.W.codeIn K cd_Heap_spread "Heap.spread" = true)
    (k_Heap_spread : PySem.W.keepIn K (.ref f_Heap_spread) = true)
    (a_consists_of : PySem.W.nsIn K mainGlobals "_consists_of" = some (some (.ref f_consists_of)))
    (l_consists_of : K.lookup f_consists_of = some ⟨oc_consists_of, od_consists_of, .func (PySem.W.fnOf "_consists_of" "_consists_of" (defArgs s_consists_of) (defBody s_consists_of) (defScope s_consists_of) .none kV_consists_of dc_consists_of pm_consists_of an_consists_of cd_consists_of ct_consists_of), sl_consists_of⟩)
    (c_consists_of : PySem.W.codeIn K cd_consists_of "_consists_of" = true)
    (k_consists_of : PySem.W.keepIn K (.ref f_consists_of) = true)
    (a_atom : PySem.W.nsIn K mainGlobals "_atom" = some (some (.ref f_atom)))
    (l_atom : K.lookup f_atom = some ⟨oc_atom, od_atom, .func (PySem.W.fnOf "_atom" "_atom" (defArgs s_atom) (defBody s_atom) (defScope s_atom) .none kV_atom dc_atom pm_atom an_atom cd_atom ct_atom), sl_atom⟩)
    (c_atom : PySem.W.codeIn K cd_atom "_atom" = true)
    (k_atom : PySem.W.keepIn K (.ref f_atom) = true)
    (a_settle : PySem.W.nsIn K mainGlobals "_settle" = some (some (.ref f_settle)))
    (l_settle : K.lookup f_settle = some ⟨oc_settle, od_settle, .func (PySem.W.fnOf "_settle" "_settle" (defArgs s_settle) (defBody s_settle) (defScope s_settle) .none kV_settle dc_settle pm_settle an_settle cd_settle ct_settle), sl_settle⟩)
    (c_settle : PySem.W.codeIn K cd_settle "_settle" = true)
    (k_settle : PySem.W.keepIn K (.ref f_settle) = true)
    (a_take : PySem.W.nsIn K mainGlobals "_take" = some (some (.ref f_take)))
    (l_take : K.lookup f_take = some ⟨oc_take, od_take, .func (PySem.W.fnOf "_take" "_take" (defArgs s_take) (defBody s_take) (defScope s_take) .none kV_take dc_take pm_take an_take cd_take ct_take), sl_take⟩)
    (c_take : PySem.W.codeIn K cd_take "_take" = true)
    (k_take : PySem.W.keepIn K (.ref f_take) = true)
    (a_end_of_part : PySem.W.nsIn K mainGlobals "_end_of_part" = some (some (.ref f_end_of_part)))
    (l_end_of_part : K.lookup f_end_of_part = some ⟨oc_end_of_part, od_end_of_part, .func (PySem.W.fnOf "_end_of_part" "_end_of_part" (defArgs s_end_of_part) (defBody s_end_of_part) (defScope s_end_of_part) .none kV_end_of_part dc_end_of_part pm_end_of_part an_end_of_part cd_end_of_part ct_end_of_part), sl_end_of_part⟩)
    (c_end_of_part : PySem.W.codeIn K cd_end_of_part "_end_of_part" = true)
    (k_end_of_part : PySem.W.keepIn K (.ref f_end_of_part) = true)
    (a_read : PySem.W.nsIn K mainGlobals "read" = some (some (.ref f_read)))
    (l_read : K.lookup f_read = some ⟨oc_read, od_read, .func (PySem.W.fnOf "read" "read" (defArgs s_read) (defBody s_read) (defScope s_read) .none kV_read dc_read pm_read an_read cd_read ct_read), sl_read⟩)
    (c_read : PySem.W.codeIn K cd_read "read" = true)
    (k_read : PySem.W.keepIn K (.ref f_read) = true)
    (a_quoted : PySem.W.nsIn K mainGlobals "_quoted" = some (some (.ref f_quoted)))
    (l_quoted : K.lookup f_quoted = some ⟨oc_quoted, od_quoted, .func (PySem.W.fnOf "_quoted" "_quoted" (defArgs s_quoted) (defBody s_quoted) (defScope s_quoted) .none kV_quoted dc_quoted pm_quoted an_quoted cd_quoted ct_quoted), sl_quoted⟩)
    (c_quoted : PySem.W.codeIn K cd_quoted "_quoted" = true)
    (k_quoted : PySem.W.keepIn K (.ref f_quoted) = true)
    (a_write : PySem.W.nsIn K mainGlobals "write" = some (some (.ref f_write)))
    (l_write : K.lookup f_write = some ⟨oc_write, od_write, .func (PySem.W.fnOf "write" "write" (defArgs s_write) (defBody s_write) (defScope s_write) .none kV_write dc_write pm_write an_write cd_write ct_write), sl_write⟩)
    (c_write : PySem.W.codeIn K cd_write "write" = true)
    (k_write : PySem.W.keepIn K (.ref f_write) = true)
    (a_put_members : PySem.W.nsIn K mainGlobals "_put_members" = some (some (.ref f_put_members)))
    (l_put_members : K.lookup f_put_members = some ⟨oc_put_members, od_put_members, .func (PySem.W.fnOf "_put_members" "_put_members" (defArgs s_put_members) (defBody s_put_members) (defScope s_put_members) .none kV_put_members dc_put_members pm_put_members an_put_members cd_put_members ct_put_members), sl_put_members⟩)
    (c_put_members : PySem.W.codeIn K cd_put_members "_put_members" = true)
    (k_put_members : PySem.W.keepIn K (.ref f_put_members) = true)
    (a_weight_of : PySem.W.nsIn K mainGlobals "weight_of" = some (some (.ref f_weight_of)))
    (l_weight_of : K.lookup f_weight_of = some ⟨oc_weight_of, od_weight_of, .func (PySem.W.fnOf "weight_of" "weight_of" (defArgs s_weight_of) (defBody s_weight_of) (defScope s_weight_of) .none kV_weight_of dc_weight_of pm_weight_of an_weight_of cd_weight_of ct_weight_of), sl_weight_of⟩)
    (c_weight_of : PySem.W.codeIn K cd_weight_of "weight_of" = true)
    (k_weight_of : PySem.W.keepIn K (.ref f_weight_of) = true)
    (a_size_of : PySem.W.nsIn K mainGlobals "size_of" = some (some (.ref f_size_of)))
    (l_size_of : K.lookup f_size_of = some ⟨oc_size_of, od_size_of, .func (PySem.W.fnOf "size_of" "size_of" (defArgs s_size_of) (defBody s_size_of) (defScope s_size_of) .none kV_size_of dc_size_of pm_size_of an_size_of cd_size_of ct_size_of), sl_size_of⟩)
    (c_size_of : PySem.W.codeIn K cd_size_of "size_of" = true)
    (k_size_of : PySem.W.keepIn K (.ref f_size_of) = true)
    (a_members : PySem.W.nsIn K mainGlobals "members" = some (some (.ref f_members)))
    (l_members : K.lookup f_members = some ⟨oc_members, od_members, .func (PySem.W.fnOf "members" "members" (defArgs s_members) (defBody s_members) (defScope s_members) .none kV_members dc_members pm_members an_members cd_members ct_members), sl_members⟩)
    (c_members : PySem.W.codeIn K cd_members "members" = true)
    (k_members : PySem.W.keepIn K (.ref f_members) = true)
    (a_list_text : PySem.W.nsIn K mainGlobals "list_text" = some (some (.ref f_list_text)))
    (l_list_text : K.lookup f_list_text = some ⟨oc_list_text, od_list_text, .func (PySem.W.fnOf "list_text" "list_text" (defArgs s_list_text) (defBody s_list_text) (defScope s_list_text) .none kV_list_text dc_list_text pm_list_text an_list_text cd_list_text ct_list_text), sl_list_text⟩)
    (c_list_text : PySem.W.codeIn K cd_list_text "list_text" = true)
    (k_list_text : PySem.W.keepIn K (.ref f_list_text) = true)
    (a_law_box : PySem.W.nsIn K mainGlobals "_law_box" = some (some (.ref f_law_box)))
    (l_law_box : K.lookup f_law_box = some ⟨oc_law_box, od_law_box, .func (PySem.W.fnOf "_law_box" "_law_box" (defArgs s_law_box) (defBody s_law_box) (defScope s_law_box) .none kV_law_box dc_law_box pm_law_box an_law_box cd_law_box ct_law_box), sl_law_box⟩)
    (c_law_box : PySem.W.codeIn K cd_law_box "_law_box" = true)
    (k_law_box : PySem.W.keepIn K (.ref f_law_box) = true)
    (a_law_take : PySem.W.nsIn K mainGlobals "_law_take" = some (some (.ref f_law_take)))
    (l_law_take : K.lookup f_law_take = some ⟨oc_law_take, od_law_take, .func (PySem.W.fnOf "_law_take" "_law_take" (defArgs s_law_take) (defBody s_law_take) (defScope s_law_take) .none kV_law_take dc_law_take pm_law_take an_law_take cd_law_take ct_law_take), sl_law_take⟩)
    (c_law_take : PySem.W.codeIn K cd_law_take "_law_take" = true)
    (k_law_take : PySem.W.keepIn K (.ref f_law_take) = true)
    (a_law_name : PySem.W.nsIn K mainGlobals "_law_name" = some (some (.ref f_law_name)))
    (l_law_name : K.lookup f_law_name = some ⟨oc_law_name, od_law_name, .func (PySem.W.fnOf "_law_name" "_law_name" (defArgs s_law_name) (defBody s_law_name) (defScope s_law_name) .none kV_law_name dc_law_name pm_law_name an_law_name cd_law_name ct_law_name), sl_law_name⟩)
    (c_law_name : PySem.W.codeIn K cd_law_name "_law_name" = true)
    (k_law_name : PySem.W.keepIn K (.ref f_law_name) = true)
    (a_law_word : PySem.W.nsIn K mainGlobals "_law_word" = some (some (.ref f_law_word)))
    (l_law_word : K.lookup f_law_word = some ⟨oc_law_word, od_law_word, .func (PySem.W.fnOf "_law_word" "_law_word" (defArgs s_law_word) (defBody s_law_word) (defScope s_law_word) .none kV_law_word dc_law_word pm_law_word an_law_word cd_law_word ct_law_word), sl_law_word⟩)
    (c_law_word : PySem.W.codeIn K cd_law_word "_law_word" = true)
    (k_law_word : PySem.W.keepIn K (.ref f_law_word) = true)
    (a_law_gap : PySem.W.nsIn K mainGlobals "_law_gap" = some (some (.ref f_law_gap)))
    (l_law_gap : K.lookup f_law_gap = some ⟨oc_law_gap, od_law_gap, .func (PySem.W.fnOf "_law_gap" "_law_gap" (defArgs s_law_gap) (defBody s_law_gap) (defScope s_law_gap) .none kV_law_gap dc_law_gap pm_law_gap an_law_gap cd_law_gap ct_law_gap), sl_law_gap⟩)
    (c_law_gap : PySem.W.codeIn K cd_law_gap "_law_gap" = true)
    (k_law_gap : PySem.W.keepIn K (.ref f_law_gap) = true)
    (a_law_listed : PySem.W.nsIn K mainGlobals "_law_listed" = some (some (.ref f_law_listed)))
    (l_law_listed : K.lookup f_law_listed = some ⟨oc_law_listed, od_law_listed, .func (PySem.W.fnOf "_law_listed" "_law_listed" (defArgs s_law_listed) (defBody s_law_listed) (defScope s_law_listed) .none kV_law_listed dc_law_listed pm_law_listed an_law_listed cd_law_listed ct_law_listed), sl_law_listed⟩)
    (c_law_listed : PySem.W.codeIn K cd_law_listed "_law_listed" = true)
    (k_law_listed : PySem.W.keepIn K (.ref f_law_listed) = true)
    (a_law_dressed : PySem.W.nsIn K mainGlobals "_law_dressed" = some (some (.ref f_law_dressed)))
    (l_law_dressed : K.lookup f_law_dressed = some ⟨oc_law_dressed, od_law_dressed, .func (PySem.W.fnOf "_law_dressed" "_law_dressed" (defArgs s_law_dressed) (defBody s_law_dressed) (defScope s_law_dressed) .none kV_law_dressed dc_law_dressed pm_law_dressed an_law_dressed cd_law_dressed ct_law_dressed), sl_law_dressed⟩)
    (c_law_dressed : PySem.W.codeIn K cd_law_dressed "_law_dressed" = true)
    (k_law_dressed : PySem.W.keepIn K (.ref f_law_dressed) = true)
    (a_law_joined : PySem.W.nsIn K mainGlobals "_law_joined" = some (some (.ref f_law_joined)))
    (l_law_joined : K.lookup f_law_joined = some ⟨oc_law_joined, od_law_joined, .func (PySem.W.fnOf "_law_joined" "_law_joined" (defArgs s_law_joined) (defBody s_law_joined) (defScope s_law_joined) .none kV_law_joined dc_law_joined pm_law_joined an_law_joined cd_law_joined ct_law_joined), sl_law_joined⟩)
    (c_law_joined : PySem.W.codeIn K cd_law_joined "_law_joined" = true)
    (k_law_joined : PySem.W.keepIn K (.ref f_law_joined) = true)
    (a_law_rows : PySem.W.nsIn K mainGlobals "_law_rows" = some (some (.ref f_law_rows)))
    (l_law_rows : K.lookup f_law_rows = some ⟨oc_law_rows, od_law_rows, .func (PySem.W.fnOf "_law_rows" "_law_rows" (defArgs s_law_rows) (defBody s_law_rows) (defScope s_law_rows) .none kV_law_rows dc_law_rows pm_law_rows an_law_rows cd_law_rows ct_law_rows), sl_law_rows⟩)
    (c_law_rows : PySem.W.codeIn K cd_law_rows "_law_rows" = true)
    (k_law_rows : PySem.W.keepIn K (.ref f_law_rows) = true)
    (a_law_inside : PySem.W.nsIn K mainGlobals "_law_inside" = some (some (.ref f_law_inside)))
    (l_law_inside : K.lookup f_law_inside = some ⟨oc_law_inside, od_law_inside, .func (PySem.W.fnOf "_law_inside" "_law_inside" (defArgs s_law_inside) (defBody s_law_inside) (defScope s_law_inside) .none kV_law_inside dc_law_inside pm_law_inside an_law_inside cd_law_inside ct_law_inside), sl_law_inside⟩)
    (c_law_inside : PySem.W.codeIn K cd_law_inside "_law_inside" = true)
    (k_law_inside : PySem.W.keepIn K (.ref f_law_inside) = true)
    (a_law_great : PySem.W.nsIn K mainGlobals "_law_great" = some (some (.ref f_law_great)))
    (l_law_great : K.lookup f_law_great = some ⟨oc_law_great, od_law_great, .func (PySem.W.fnOf "_law_great" "_law_great" (defArgs s_law_great) (defBody s_law_great) (defScope s_law_great) .none kV_law_great dc_law_great pm_law_great an_law_great cd_law_great ct_law_great), sl_law_great⟩)
    (c_law_great : PySem.W.codeIn K cd_law_great "_law_great" = true)
    (k_law_great : PySem.W.keepIn K (.ref f_law_great) = true)
    (a_law_whole : PySem.W.nsIn K mainGlobals "_law_whole" = some (some (.ref f_law_whole)))
    (l_law_whole : K.lookup f_law_whole = some ⟨oc_law_whole, od_law_whole, .func (PySem.W.fnOf "_law_whole" "_law_whole" (defArgs s_law_whole) (defBody s_law_whole) (defScope s_law_whole) .none kV_law_whole dc_law_whole pm_law_whole an_law_whole cd_law_whole ct_law_whole), sl_law_whole⟩)
    (c_law_whole : PySem.W.codeIn K cd_law_whole "_law_whole" = true)
    (k_law_whole : PySem.W.keepIn K (.ref f_law_whole) = true)
    (a_law_right : PySem.W.nsIn K mainGlobals "_law_right" = some (some (.ref f_law_right)))
    (l_law_right : K.lookup f_law_right = some ⟨oc_law_right, od_law_right, .func (PySem.W.fnOf "_law_right" "_law_right" (defArgs s_law_right) (defBody s_law_right) (defScope s_law_right) .none kV_law_right dc_law_right pm_law_right an_law_right cd_law_right ct_law_right), sl_law_right⟩)
    (c_law_right : PySem.W.codeIn K cd_law_right "_law_right" = true)
    (k_law_right : PySem.W.keepIn K (.ref f_law_right) = true)
    (a_law : PySem.W.nsIn K mainGlobals "law" = some (some (.ref f_law)))
    (l_law : K.lookup f_law = some ⟨oc_law, od_law, .func (PySem.W.fnOf "law" "law" (defArgs s_law) (defBody s_law) (defScope s_law) .none kV_law dc_law pm_law an_law cd_law ct_law), sl_law⟩)
    (c_law : PySem.W.codeIn K cd_law "law" = true)
    (k_law : PySem.W.keepIn K (.ref f_law) = true)
    (v_NIL : PySem.W.nsIn K mainGlobals "NIL" = some (some (.int 0 t_NIL)))
    (v_EMPTY : PySem.W.nsIn K mainGlobals "EMPTY" = some (some (.int 0 t_EMPTY)))
    (v_NUMBER : PySem.W.nsIn K mainGlobals "NUMBER" = some (some (.int 1 t_NUMBER)))
    (v_NAME : PySem.W.nsIn K mainGlobals "NAME" = some (some (.int 2 t_NAME)))
    (v_PAIR : PySem.W.nsIn K mainGlobals "PAIR" = some (some (.int 3 t_PAIR)))
    (v_HEAVY : PySem.W.nsIn K mainGlobals "HEAVY" = some (some (.int 100001 t_HEAVY)))
    (v_BLANKS : PySem.W.nsIn K mainGlobals "BLANKS" = some (some (.str " \n" t_BLANKS)))
    (v_DIGITS : PySem.W.nsIn K mainGlobals "DIGITS" = some (some (.str "0123456789" t_DIGITS)))
    (v_LOWER : PySem.W.nsIn K mainGlobals "LOWER" = some (some (.str "abcdefghijklmnopqrstuvwxyz" t_LOWER)))
    (v_NAME_SIGNS : PySem.W.nsIn K mainGlobals "NAME_SIGNS" = some (some (.str "abcdefghijklmnopqrstuvwxyz0123456789" t_NAME_SIGNS)))
    (v_WORD_SIGNS : PySem.W.nsIn K mainGlobals "WORD_SIGNS" = some (some (.str "abcdefghijklmnopqrstuvwxyzABCDEFGHIJKLMNOPQRSTUVWXYZ0123456789" t_WORD_SIGNS)))
    (v_LONGEST_NUMBER : PySem.W.nsIn K mainGlobals "LONGEST_NUMBER" = some (some (.int 4 t_LONGEST_NUMBER)))
    (v_LONGEST_NAME : PySem.W.nsIn K mainGlobals "LONGEST_NAME" = some (some (.int 12 t_LONGEST_NAME)))
    (z_bool : PySem.W.nsIn K mainGlobals "bool" = some none)
    (z_int : PySem.W.nsIn K mainGlobals "int" = some none)
    (z_isinstance : PySem.W.nsIn K mainGlobals "isinstance" = some none)
    (z_len : PySem.W.nsIn K mainGlobals "len" = some none)
    (z_list : PySem.W.nsIn K mainGlobals "list" = some none)
    (z_min : PySem.W.nsIn K mainGlobals "min" = some none)
    (z_range : PySem.W.nsIn K mainGlobals "range" = some none)
    (z_reversed : PySem.W.nsIn K mainGlobals "reversed" = some none)
    (z_str : PySem.W.nsIn K mainGlobals "str" = some none)
    (z_sum : PySem.W.nsIn K mainGlobals "sum" = some none)
    : ∃ fd : FuncData, (∀ (s : Shared) (v : Value), BindsTo s fd ⟨[v], []⟩ [("script", v)]) ∧ ∀ base : Heap, K.In base → base.Ns mainGlobals mg → FnOk l.prog w K mg base CX0 9 fa fd ["script"] (spLaw K) := by
  have e := hfa.symm.trans (PySem.W.mg_of X G a_law)
  cases e
  have F_wall := fun_mk (st := s_wall) l_wall c_wall k_wall
  have b_wall := F_wall.binds (ps := ["k"]) fun _ _ _ _ _ _ us hl => match us, hl with | [_], _ => rfl
  have F_Heap__init := fun_mk (st := s_Heap__init) l_Heap__init c_Heap__init k_Heap__init
  have b_Heap__init := F_Heap__init.binds (ps := ["self"]) fun _ _ _ _ _ _ us hl => match us, hl with | [_], _ => rfl
  have F_Heap_copy := fun_mk (st := s_Heap_copy) l_Heap_copy c_Heap_copy k_Heap_copy
  have b_Heap_copy := F_Heap_copy.binds (ps := ["self"]) fun _ _ _ _ _ _ us hl => match us, hl with | [_], _ => rfl
  have F_Heap_new := fun_mk (st := s_Heap_new) l_Heap_new c_Heap_new k_Heap_new
  have b_Heap_new := F_Heap_new.binds (ps := ["self", "shape", "face", "first", "second", "heft"]) fun _ _ _ _ _ _ us hl => match us, hl with | [_, _, _, _, _, _], _ => rfl
  have F_Heap_number := fun_mk (st := s_Heap_number) l_Heap_number c_Heap_number k_Heap_number
  have b_Heap_number := F_Heap_number.binds (ps := ["self", "n"]) fun _ _ _ _ _ _ us hl => match us, hl with | [_, _], _ => rfl
  have F_Heap_name := fun_mk (st := s_Heap_name) l_Heap_name c_Heap_name k_Heap_name
  have b_Heap_name := F_Heap_name.binds (ps := ["self", "text"]) fun _ _ _ _ _ _ us hl => match us, hl with | [_, _], _ => rfl
  have F_Heap_pair := fun_mk (st := s_Heap_pair) l_Heap_pair c_Heap_pair k_Heap_pair
  have b_Heap_pair := F_Heap_pair.binds (ps := ["self", "first", "second"]) fun _ _ _ _ _ _ us hl => match us, hl with | [_, _, _], _ => rfl
  have F_Heap_shape := fun_mk (st := s_Heap_shape) l_Heap_shape c_Heap_shape k_Heap_shape
  have b_Heap_shape := F_Heap_shape.binds (ps := ["self", "value"]) fun _ _ _ _ _ _ us hl => match us, hl with | [_, _], _ => rfl
  have F_Heap_face := fun_mk (st := s_Heap_face) l_Heap_face c_Heap_face k_Heap_face
  have b_Heap_face := F_Heap_face.binds (ps := ["self", "value"]) fun _ _ _ _ _ _ us hl => match us, hl with | [_, _], _ => rfl
  have F_Heap_first := fun_mk (st := s_Heap_first) l_Heap_first c_Heap_first k_Heap_first
  have b_Heap_first := F_Heap_first.binds (ps := ["self", "value"]) fun _ _ _ _ _ _ us hl => match us, hl with | [_, _], _ => rfl
  have F_Heap_second := fun_mk (st := s_Heap_second) l_Heap_second c_Heap_second k_Heap_second
  have b_Heap_second := F_Heap_second.binds (ps := ["self", "value"]) fun _ _ _ _ _ _ us hl => match us, hl with | [_, _], _ => rfl
  have F_Heap_heft := fun_mk (st := s_Heap_heft) l_Heap_heft c_Heap_heft k_Heap_heft
  have b_Heap_heft := F_Heap_heft.binds (ps := ["self", "value"]) fun _ _ _ _ _ _ us hl => match us, hl with | [_, _], _ => rfl
  have F_Heap_listed := fun_mk (st := s_Heap_listed) l_Heap_listed c_Heap_listed k_Heap_listed
  have b_Heap_listed := F_Heap_listed.binds (ps := ["self", "ids"]) fun _ _ _ _ _ _ us hl => match us, hl with | [_, _], _ => rfl
  have F_Heap_spread := fun_mk (st := s_Heap_spread) l_Heap_spread c_Heap_spread k_Heap_spread
  have b_Heap_spread := F_Heap_spread.binds (ps := ["self", "value"]) fun _ _ _ _ _ _ us hl => match us, hl with | [_, _], _ => rfl
  have F_consists_of := fun_mk (st := s_consists_of) l_consists_of c_consists_of k_consists_of
  have b_consists_of := F_consists_of.binds (ps := ["word", "signs"]) fun _ _ _ _ _ _ us hl => match us, hl with | [_, _], _ => rfl
  have F_atom := fun_mk (st := s_atom) l_atom c_atom k_atom
  have b_atom := F_atom.binds (ps := ["heap", "word"]) fun _ _ _ _ _ _ us hl => match us, hl with | [_, _], _ => rfl
  have F_settle := fun_mk (st := s_settle) l_settle c_settle k_settle
  have b_settle := F_settle.binds (ps := ["heap", "waiting", "value"]) fun _ _ _ _ _ _ us hl => match us, hl with | [_, _, _], _ => rfl
  have F_take := fun_mk (st := s_take) l_take c_take k_take
  have b_take := F_take.binds (ps := ["heap", "waiting", "part", "at"]) fun _ _ _ _ _ _ us hl => match us, hl with | [_, _, _, _], _ => rfl
  have F_end_of_part := fun_mk (st := s_end_of_part) l_end_of_part c_end_of_part k_end_of_part
  have b_end_of_part := F_end_of_part.binds (ps := ["text", "at"]) fun _ _ _ _ _ _ us hl => match us, hl with | [_, _], _ => rfl
  have F_read := fun_mk (st := s_read) l_read c_read k_read
  have b_read := F_read.binds (ps := ["heap", "text"]) fun _ _ _ _ _ _ us hl => match us, hl with | [_, _], _ => rfl
  have F_quoted := fun_mk (st := s_quoted) l_quoted c_quoted k_quoted
  have b_quoted := F_quoted.binds (ps := ["heap", "value"]) fun _ _ _ _ _ _ us hl => match us, hl with | [_, _], _ => rfl
  have F_write := fun_mk (st := s_write) l_write c_write k_write
  have b_write := F_write.binds (ps := ["heap", "value"]) fun _ _ _ _ _ _ us hl => match us, hl with | [_, _], _ => rfl
  have F_put_members := fun_mk (st := s_put_members) l_put_members c_put_members k_put_members
  have b_put_members := F_put_members.binds (ps := ["ids", "todo"]) fun _ _ _ _ _ _ us hl => match us, hl with | [_, _], _ => rfl
  have F_weight_of := fun_mk (st := s_weight_of) l_weight_of c_weight_of k_weight_of
  have b_weight_of := F_weight_of.binds (ps := ["text"]) fun _ _ _ _ _ _ us hl => match us, hl with | [_], _ => rfl
  have F_size_of := fun_mk (st := s_size_of) l_size_of c_size_of k_size_of
  have b_size_of := F_size_of.binds (ps := ["text"]) fun _ _ _ _ _ _ us hl => match us, hl with | [_], _ => rfl
  have F_members := fun_mk (st := s_members) l_members c_members k_members
  have b_members := F_members.binds (ps := ["text"]) fun _ _ _ _ _ _ us hl => match us, hl with | [_], _ => rfl
  have F_list_text := fun_mk (st := s_list_text) l_list_text c_list_text k_list_text
  have b_list_text := F_list_text.binds (ps := ["texts"]) fun _ _ _ _ _ _ us hl => match us, hl with | [_], _ => rfl
  have F_law_box := fun_mk (st := s_law_box) l_law_box c_law_box k_law_box
  have b_law_box := F_law_box.binds (ps := ["script", "place"]) fun _ _ _ _ _ _ us hl => match us, hl with | [_, _], _ => rfl
  have F_law_take := fun_mk (st := s_law_take) l_law_take c_law_take k_law_take
  have b_law_take := F_law_take.binds (ps := ["box", "size"]) fun _ _ _ _ _ _ us hl => match us, hl with | [_, _], _ => rfl
  have F_law_name := fun_mk (st := s_law_name) l_law_name c_law_name k_law_name
  have b_law_name := F_law_name.binds (ps := ["box"]) fun _ _ _ _ _ _ us hl => match us, hl with | [_], _ => rfl
  have F_law_word := fun_mk (st := s_law_word) l_law_word c_law_word k_law_word
  have b_law_word := F_law_word.binds (ps := ["box"]) fun _ _ _ _ _ _ us hl => match us, hl with | [_], _ => rfl
  have F_law_gap := fun_mk (st := s_law_gap) l_law_gap c_law_gap k_law_gap
  have b_law_gap := F_law_gap.binds (ps := ["dress", "before", "after"]) fun _ _ _ _ _ _ us hl => match us, hl with | [_, _, _], _ => rfl
  have F_law_listed := fun_mk (st := s_law_listed) l_law_listed c_law_listed k_law_listed
  have b_law_listed := F_law_listed.binds (ps := ["told"]) fun _ _ _ _ _ _ us hl => match us, hl with | [_], _ => rfl
  have F_law_dressed := fun_mk (st := s_law_dressed) l_law_dressed c_law_dressed k_law_dressed
  have b_law_dressed := F_law_dressed.binds (ps := ["dress", "told", "dressed"]) fun _ _ _ _ _ _ us hl => match us, hl with | [_, _, _], _ => rfl
  have F_law_joined := fun_mk (st := s_law_joined) l_law_joined c_law_joined k_law_joined
  have b_law_joined := F_law_joined.binds (ps := ["dress", "rows"]) fun _ _ _ _ _ _ us hl => match us, hl with | [_, _], _ => rfl
  have F_law_rows := fun_mk (st := s_law_rows) l_law_rows c_law_rows k_law_rows
  have b_law_rows := F_law_rows.binds (ps := ["box", "dress"]) fun _ _ _ _ _ _ us hl => match us, hl with | [_, _], _ => rfl
  have F_law_inside := fun_mk (st := s_law_inside) l_law_inside c_law_inside k_law_inside
  have b_law_inside := F_law_inside.binds (ps := ["row", "way", "many"]) fun _ _ _ _ _ _ us hl => match us, hl with | [_, _, _], _ => rfl
  have F_law_great := fun_mk (st := s_law_great) l_law_great c_law_great k_law_great
  have b_law_great := F_law_great.binds (ps := ["box", "rows"]) fun _ _ _ _ _ _ us hl => match us, hl with | [_, _], _ => rfl
  have F_law_whole := fun_mk (st := s_law_whole) l_law_whole c_law_whole k_law_whole
  have b_law_whole := F_law_whole.binds (ps := ["number"]) fun _ _ _ _ _ _ us hl => match us, hl with | [_], _ => rfl
  have F_law_right := fun_mk (st := s_law_right) l_law_right c_law_right k_law_right
  have b_law_right := F_law_right.binds (ps := ["row"]) fun _ _ _ _ _ _ us hl => match us, hl with | [_], _ => rfl
  have F_law := fun_mk (st := s_law) l_law c_law k_law
  have b_law := F_law.binds (ps := ["script"]) fun _ _ _ _ _ _ us hl => match us, hl with | [_], _ => rfl
  let T : Txt K mg := {
    C_Heap := C_Heap,
    cl_Heap := ⟨pg_Heap, hd_Heap, po_Heap, sa_Heap⟩,
    m_Heap := PySem.W.mg_of X G aC_Heap,
    nf__shapes := nf__shapes,
    nf__faces := nf__faces,
    nf__firsts := nf__firsts,
    nf__seconds := nf__seconds,
    nf__hefts := nf__hefts,
    nf__numbers := nf__numbers,
    nf__names := nf__names,
    nf__pairs := nf__pairs,
    a_wall := f_wall,
    d_wall := _,
    wall := ⟨PySem.W.mg_of X G a_wall, F_wall, b_wall⟩,
    a_Heap__init := f_Heap__init,
    d_Heap__init := _,
    Heap__init := ⟨⟨a_Heap__init, i_Heap__init, k_Heap__init⟩, F_Heap__init, b_Heap__init⟩,
    mk_Heap := ⟨mk_Heap, a_Heap__init, i_Heap__init, kc_Heap⟩,
    a_Heap_copy := f_Heap_copy,
    d_Heap_copy := _,
    Heap_copy := ⟨⟨a_Heap_copy, i_Heap_copy, k_Heap_copy⟩, F_Heap_copy, b_Heap_copy⟩,
    a_Heap_new := f_Heap_new,
    d_Heap_new := _,
    Heap_new := ⟨⟨a_Heap_new, i_Heap_new, k_Heap_new⟩, F_Heap_new, b_Heap_new⟩,
    a_Heap_number := f_Heap_number,
    d_Heap_number := _,
    Heap_number := ⟨⟨a_Heap_number, i_Heap_number, k_Heap_number⟩, F_Heap_number, b_Heap_number⟩,
    a_Heap_name := f_Heap_name,
    d_Heap_name := _,
    Heap_name := ⟨⟨a_Heap_name, i_Heap_name, k_Heap_name⟩, F_Heap_name, b_Heap_name⟩,
    a_Heap_pair := f_Heap_pair,
    d_Heap_pair := _,
    Heap_pair := ⟨⟨a_Heap_pair, i_Heap_pair, k_Heap_pair⟩, F_Heap_pair, b_Heap_pair⟩,
    a_Heap_shape := f_Heap_shape,
    d_Heap_shape := _,
    Heap_shape := ⟨⟨a_Heap_shape, i_Heap_shape, k_Heap_shape⟩, F_Heap_shape, b_Heap_shape⟩,
    a_Heap_face := f_Heap_face,
    d_Heap_face := _,
    Heap_face := ⟨⟨a_Heap_face, i_Heap_face, k_Heap_face⟩, F_Heap_face, b_Heap_face⟩,
    a_Heap_first := f_Heap_first,
    d_Heap_first := _,
    Heap_first := ⟨⟨a_Heap_first, i_Heap_first, k_Heap_first⟩, F_Heap_first, b_Heap_first⟩,
    a_Heap_second := f_Heap_second,
    d_Heap_second := _,
    Heap_second := ⟨⟨a_Heap_second, i_Heap_second, k_Heap_second⟩, F_Heap_second, b_Heap_second⟩,
    a_Heap_heft := f_Heap_heft,
    d_Heap_heft := _,
    Heap_heft := ⟨⟨a_Heap_heft, i_Heap_heft, k_Heap_heft⟩, F_Heap_heft, b_Heap_heft⟩,
    a_Heap_listed := f_Heap_listed,
    d_Heap_listed := _,
    Heap_listed := ⟨⟨a_Heap_listed, i_Heap_listed, k_Heap_listed⟩, F_Heap_listed, b_Heap_listed⟩,
    a_Heap_spread := f_Heap_spread,
    d_Heap_spread := _,
    Heap_spread := ⟨⟨a_Heap_spread, i_Heap_spread, k_Heap_spread⟩, F_Heap_spread, b_Heap_spread⟩,
    a_consists_of := f_consists_of,
    d_consists_of := _,
    consists_of := ⟨PySem.W.mg_of X G a_consists_of, F_consists_of, b_consists_of⟩,
    a_atom := f_atom,
    d_atom := _,
    atom := ⟨PySem.W.mg_of X G a_atom, F_atom, b_atom⟩,
    a_settle := f_settle,
    d_settle := _,
    settle := ⟨PySem.W.mg_of X G a_settle, F_settle, b_settle⟩,
    a_take := f_take,
    d_take := _,
    take := ⟨PySem.W.mg_of X G a_take, F_take, b_take⟩,
    a_end_of_part := f_end_of_part,
    d_end_of_part := _,
    end_of_part := ⟨PySem.W.mg_of X G a_end_of_part, F_end_of_part, b_end_of_part⟩,
    a_read := f_read,
    d_read := _,
    read := ⟨PySem.W.mg_of X G a_read, F_read, b_read⟩,
    a_quoted := f_quoted,
    d_quoted := _,
    quoted := ⟨PySem.W.mg_of X G a_quoted, F_quoted, b_quoted⟩,
    a_write := f_write,
    d_write := _,
    write := ⟨PySem.W.mg_of X G a_write, F_write, b_write⟩,
    a_put_members := f_put_members,
    d_put_members := _,
    put_members := ⟨PySem.W.mg_of X G a_put_members, F_put_members, b_put_members⟩,
    a_weight_of := f_weight_of,
    d_weight_of := _,
    weight_of := ⟨PySem.W.mg_of X G a_weight_of, F_weight_of, b_weight_of⟩,
    a_size_of := f_size_of,
    d_size_of := _,
    size_of := ⟨PySem.W.mg_of X G a_size_of, F_size_of, b_size_of⟩,
    a_members := f_members,
    d_members := _,
    members := ⟨PySem.W.mg_of X G a_members, F_members, b_members⟩,
    a_list_text := f_list_text,
    d_list_text := _,
    list_text := ⟨PySem.W.mg_of X G a_list_text, F_list_text, b_list_text⟩,
    a_law_box := f_law_box,
    d_law_box := _,
    law_box := ⟨PySem.W.mg_of X G a_law_box, F_law_box, b_law_box⟩,
    a_law_take := f_law_take,
    d_law_take := _,
    law_take := ⟨PySem.W.mg_of X G a_law_take, F_law_take, b_law_take⟩,
    a_law_name := f_law_name,
    d_law_name := _,
    law_name := ⟨PySem.W.mg_of X G a_law_name, F_law_name, b_law_name⟩,
    a_law_word := f_law_word,
    d_law_word := _,
    law_word := ⟨PySem.W.mg_of X G a_law_word, F_law_word, b_law_word⟩,
    a_law_gap := f_law_gap,
    d_law_gap := _,
    law_gap := ⟨PySem.W.mg_of X G a_law_gap, F_law_gap, b_law_gap⟩,
    a_law_listed := f_law_listed,
    d_law_listed := _,
    law_listed := ⟨PySem.W.mg_of X G a_law_listed, F_law_listed, b_law_listed⟩,
    a_law_dressed := f_law_dressed,
    d_law_dressed := _,
    law_dressed := ⟨PySem.W.mg_of X G a_law_dressed, F_law_dressed, b_law_dressed⟩,
    a_law_joined := f_law_joined,
    d_law_joined := _,
    law_joined := ⟨PySem.W.mg_of X G a_law_joined, F_law_joined, b_law_joined⟩,
    a_law_rows := f_law_rows,
    d_law_rows := _,
    law_rows := ⟨PySem.W.mg_of X G a_law_rows, F_law_rows, b_law_rows⟩,
    a_law_inside := f_law_inside,
    d_law_inside := _,
    law_inside := ⟨PySem.W.mg_of X G a_law_inside, F_law_inside, b_law_inside⟩,
    a_law_great := f_law_great,
    d_law_great := _,
    law_great := ⟨PySem.W.mg_of X G a_law_great, F_law_great, b_law_great⟩,
    a_law_whole := f_law_whole,
    d_law_whole := _,
    law_whole := ⟨PySem.W.mg_of X G a_law_whole, F_law_whole, b_law_whole⟩,
    a_law_right := f_law_right,
    d_law_right := _,
    law_right := ⟨PySem.W.mg_of X G a_law_right, F_law_right, b_law_right⟩,
    a_law := fa,
    d_law := _,
    law := ⟨PySem.W.mg_of X G a_law, F_law, b_law⟩,
    t_NIL := t_NIL,
    c_NIL := PySem.W.mg_of X G v_NIL,
    t_EMPTY := t_EMPTY,
    c_EMPTY := PySem.W.mg_of X G v_EMPTY,
    t_NUMBER := t_NUMBER,
    c_NUMBER := PySem.W.mg_of X G v_NUMBER,
    t_NAME := t_NAME,
    c_NAME := PySem.W.mg_of X G v_NAME,
    t_PAIR := t_PAIR,
    c_PAIR := PySem.W.mg_of X G v_PAIR,
    t_HEAVY := t_HEAVY,
    c_HEAVY := PySem.W.mg_of X G v_HEAVY,
    t_BLANKS := t_BLANKS,
    c_BLANKS := PySem.W.mg_of X G v_BLANKS,
    t_DIGITS := t_DIGITS,
    c_DIGITS := PySem.W.mg_of X G v_DIGITS,
    t_LOWER := t_LOWER,
    c_LOWER := PySem.W.mg_of X G v_LOWER,
    t_NAME_SIGNS := t_NAME_SIGNS,
    c_NAME_SIGNS := PySem.W.mg_of X G v_NAME_SIGNS,
    t_WORD_SIGNS := t_WORD_SIGNS,
    c_WORD_SIGNS := PySem.W.mg_of X G v_WORD_SIGNS,
    t_LONGEST_NUMBER := t_LONGEST_NUMBER,
    c_LONGEST_NUMBER := PySem.W.mg_of X G v_LONGEST_NUMBER,
    t_LONGEST_NAME := t_LONGEST_NAME,
    c_LONGEST_NAME := PySem.W.mg_of X G v_LONGEST_NAME,
    b_bool := PySem.W.mg_none_of X G z_bool,
    b_int := PySem.W.mg_none_of X G z_int,
    b_isinstance := PySem.W.mg_none_of X G z_isinstance,
    b_len := PySem.W.mg_none_of X G z_len,
    b_list := PySem.W.mg_none_of X G z_list,
    b_min := PySem.W.mg_none_of X G z_min,
    b_range := PySem.W.mg_none_of X G z_range,
    b_reversed := PySem.W.mg_none_of X G z_reversed,
    b_str := PySem.W.mg_none_of X G z_str,
    b_sum := PySem.W.mg_none_of X G z_sum }
  exact ⟨_, fun s v => .of_eq rfl, fun base _ _ => ok_law T⟩
theorem walk {l : PySem.W.OpenLaw} {q : Program} {loose : List Str} {XP : (Str → Option Value) → Heap → Prop} {YP : World → Heap → Prop} {d : DefRec} {K : Params → PySem.W.Frag} (hn : l.most = some 63) (hdf : d.params.defaults = [])
    (hY : ∀ (w : World) (h : Heap), YP w h → (K w.params).In h)
    (F : ∀ (w : World) (mg : Str → Option Value) (fa : Addr) (h : Heap), (K w.params).In h → h.Ns mainGlobals mg → mg d.name = some (.ref fa) →
      ∃ fd : FuncData, (∀ (s : Shared) (u : Value), BindsTo s fd ⟨[u], []⟩ [("script", u)]) ∧ ∀ base : Heap, (K w.params).In base → base.Ns mainGlobals mg → FnOk l.prog w (K w.params) mg base CX0 9 fa fd ["script"] (spLaw (K w.params))) :
    PySem.W.WalkO q loose XP YP l.row.toRowW d [] (fun f vs => PySem.call f vs) :=
  L2.walk_of (n := 63) (k := 9) (x := "script") (CX := fun _ => CX0) (sp := fun w => spLaw (K w.params)) hn (by decide) hdf ⟨rfl, by decide, by decide⟩ hY F (fun _ _ a ns hl _ hS => ⟨a, ns, rfl, hS, hl, fun _ => rfl⟩) fun _ _ _ _ _ z => z
end Wh
open PySem PySem.W PyProof.Rows
set_option maxRecDepth 100000 in
set_option maxHeartbeats 0 in
theorem PySem.Challenge.cw_whittle_k02_weights_sizes_members_holds : PySem.Challenge.rw_whittle_k02_weights_sizes_members.Holds := by
  w_on; o_law; k_head; (case hw => w_witness2)
  k_fill
  refine Wh.walk (l := PySem.Challenge.rw_whittle_k02_weights_sizes_members) rfl rfl (fun w h Y => PySem.W.kIn_of Y) ?F
  case F =>
    intro w mg fa h KX G hmg
    refine' Wh.all_mk KX G hmg ?aC_Heap ?pg_Heap ?hd_Heap ?po_Heap ?sa_Heap ?mk_Heap ?kc_Heap ?nf__shapes ?nf__faces ?nf__firsts ?nf__seconds ?nf__hefts ?nf__numbers ?nf__names ?nf__pairs ?a_wall ?l_wall ?c_wall ?k_wall ?a_Heap__init ?i_Heap__init ?l_Heap__init ?c_Heap__init ?k_Heap__init ?a_Heap_copy ?i_Heap_copy ?l_Heap_copy ?c_Heap_copy ?k_Heap_copy ?a_Heap_new ?i_Heap_new ?l_Heap_new ?c_Heap_new ?k_Heap_new ?a_Heap_number ?i_Heap_number ?l_Heap_number ?c_Heap_number ?k_Heap_number ?a_Heap_name ?i_Heap_name ?l_Heap_name ?c_Heap_name ?k_Heap_name ?a_Heap_pair ?i_Heap_pair ?l_Heap_pair ?c_Heap_pair ?k_Heap_pair ?a_Heap_shape ?i_Heap_shape ?l_Heap_shape ?c_Heap_shape ?k_Heap_shape ?a_Heap_face ?i_Heap_face ?l_Heap_face ?c_Heap_face ?k_Heap_face ?a_Heap_first ?i_Heap_first ?l_Heap_first ?c_Heap_first ?k_Heap_first ?a_Heap_second ?i_Heap_second ?l_Heap_second ?c_Heap_second ?k_Heap_second ?a_Heap_heft ?i_Heap_heft ?l_Heap_heft ?c_Heap_heft ?k_Heap_heft ?a_Heap_listed ?i_Heap_listed ?l_Heap_listed ?c_Heap_listed ?k_Heap_listed ?a_Heap_spread ?i_Heap_spread ?l_Heap_spread ?c_Heap_spread ?k_Heap_spread ?a_consists_of ?l_consists_of ?c_consists_of ?k_consists_of ?a_atom ?l_atom ?c_atom ?k_atom ?a_settle ?l_settle ?c_settle ?k_settle ?a_take ?l_take ?c_take ?k_take ?a_end_of_part ?l_end_of_part ?c_end_of_part ?k_end_of_part ?a_read ?l_read ?c_read ?k_read ?a_quoted ?l_quoted ?c_quoted ?k_quoted ?a_write ?l_write ?c_write ?k_write ?a_put_members ?l_put_members ?c_put_members ?k_put_members ?a_weight_of ?l_weight_of ?c_weight_of ?k_weight_of ?a_size_of ?l_size_of ?c_size_of ?k_size_of ?a_members ?l_members ?c_members ?k_members ?a_list_text ?l_list_text ?c_list_text ?k_list_text ?a_law_box ?l_law_box ?c_law_box ?k_law_box ?a_law_take ?l_law_take ?c_law_take ?k_law_take ?a_law_name ?l_law_name ?c_law_name ?k_law_name ?a_law_word ?l_law_word ?c_law_word ?k_law_word ?a_law_gap ?l_law_gap ?c_law_gap ?k_law_gap ?a_law_listed ?l_law_listed ?c_law_listed ?k_law_listed ?a_law_dressed ?l_law_dressed ?c_law_dressed ?k_law_dressed ?a_law_joined ?l_law_joined ?c_law_joined ?k_law_joined ?a_law_rows ?l_law_rows ?c_law_rows ?k_law_rows ?a_law_inside ?l_law_inside ?c_law_inside ?k_law_inside ?a_law_great ?l_law_great ?c_law_great ?k_law_great ?a_law_whole ?l_law_whole ?c_law_whole ?k_law_whole ?a_law_right ?l_law_right ?c_law_right ?k_law_right ?a_law ?l_law ?c_law ?k_law ?v_NIL ?v_EMPTY ?v_NUMBER ?v_NAME ?v_PAIR ?v_HEAVY ?v_BLANKS ?v_DIGITS ?v_LOWER ?v_NAME_SIGNS ?v_WORD_SIGNS ?v_LONGEST_NUMBER ?v_LONGEST_NAME ?z_bool ?z_int ?z_isinstance ?z_len ?z_list ?z_min ?z_range ?z_reversed ?z_str ?z_sum
    (case aC_Heap => k_is)
    (case pg_Heap => k_is)
    (case hd_Heap => k_is)
    (case po_Heap => k_is)
    (case sa_Heap => k_is)
    (case mk_Heap => k_is)
    (case kc_Heap => k_is)
    (case nf__shapes => k_is)
    (case nf__faces => k_is)
    (case nf__firsts => k_is)
    (case nf__seconds => k_is)
    (case nf__hefts => k_is)
    (case nf__numbers => k_is)
    (case nf__names => k_is)
    (case nf__pairs => k_is)
    (case a_wall => k_is)
    (case l_wall => k_is)
    (case c_wall => k_is)
    (case k_wall => k_is)
    (case a_Heap__init => k_is)
    (case i_Heap__init => k_is)
    (case l_Heap__init => k_is)
    (case c_Heap__init => k_is)
    (case k_Heap__init => k_is)
    (case a_Heap_copy => k_is)
    (case i_Heap_copy => k_is)
    (case l_Heap_copy => k_is)
    (case c_Heap_copy => k_is)
    (case k_Heap_copy => k_is)
    (case a_Heap_new => k_is)
    (case i_Heap_new => k_is)
    (case l_Heap_new => k_is)
    (case c_Heap_new => k_is)
    (case k_Heap_new => k_is)
    (case a_Heap_number => k_is)
    (case i_Heap_number => k_is)
    (case l_Heap_number => k_is)
    (case c_Heap_number => k_is)
    (case k_Heap_number => k_is)
    (case a_Heap_name => k_is)
    (case i_Heap_name => k_is)
    (case l_Heap_name => k_is)
    (case c_Heap_name => k_is)
    (case k_Heap_name => k_is)
    (case a_Heap_pair => k_is)
    (case i_Heap_pair => k_is)
    (case l_Heap_pair => k_is)
    (case c_Heap_pair => k_is)
    (case k_Heap_pair => k_is)
    (case a_Heap_shape => k_is)
    (case i_Heap_shape => k_is)
    (case l_Heap_shape => k_is)
    (case c_Heap_shape => k_is)
    (case k_Heap_shape => k_is)
    (case a_Heap_face => k_is)
    (case i_Heap_face => k_is)
    (case l_Heap_face => k_is)
    (case c_Heap_face => k_is)
    (case k_Heap_face => k_is)
    (case a_Heap_first => k_is)
    (case i_Heap_first => k_is)
    (case l_Heap_first => k_is)
    (case c_Heap_first => k_is)
    (case k_Heap_first => k_is)
    (case a_Heap_second => k_is)
    (case i_Heap_second => k_is)
    (case l_Heap_second => k_is)
    (case c_Heap_second => k_is)
    (case k_Heap_second => k_is)
    (case a_Heap_heft => k_is)
    (case i_Heap_heft => k_is)
    (case l_Heap_heft => k_is)
    (case c_Heap_heft => k_is)
    (case k_Heap_heft => k_is)
    (case a_Heap_listed => k_is)
    (case i_Heap_listed => k_is)
    (case l_Heap_listed => k_is)
    (case c_Heap_listed => k_is)
    (case k_Heap_listed => k_is)
    (case a_Heap_spread => k_is)
    (case i_Heap_spread => k_is)
    (case l_Heap_spread => k_is)
    (case c_Heap_spread => k_is)
    (case k_Heap_spread => k_is)
    (case a_consists_of => k_is)
    (case l_consists_of => k_is)
    (case c_consists_of => k_is)
    (case k_consists_of => k_is)
    (case a_atom => k_is)
    (case l_atom => k_is)
    (case c_atom => k_is)
    (case k_atom => k_is)
    (case a_settle => k_is)
    (case l_settle => k_is)
    (case c_settle => k_is)
    (case k_settle => k_is)
    (case a_take => k_is)
    (case l_take => k_is)
    (case c_take => k_is)
    (case k_take => k_is)
    (case a_end_of_part => k_is)
    (case l_end_of_part => k_is)
    (case c_end_of_part => k_is)
    (case k_end_of_part => k_is)
    (case a_read => k_is)
    (case l_read => k_is)
    (case c_read => k_is)
    (case k_read => k_is)
    (case a_quoted => k_is)
    (case l_quoted => k_is)
    (case c_quoted => k_is)
    (case k_quoted => k_is)
    (case a_write => k_is)
    (case l_write => k_is)
    (case c_write => k_is)
    (case k_write => k_is)
    (case a_put_members => k_is)
    (case l_put_members => k_is)
    (case c_put_members => k_is)
    (case k_put_members => k_is)
    (case a_weight_of => k_is)
    (case l_weight_of => k_is)
    (case c_weight_of => k_is)
    (case k_weight_of => k_is)
    (case a_size_of => k_is)
    (case l_size_of => k_is)
    (case c_size_of => k_is)
    (case k_size_of => k_is)
    (case a_members => k_is)
    (case l_members => k_is)
    (case c_members => k_is)
    (case k_members => k_is)
    (case a_list_text => k_is)
    (case l_list_text => k_is)
    (case c_list_text => k_is)
    (case k_list_text => k_is)
    (case a_law_box => k_is)
    (case l_law_box => k_is)
    (case c_law_box => k_is)
    (case k_law_box => k_is)
    (case a_law_take => k_is)
    (case l_law_take => k_is)
    (case c_law_take => k_is)
    (case k_law_take => k_is)
    (case a_law_name => k_is)
    (case l_law_name => k_is)
    (case c_law_name => k_is)
    (case k_law_name => k_is)
    (case a_law_word => k_is)
    (case l_law_word => k_is)
    (case c_law_word => k_is)
    (case k_law_word => k_is)
    (case a_law_gap => k_is)
    (case l_law_gap => k_is)
    (case c_law_gap => k_is)
    (case k_law_gap => k_is)
    (case a_law_listed => k_is)
    (case l_law_listed => k_is)
    (case c_law_listed => k_is)
    (case k_law_listed => k_is)
    (case a_law_dressed => k_is)
    (case l_law_dressed => k_is)
    (case c_law_dressed => k_is)
    (case k_law_dressed => k_is)
    (case a_law_joined => k_is)
    (case l_law_joined => k_is)
    (case c_law_joined => k_is)
    (case k_law_joined => k_is)
    (case a_law_rows => k_is)
    (case l_law_rows => k_is)
    (case c_law_rows => k_is)
    (case k_law_rows => k_is)
    (case a_law_inside => k_is)
    (case l_law_inside => k_is)
    (case c_law_inside => k_is)
    (case k_law_inside => k_is)
    (case a_law_great => k_is)
    (case l_law_great => k_is)
    (case c_law_great => k_is)
    (case k_law_great => k_is)
    (case a_law_whole => k_is)
    (case l_law_whole => k_is)
    (case c_law_whole => k_is)
    (case k_law_whole => k_is)
    (case a_law_right => k_is)
    (case l_law_right => k_is)
    (case c_law_right => k_is)
    (case k_law_right => k_is)
    (case a_law => k_is)
    (case l_law => k_is)
    (case c_law => k_is)
    (case k_law => k_is)
    (case v_NIL => k_is)
    (case v_EMPTY => k_is)
    (case v_NUMBER => k_is)
    (case v_NAME => k_is)
    (case v_PAIR => k_is)
    (case v_HEAVY => k_is)
    (case v_BLANKS => k_is)
    (case v_DIGITS => k_is)
    (case v_LOWER => k_is)
    (case v_NAME_SIGNS => k_is)
    (case v_WORD_SIGNS => k_is)
    (case v_LONGEST_NUMBER => k_is)
    (case v_LONGEST_NAME => k_is)
    (case z_bool => k_is)
    (case z_int => k_is)
    (case z_isinstance => k_is)
    (case z_len => k_is)
    (case z_list => k_is)
    (case z_min => k_is)
    (case z_range => k_is)
    (case z_reversed => k_is)
    (case z_str => k_is)
    (case z_sum => k_is)
