import PyProof.Rows.All
import Wide.All
import OpenK.AllK
import Wide.FinOn
import PyProof.StrLawsFirst
import Lean
import PySem.Challenge.RW_pb0279_01
open PySem PySem.W PyProof.Rows PySem.Calls
set_option Elab.async false
set_option compiler.extract_closed false
set_option maxRecDepth 100000
set_option linter.unusedVariables false
namespace Mine
theorem nr_append (lk : Look) : ∀ a b : List Stmt, noRoadLSs lk (a ++ b) = (noRoadLSs lk a && noRoadLSs lk b)
  | [], b => rfl
  | s :: a, b => (congrArg (noRoadLS lk s && ·) (nr_append lk a b)).trans (Bool.and_assoc ..).symm
theorem sEq' {a b : Str} (h : a.cps.toList.head? ≠ b.cps.toList.head?) : (a == b) = false := by
  rw [beq_eq_false_iff_ne]
  rintro rfl
  exact h rfl
theorem notMem {x : Str} {c : Nat} (hx : x.cps.toList.head? = some c) : ∀ {l : List Str}, (l.all fun a => a.cps.toList.head? != some c) = true → l.contains x = false
  | [], _ => rfl
  | a :: l, h => by
    rw [List.all_cons, Bool.and_eq_true] at h
    rw [List.contains_cons, notMem hx h.2, Bool.or_false]
    rw [beq_eq_false_iff_ne]
    rintro rfl
    have := h.1
    rw [hx] at this
    simp at this
abbrev P := PySem.Challenge.pw_pb0279_01
abbrev B := PySem.Challenge.pw_pb0279_01.main.body
def litOf : Stmt → Str
  | .Assign _ (.Constant (.str x) _ _) _ => x
  | _ => ⟨#[]⟩
def R : Str := litOf (B.getD 57 (.Pass default))
abbrev lk0 : Look := { strict := false, foot := none, bare := [] }
theorem onR {f : Str → Bool} {x : Str} {t : List PySem.Expr} {k : Nat} {p q : Pos} (h : B.getD 57 (.Pass default) = .Assign t (.Constant (.str x) k p) q) (c : f x = true) : f R = true := by
  have : R = x := by unfold R; rw [h]; rfl
  rw [this]; exact c
theorem R_head : R.cps.toList.head? = some 32 := by
  have : (R.cps.toList.head? == some 32) = true := onR (f := fun x => x.cps.toList.head? == some 32) rfl (by k_qdec)
  exact eq_of_beq this
def okc (c : Nat) : Bool := c != 123 && c != 125 && c != 46
def chunk (k : Nat) (l : List Nat) : List Nat := (l.drop k).take 250
theorem all_chunk {p : Nat → Bool} {l : List Nat} {k : Nat} (h : (chunk k l).all p = true) (r : (l.drop (k + 250)).all p = true) : (l.drop k).all p = true := by
  have := List.take_append_drop 250 (l.drop k)
  rw [← this, List.all_append, Bool.and_eq_true]
  refine ⟨h, ?_⟩
  rw [List.drop_drop]
  exact r
theorem c0 : (chunk 0 R.cps.toList).all okc = true := onR (f := fun x => (chunk 0 x.cps.toList).all okc) rfl (by k_qdec)
theorem c1 : (chunk 250 R.cps.toList).all okc = true := onR (f := fun x => (chunk 250 x.cps.toList).all okc) rfl (by k_qdec)
theorem c2 : (chunk 500 R.cps.toList).all okc = true := onR (f := fun x => (chunk 500 x.cps.toList).all okc) rfl (by k_qdec)
theorem c3 : (chunk 750 R.cps.toList).all okc = true := onR (f := fun x => (chunk 750 x.cps.toList).all okc) rfl (by k_qdec)
theorem c4 : (chunk 1000 R.cps.toList).all okc = true := onR (f := fun x => (chunk 1000 x.cps.toList).all okc) rfl (by k_qdec)
theorem c5 : (chunk 1250 R.cps.toList).all okc = true := onR (f := fun x => (chunk 1250 x.cps.toList).all okc) rfl (by k_qdec)
theorem c6 : (chunk 1500 R.cps.toList).all okc = true := onR (f := fun x => (chunk 1500 x.cps.toList).all okc) rfl (by k_qdec)
theorem c7 : (chunk 1750 R.cps.toList).all okc = true := onR (f := fun x => (chunk 1750 x.cps.toList).all okc) rfl (by k_qdec)
theorem c8 : ((R.cps.toList).drop 2000).all okc = true := onR (f := fun x => ((x.cps.toList).drop 2000).all okc) rfl (by k_qdec)
theorem all0 {p : Nat → Bool} {l : List Nat} (h : (l.drop 0).all p = true) : l.all p = true := by rw [List.drop_zero] at h; exact h
theorem R_all0 : ((R.cps.toList.drop 0).all okc) = true := all_chunk c0 (all_chunk c1 (all_chunk c2 (all_chunk c3 (all_chunk c4 (all_chunk c5 (all_chunk c6 (all_chunk c7 c8)))))))
theorem R_all : (R.cps.toList.all okc) = true := all0 R_all0
theorem isE {l : List Str} (h : l.isEmpty = true) : l = [] := List.isEmpty_iff.mp h
theorem bare0 : ((["vars", "dir", "locals"] : List Str).filter (readsOut PySem.Challenge.rw_pb0279_01.row.prog PySem.Challenge.rw_pb0279_01.row.prog.main.body)) = [] := isE (by kernel_rfl)
theorem strict0 : (!(importedModules PySem.Challenge.rw_pb0279_01.row.prog.main.body).all cThrough.contains) = false := by
  have : (importedModules PySem.Challenge.rw_pb0279_01.row.prog.main.body).all cThrough.contains = true := by kernel_rfl
  rw [this]; rfl
theorem b1 : noRoadLSs lk0 (B.take 57) = true := by kernel_rfl
theorem b2 : noRoadLSs lk0 (B.drop 58) = true := by kernel_rfl
theorem roadR : roadStr R = false := by
  have h := R_all
  rw [List.all_eq_true] at h
  unfold roadStr
  rw [← Array.any_toList, ← Array.any_toList]
  have h1 : (R.cps.toList.any fun c => c == 123 || c == 125) = false := by
    rw [List.any_eq_false]
    intro c hc
    have := h c hc
    simp only [okc, Bool.and_eq_true, bne_iff_ne, ne_eq] at this
    simp [this.1.1, this.1.2]
  have h2 : (R.cps.toList.any fun c => c == 46) = false := by
    rw [List.any_eq_false]
    intro c hc
    have := h c hc
    simp only [okc, Bool.and_eq_true, bne_iff_ne, ne_eq] at this
    simp [this.2]
  rw [h1, h2]; rfl
theorem opensR : R.opensWith "__" = false := by
  unfold PySem.Str.opensWith
  rw [beq_eq_false_iff_ne]
  intro h
  have h' := congrArg (fun a : Array Nat => a.toList.head?) h
  rw [Array.toList_extract] at h'
  have hr := R_head
  revert h' hr
  generalize R.cps.toList = l
  intro h' hr
  cases l with
  | nil => cases hr
  | cons x t =>
    cases hr
    have e2 : (Str.ofString "__").cps.toList = [95, 95] := by decide +kernel
    have e3 : (Str.ofString "__").cps.size = 2 := by decide +kernel
    rw [e2, e3] at h'
    simp at h'
theorem wordR : lk0.word R = true := by
  unfold Look.word attrL
  rw [opensR]
  rw [notMem R_head (by kernel_rfl)]
  rfl
theorem strR : lk0.str R = true := by
  unfold Look.str
  rw [wordR, roadR]
  simp
theorem B_split : B = B.take 57 ++ (Stmt.Assign [.Name "RESERVED" ⟨398, 0, 398, 8⟩] (.Constant (.str R) 0 ⟨398, 11, 398, 1873⟩) ⟨398, 0, 398, 1873⟩ :: B.drop 58) := by rfl
theorem nr_one (x : Str) (r : List Stmt) (q : Pos) : noRoadLSs lk0 (Stmt.Assign [.Name "RESERVED" ⟨398, 0, 398, 8⟩] (.Constant (.str x) 0 ⟨398, 11, 398, 1873⟩) q :: r) = ((true && (lk0.name "RESERVED" && true) && lk0.str x) && noRoadLSs lk0 r) := rfl
theorem look5 : noRoadLSs lk0 B = true := by
  rw [B_split, nr_append, nr_one, strR, b1, b2]
  have h3 : lk0.name "RESERVED" = true := by kernel_rfl
  rw [h3]
  rfl
theorem look5' : noRoadLSs { strict := !(importedModules PySem.Challenge.rw_pb0279_01.row.prog.main.body).all cThrough.contains, foot := none, bare := (["vars", "dir", "locals"] : List Str).filter (readsOut PySem.Challenge.rw_pb0279_01.row.prog PySem.Challenge.rw_pb0279_01.row.prog.main.body) } PySem.Challenge.rw_pb0279_01.row.prog.main.body = true := by
  rw [bare0, strict0]
  exact look5
set_option maxHeartbeats 8000000 in
theorem well : PySem.Challenge.rw_pb0279_01.wellSaid = true := by
  unfold OpenLaw.wellSaid OpenRow.wellSaid OpenRow.partSaid looksOpen
  with_reducible repeat' refine look_both ?_ ?_
  all_goals first
    | with_reducible exact look5'
    | kernel_rfl
set_option maxHeartbeats 0
abbrev PG : Program := PySem.Challenge.pw_pb0279_01
noncomputable def st (i : Nat) : Stmt := PG.main.body.getD i (.Pass default)
noncomputable def sm (i j : Nat) : Stmt := match st i with
  | .ClassDef _ _ _ body _ _ _ _ _ _ _ => body.getD j (.Pass default)
  | _ => .Pass default
noncomputable def fn (s : Stmt) (n q : Str) (g : Addr) (cl : List (Str × Addr)) (dV kV doc pm : Value) (an : Option Addr) (cd ct : Value) (bu : Addr) : FuncData := match s with
  | .FunctionDef _ ps body _ _ _ sc _ _ _ => ⟨n, q, ps, .stmts body, sc, g, cl, dV, kV, doc, pm, an, cd, ct, bu⟩
  | _ => default
noncomputable def kk (P : Params) (s : String) (t : Nat) (v : Value) : DictEntry := ⟨PyData.keyHash P (.ofString s), .str (.ofString s) t, v⟩
noncomputable def o11_0 (P : Params) : Obj := ⟨(.type "tuple"), .none, (.seq #[] 0), #[]⟩
noncomputable def o12_0 (P : Params) : Obj := ⟨.none, .none, (.fields #[]), #[]⟩
noncomputable def o13_0 (P : Params) : Obj := ⟨(.type "code"), .none, (.fields #[(.str (.ofString "<module>") 182), (.str (.ofString "<module>") 183), (.str (.ofString "/claim/cut.py") 184), (.int 1 0), (.int 0 0), (.int 0 0), (.int 0 0), (.int 0 0), (.ref 11), (.bool false), (.int 181 0), (.ref 12), .none, .none, .none, .none, (.int 185 0), (.int 1 0), (.str (.ofString "/claim/cut.py") 186)]), #[]⟩
noncomputable def o14_0 (P : Params) : Obj := ⟨(.type "frame"), .none, .plain, #[(.some (.ref 13)), (.some (.ref 3)), (.some (.ref 3)), .none, (.some (.str (.ofString "__main__") 164)), .none, (.some (.ref 0))]⟩
noncomputable def hA (P : Params) : Heap := ⟨#[boot_o_0 P, boot_o_1 P, boot_o_2 P, boot_o_3 P, boot_o_4 P, boot_o_5 P, boot_o_6 P, boot_o_7 P, boot_o_8 P, boot_o_9 P, boot_o_10 P, o11_0 P, o12_0 P, o13_0 P, o14_0 P], { }⟩
noncomputable def t0 (P : Params) : BT := (.node (boot_o_0 P) (.node (boot_o_1 P) (.node (boot_o_3 P) (.node (boot_o_7 P) .nil .nil) (.node (o11_0 P) .nil .nil)) (.node (boot_o_5 P) (.node (boot_o_9 P) .nil .nil) (.node (o13_0 P) .nil .nil))) (.node (boot_o_2 P) (.node (boot_o_4 P) (.node (boot_o_8 P) .nil .nil) (.node (o12_0 P) .nil .nil)) (.node (boot_o_6 P) (.node (boot_o_10 P) .nil .nil) (.node (o14_0 P) .nil .nil))))
noncomputable def S0 (w : World) (os : OsState) : SharedT := ⟨t0 w.params, 15, { }, #[], { }, 187, os⟩
noncomputable def o2_0 (P : Params) : Obj := ⟨.none, .none, (.dict #[kk P "type.__subclasses__.Exception.0" 232 (.int 47 0), kk P "type.__subclasses__.Exception.n" 233 (.int 1 0)] 2), #[]⟩
noncomputable def o3_0 (P : Params) : Obj := ⟨(.type "dict"), .none, (.dict #[kk P "__name__" 165 (.str (.ofString "ledgerspeak.errors") 194), kk P "__doc__" 166 .none, kk P "__package__" 167 .none, kk P "__loader__" 168 (.builtin "__main__.__loader__#opaque"), kk P "__spec__" 169 .none, kk P "__annotations__" 170 (.ref 6), kk P "__builtins__" 171 (.ref 4), kk P "__file__" 173 (.str (.ofString "/claim/cut.py") 172), kk P "__cached__" 174 .none, kk P "_wall" 193 (.ref 21), kk P "LedgerError" 235 (.ref 47)] 11), #[]⟩
noncomputable def o12_1 (P : Params) : Obj := ⟨.none, .none, (.fields #[(.int 1 0), (.int 0 0), (.ref 20), (.int 5 0), (.int 0 0), (.ref 27)]), #[]⟩
noncomputable def o15_0 (P : Params) : Obj := ⟨(.type "tuple"), .none, (.seq #[] 0), #[]⟩
noncomputable def o16_0 (P : Params) : Obj := ⟨.none, .none, (.fields #[]), #[]⟩
noncomputable def o17_0 (P : Params) : Obj := ⟨(.type "tuple"), .none, (.seq #[(.str (.ofString "k") 190)] 0), #[]⟩
noncomputable def o18_0 (P : Params) : Obj := ⟨(.type "tuple"), .none, (.seq #[] 0), #[]⟩
noncomputable def o19_0 (P : Params) : Obj := ⟨.none, .none, (.func (fn (st 0) (.ofString "_wall") (.ofString "_wall") 0 [] .none .none .none .none .none .none .none 0)), #[]⟩
noncomputable def o20_0 (P : Params) : Obj := ⟨(.type "code"), .none, (.fields #[(.str (.ofString "_wall") 187), (.str (.ofString "_wall") 188), (.str (.ofString "/claim/cut.py") 189), (.int 1 0), (.int 1 0), (.int 0 0), (.int 0 0), (.int 3 0), (.ref 15), (.bool true), (.int 181 0), (.ref 16), .none, (.ref 17), (.ref 18), (.ref 19), (.int 191 0), (.int 1 0), (.str (.ofString "/claim/cut.py") 192)]), #[]⟩
noncomputable def o21_0 (P : Params) : Obj := ⟨(.type "function"), .none, (.func (fn (st 0) (.ofString "_wall") (.ofString "_wall") 3 [] .none .none .none (.str (.ofString "__main__") 164) .none (.ref 20) .none 0)), #[]⟩
noncomputable def o22_0 (P : Params) : Obj := ⟨(.type "tuple"), .none, (.seq #[(.type "Exception")] 0), #[]⟩
noncomputable def o23_0 (P : Params) : Obj := ⟨(.type "builtin_function_or_method"), .none, (.fields #[(.builtin "type.__prepare__"), (.type "type")]), #[]⟩
noncomputable def o24_0 (P : Params) : Obj := ⟨(.type "dict"), .none, (.dict #[kk P "__module__" 203 (.str (.ofString "ledgerspeak.errors") 194), kk P "__qualname__" 205 (.str (.ofString "LedgerError") 204), kk P "__firstlineno__" 207 (.int 5 206), kk P "__init__" 218 (.ref 37), kk P "told" 225 (.ref 44), kk P "__static_attributes__" 228 (.ref 45)] 6), #[]⟩
noncomputable def o25_0 (P : Params) : Obj := ⟨(.type "tuple"), .none, (.seq #[] 0), #[]⟩
noncomputable def o26_0 (P : Params) : Obj := ⟨.none, .none, (.fields #[(.int 7 0), (.int 4 0), (.ref 36), (.int 12 0), (.int 4 0), (.ref 43)]), #[]⟩
noncomputable def o27_0 (P : Params) : Obj := ⟨(.type "code"), .none, (.fields #[(.str (.ofString "LedgerError") 198), (.str (.ofString "LedgerError") 199), (.str (.ofString "/claim/cut.py") 200), (.int 5 0), (.int 0 0), (.int 0 0), (.int 0 0), (.int 0 0), (.ref 25), (.bool false), (.int 181 0), (.ref 26), .none, .none, .none, .none, (.int 201 0), (.int 5 0), (.str (.ofString "/claim/cut.py") 202)]), #[]⟩
noncomputable def o28_0 (P : Params) : Obj := ⟨(.type "frame"), .none, .plain, #[(.some (.ref 27)), (.some (.ref 3)), (.some (.ref 24)), .none, (.some (.str (.ofString "ledgerspeak.errors") 194)), .none, (.some (.ref 0))]⟩
noncomputable def o29_0 (P : Params) : Obj := ⟨(.type "tuple"), .none, (.seq #[(.int 0 208), (.int 0 209)] 0), #[]⟩
noncomputable def o30_0 (P : Params) : Obj := ⟨(.type "tuple"), .none, (.seq #[(.ref 29)] 0), #[]⟩
noncomputable def o31_0 (P : Params) : Obj := ⟨(.type "tuple"), .none, (.seq #[] 0), #[]⟩
noncomputable def o32_0 (P : Params) : Obj := ⟨.none, .none, (.fields #[]), #[]⟩
noncomputable def o33_0 (P : Params) : Obj := ⟨(.type "tuple"), .none, (.seq #[(.str (.ofString "self") 213), (.str (.ofString "what") 214), (.str (.ofString "at") 215)] 0), #[]⟩
noncomputable def o34_0 (P : Params) : Obj := ⟨(.type "tuple"), .none, (.seq #[] 0), #[]⟩
noncomputable def o35_0 (P : Params) : Obj := ⟨.none, .none, (.func (fn (sm 2 0) (.ofString "__init__") (.ofString "LedgerError.__init__") 0 [] .none .none .none .none .none .none .none 0)), #[]⟩
noncomputable def o36_0 (P : Params) : Obj := ⟨(.type "code"), .none, (.fields #[(.str (.ofString "__init__") 210), (.str (.ofString "LedgerError.__init__") 211), (.str (.ofString "/claim/cut.py") 212), (.int 7 0), (.int 3 0), (.int 0 0), (.int 0 0), (.int 3 0), (.ref 31), (.bool true), (.int 181 0), (.ref 32), .none, (.ref 33), (.ref 34), (.ref 35), (.int 216 0), (.int 7 0), (.str (.ofString "/claim/cut.py") 217)]), #[]⟩
noncomputable def o37_0 (P : Params) : Obj := ⟨(.type "function"), .none, (.func (fn (sm 2 0) (.ofString "__init__") (.ofString "LedgerError.__init__") 3 [] (.ref 30) .none .none (.str (.ofString "ledgerspeak.errors") 194) .none (.ref 36) .none 0)), #[]⟩
noncomputable def o38_0 (P : Params) : Obj := ⟨(.type "tuple"), .none, (.seq #[] 0), #[]⟩
noncomputable def o39_0 (P : Params) : Obj := ⟨.none, .none, (.fields #[]), #[]⟩
noncomputable def o40_0 (P : Params) : Obj := ⟨(.type "tuple"), .none, (.seq #[(.str (.ofString "self") 222)] 0), #[]⟩
noncomputable def o41_0 (P : Params) : Obj := ⟨(.type "tuple"), .none, (.seq #[] 0), #[]⟩
noncomputable def o42_0 (P : Params) : Obj := ⟨.none, .none, (.func (fn (sm 2 1) (.ofString "told") (.ofString "LedgerError.told") 0 [] .none .none .none .none .none .none .none 0)), #[]⟩
noncomputable def o43_0 (P : Params) : Obj := ⟨(.type "code"), .none, (.fields #[(.str (.ofString "told") 219), (.str (.ofString "LedgerError.told") 220), (.str (.ofString "/claim/cut.py") 221), (.int 12 0), (.int 1 0), (.int 0 0), (.int 0 0), (.int 3 0), (.ref 38), (.bool true), (.int 181 0), (.ref 39), .none, (.ref 40), (.ref 41), (.ref 42), (.int 223 0), (.int 12 0), (.str (.ofString "/claim/cut.py") 224)]), #[]⟩
noncomputable def o44_0 (P : Params) : Obj := ⟨(.type "function"), .none, (.func (fn (sm 2 1) (.ofString "told") (.ofString "LedgerError.told") 3 [] .none .none .none (.str (.ofString "ledgerspeak.errors") 194) .none (.ref 43) .none 0)), #[]⟩
noncomputable def o45_0 (P : Params) : Obj := ⟨(.type "tuple"), .none, (.seq #[(.str (.ofString "at") 226), (.str (.ofString "what") 227)] 0), #[]⟩
noncomputable def o46_0 (P : Params) : Obj := ⟨(.type "dict"), .none, (.dict #[kk P "__module__" 203 (.str (.ofString "ledgerspeak.errors") 194), kk P "__firstlineno__" 207 (.int 5 206), kk P "__init__" 218 (.ref 37), kk P "told" 225 (.ref 44), kk P "__static_attributes__" 228 (.ref 45), kk P "__weakref__" 230 (.ref 48), kk P "__doc__" 231 .none] 3), #[]⟩
noncomputable def o47_0 (P : Params) : Obj := ⟨(.type "type"), .none, (.cls ⟨.ofString "LedgerError", [(.type "Exception")], [(.ref 47), (.type "Exception"), (.type "BaseException"), (.type "object")], 46, .ofString "LedgerError", true, [], [], false, .none, false⟩), #[(.some (.ref 22)), .none, (.some (.str (.ofString "LedgerError") 196)), (.some (.str (.ofString "LedgerError") 204)), (.some (.builtin "Exception.__new__")), (.some (.bool true))]⟩
noncomputable def o48_0 (P : Params) : Obj := ⟨(.type "getset_descriptor"), .none, (.fields #[(.str (.ofString "__weakref__") 229), (.ref 47), (.builtin "ExceptionGroup.__weakref__"), .none]), #[]⟩
noncomputable def o49_0 (P : Params) : Obj := ⟨(.type "super"), .none, (.fields #[(.ref 47), (.ref 47), (.ref 47)]), #[]⟩
noncomputable def o50_0 (P : Params) : Obj := ⟨(.type "builtin_function_or_method"), .none, (.fields #[(.builtin "object.__init_subclass__"), (.ref 47)]), #[]⟩
noncomputable def t1 (P : Params) : BT := (.node (boot_o_0 P) (.node (boot_o_1 P) (.node (o3_0 P) (.node (boot_o_7 P) (.node (o15_0 P) (.node (o31_0 P) .nil .nil) (.node (o47_0 P) .nil .nil)) (.node (o23_0 P) (.node (o39_0 P) .nil .nil) .nil)) (.node (o11_0 P) (.node (o19_0 P) (.node (o35_0 P) .nil .nil) .nil) (.node (o27_0 P) (.node (o43_0 P) .nil .nil) .nil))) (.node (boot_o_5 P) (.node (boot_o_9 P) (.node (o17_0 P) (.node (o33_0 P) .nil .nil) (.node (o49_0 P) .nil .nil)) (.node (o25_0 P) (.node (o41_0 P) .nil .nil) .nil)) (.node (o13_0 P) (.node (o21_0 P) (.node (o37_0 P) .nil .nil) .nil) (.node (o29_0 P) (.node (o45_0 P) .nil .nil) .nil)))) (.node (o2_0 P) (.node (boot_o_4 P) (.node (boot_o_8 P) (.node (o16_0 P) (.node (o32_0 P) .nil .nil) (.node (o48_0 P) .nil .nil)) (.node (o24_0 P) (.node (o40_0 P) .nil .nil) .nil)) (.node (o12_1 P) (.node (o20_0 P) (.node (o36_0 P) .nil .nil) .nil) (.node (o28_0 P) (.node (o44_0 P) .nil .nil) .nil))) (.node (boot_o_6 P) (.node (boot_o_10 P) (.node (o18_0 P) (.node (o34_0 P) .nil .nil) (.node (o50_0 P) .nil .nil)) (.node (o26_0 P) (.node (o42_0 P) .nil .nil) .nil)) (.node (o14_0 P) (.node (o22_0 P) (.node (o38_0 P) .nil .nil) .nil) (.node (o30_0 P) (.node (o46_0 P) .nil .nil) .nil)))))
noncomputable def S1 (w : World) (os : OsState) : SharedT := ⟨t1 w.params, 51, { }, #[], { }, 236, os⟩
noncomputable def o3_1 (P : Params) : Obj := ⟨(.type "dict"), .none, (.dict #[kk P "__name__" 165 (.str (.ofString "ledgerspeak.errors") 194), kk P "__doc__" 166 .none, kk P "__package__" 167 .none, kk P "__loader__" 168 (.builtin "__main__.__loader__#opaque"), kk P "__spec__" 169 .none, kk P "__annotations__" 170 (.ref 6), kk P "__builtins__" 171 (.ref 4), kk P "__file__" 173 (.str (.ofString "/claim/cut.py") 172), kk P "__cached__" 174 .none, kk P "_wall" 193 (.ref 21), kk P "LedgerError" 235 (.ref 47), kk P "TokenFault" 251 (.ref 60)] 12), #[]⟩
noncomputable def o12_2 (P : Params) : Obj := ⟨.none, .none, (.fields #[(.int 1 0), (.int 0 0), (.ref 20), (.int 5 0), (.int 0 0), (.ref 27), (.int 14 0), (.int 0 0), (.ref 56)]), #[]⟩
noncomputable def o47_1 (P : Params) : Obj := ⟨(.type "type"), .none, (.cls ⟨.ofString "LedgerError", [(.type "Exception")], [(.ref 47), (.type "Exception"), (.type "BaseException"), (.type "object")], 46, .ofString "LedgerError", true, [], [(.ref 60)], false, .none, false⟩), #[(.some (.ref 22)), .none, (.some (.str (.ofString "LedgerError") 196)), (.some (.str (.ofString "LedgerError") 204)), (.some (.builtin "Exception.__new__")), (.some (.bool true))]⟩
noncomputable def o51_0 (P : Params) : Obj := ⟨(.type "tuple"), .none, (.seq #[(.ref 47)] 0), #[]⟩
noncomputable def o52_0 (P : Params) : Obj := ⟨(.type "builtin_function_or_method"), .none, (.fields #[(.builtin "type.__prepare__"), (.type "type")]), #[]⟩
noncomputable def o53_0 (P : Params) : Obj := ⟨(.type "dict"), .none, (.dict #[kk P "__module__" 243 (.str (.ofString "ledgerspeak.errors") 194), kk P "__qualname__" 245 (.str (.ofString "TokenFault") 244), kk P "__firstlineno__" 247 (.int 14 246), kk P "__static_attributes__" 248 (.ref 58)] 4), #[]⟩
noncomputable def o54_0 (P : Params) : Obj := ⟨(.type "tuple"), .none, (.seq #[] 0), #[]⟩
noncomputable def o55_0 (P : Params) : Obj := ⟨.none, .none, (.fields #[]), #[]⟩
noncomputable def o56_0 (P : Params) : Obj := ⟨(.type "code"), .none, (.fields #[(.str (.ofString "TokenFault") 238), (.str (.ofString "TokenFault") 239), (.str (.ofString "/claim/cut.py") 240), (.int 14 0), (.int 0 0), (.int 0 0), (.int 0 0), (.int 0 0), (.ref 54), (.bool false), (.int 181 0), (.ref 55), .none, .none, .none, .none, (.int 241 0), (.int 14 0), (.str (.ofString "/claim/cut.py") 242)]), #[]⟩
noncomputable def o57_0 (P : Params) : Obj := ⟨(.type "frame"), .none, .plain, #[(.some (.ref 56)), (.some (.ref 3)), (.some (.ref 53)), .none, (.some (.str (.ofString "ledgerspeak.errors") 194)), .none, (.some (.ref 0))]⟩
noncomputable def o58_0 (P : Params) : Obj := ⟨(.type "tuple"), .none, (.seq #[] 0), #[]⟩
noncomputable def o59_0 (P : Params) : Obj := ⟨(.type "dict"), .none, (.dict #[kk P "__module__" 243 (.str (.ofString "ledgerspeak.errors") 194), kk P "__firstlineno__" 247 (.int 14 246), kk P "__static_attributes__" 248 (.ref 58), kk P "__doc__" 249 .none] 2), #[]⟩
noncomputable def o60_0 (P : Params) : Obj := ⟨(.type "type"), .none, (.cls ⟨.ofString "TokenFault", [(.ref 47)], [(.ref 60), (.ref 47), (.type "Exception"), (.type "BaseException"), (.type "object")], 59, .ofString "TokenFault", true, [], [], false, .none, false⟩), #[(.some (.ref 51)), .none, (.some (.str (.ofString "TokenFault") 236)), (.some (.str (.ofString "TokenFault") 244)), (.some (.builtin "Exception.__new__")), (.some (.bool true))]⟩
noncomputable def o61_0 (P : Params) : Obj := ⟨(.type "super"), .none, (.fields #[(.ref 60), (.ref 60), (.ref 60)]), #[]⟩
noncomputable def o62_0 (P : Params) : Obj := ⟨(.type "builtin_function_or_method"), .none, (.fields #[(.builtin "object.__init_subclass__"), (.ref 60)]), #[]⟩
noncomputable def t2 (P : Params) : BT := (.node (boot_o_0 P) (.node (boot_o_1 P) (.node (o3_1 P) (.node (boot_o_7 P) (.node (o15_0 P) (.node (o31_0 P) .nil .nil) (.node (o47_1 P) .nil .nil)) (.node (o23_0 P) (.node (o39_0 P) .nil .nil) (.node (o55_0 P) .nil .nil))) (.node (o11_0 P) (.node (o19_0 P) (.node (o35_0 P) .nil .nil) (.node (o51_0 P) .nil .nil)) (.node (o27_0 P) (.node (o43_0 P) .nil .nil) (.node (o59_0 P) .nil .nil)))) (.node (boot_o_5 P) (.node (boot_o_9 P) (.node (o17_0 P) (.node (o33_0 P) .nil .nil) (.node (o49_0 P) .nil .nil)) (.node (o25_0 P) (.node (o41_0 P) .nil .nil) (.node (o57_0 P) .nil .nil))) (.node (o13_0 P) (.node (o21_0 P) (.node (o37_0 P) .nil .nil) (.node (o53_0 P) .nil .nil)) (.node (o29_0 P) (.node (o45_0 P) .nil .nil) (.node (o61_0 P) .nil .nil))))) (.node (o2_0 P) (.node (boot_o_4 P) (.node (boot_o_8 P) (.node (o16_0 P) (.node (o32_0 P) .nil .nil) (.node (o48_0 P) .nil .nil)) (.node (o24_0 P) (.node (o40_0 P) .nil .nil) (.node (o56_0 P) .nil .nil))) (.node (o12_2 P) (.node (o20_0 P) (.node (o36_0 P) .nil .nil) (.node (o52_0 P) .nil .nil)) (.node (o28_0 P) (.node (o44_0 P) .nil .nil) (.node (o60_0 P) .nil .nil)))) (.node (boot_o_6 P) (.node (boot_o_10 P) (.node (o18_0 P) (.node (o34_0 P) .nil .nil) (.node (o50_0 P) .nil .nil)) (.node (o26_0 P) (.node (o42_0 P) .nil .nil) (.node (o58_0 P) .nil .nil))) (.node (o14_0 P) (.node (o22_0 P) (.node (o38_0 P) .nil .nil) (.node (o54_0 P) .nil .nil)) (.node (o30_0 P) (.node (o46_0 P) .nil .nil) (.node (o62_0 P) .nil .nil))))))
noncomputable def S2 (w : World) (os : OsState) : SharedT := ⟨t2 w.params, 63, { }, #[], { }, 252, os⟩
noncomputable def o3_2 (P : Params) : Obj := ⟨(.type "dict"), .none, (.dict #[kk P "__name__" 165 (.str (.ofString "ledgerspeak.errors") 194), kk P "__doc__" 166 .none, kk P "__package__" 167 .none, kk P "__loader__" 168 (.builtin "__main__.__loader__#opaque"), kk P "__spec__" 169 .none, kk P "__annotations__" 170 (.ref 6), kk P "__builtins__" 171 (.ref 4), kk P "__file__" 173 (.str (.ofString "/claim/cut.py") 172), kk P "__cached__" 174 .none, kk P "_wall" 193 (.ref 21), kk P "LedgerError" 235 (.ref 47), kk P "TokenFault" 251 (.ref 60), kk P "DataFault" 267 (.ref 72)] 13), #[]⟩
noncomputable def o12_3 (P : Params) : Obj := ⟨.none, .none, (.fields #[(.int 1 0), (.int 0 0), (.ref 20), (.int 5 0), (.int 0 0), (.ref 27), (.int 14 0), (.int 0 0), (.ref 56), (.int 16 0), (.int 0 0), (.ref 68)]), #[]⟩
noncomputable def o47_2 (P : Params) : Obj := ⟨(.type "type"), .none, (.cls ⟨.ofString "LedgerError", [(.type "Exception")], [(.ref 47), (.type "Exception"), (.type "BaseException"), (.type "object")], 46, .ofString "LedgerError", true, [], [(.ref 60), (.ref 72)], false, .none, false⟩), #[(.some (.ref 22)), .none, (.some (.str (.ofString "LedgerError") 196)), (.some (.str (.ofString "LedgerError") 204)), (.some (.builtin "Exception.__new__")), (.some (.bool true))]⟩
noncomputable def o63_0 (P : Params) : Obj := ⟨(.type "tuple"), .none, (.seq #[(.ref 47)] 0), #[]⟩
noncomputable def o64_0 (P : Params) : Obj := ⟨(.type "builtin_function_or_method"), .none, (.fields #[(.builtin "type.__prepare__"), (.type "type")]), #[]⟩
noncomputable def o65_0 (P : Params) : Obj := ⟨(.type "dict"), .none, (.dict #[kk P "__module__" 259 (.str (.ofString "ledgerspeak.errors") 194), kk P "__qualname__" 261 (.str (.ofString "DataFault") 260), kk P "__firstlineno__" 263 (.int 16 262), kk P "__static_attributes__" 264 (.ref 70)] 4), #[]⟩
noncomputable def o66_0 (P : Params) : Obj := ⟨(.type "tuple"), .none, (.seq #[] 0), #[]⟩
noncomputable def o67_0 (P : Params) : Obj := ⟨.none, .none, (.fields #[]), #[]⟩
noncomputable def o68_0 (P : Params) : Obj := ⟨(.type "code"), .none, (.fields #[(.str (.ofString "DataFault") 254), (.str (.ofString "DataFault") 255), (.str (.ofString "/claim/cut.py") 256), (.int 16 0), (.int 0 0), (.int 0 0), (.int 0 0), (.int 0 0), (.ref 66), (.bool false), (.int 181 0), (.ref 67), .none, .none, .none, .none, (.int 257 0), (.int 16 0), (.str (.ofString "/claim/cut.py") 258)]), #[]⟩
noncomputable def o69_0 (P : Params) : Obj := ⟨(.type "frame"), .none, .plain, #[(.some (.ref 68)), (.some (.ref 3)), (.some (.ref 65)), .none, (.some (.str (.ofString "ledgerspeak.errors") 194)), .none, (.some (.ref 0))]⟩
noncomputable def o70_0 (P : Params) : Obj := ⟨(.type "tuple"), .none, (.seq #[] 0), #[]⟩
noncomputable def o71_0 (P : Params) : Obj := ⟨(.type "dict"), .none, (.dict #[kk P "__module__" 259 (.str (.ofString "ledgerspeak.errors") 194), kk P "__firstlineno__" 263 (.int 16 262), kk P "__static_attributes__" 264 (.ref 70), kk P "__doc__" 265 .none] 2), #[]⟩
noncomputable def o72_0 (P : Params) : Obj := ⟨(.type "type"), .none, (.cls ⟨.ofString "DataFault", [(.ref 47)], [(.ref 72), (.ref 47), (.type "Exception"), (.type "BaseException"), (.type "object")], 71, .ofString "DataFault", true, [], [], false, .none, false⟩), #[(.some (.ref 63)), .none, (.some (.str (.ofString "DataFault") 252)), (.some (.str (.ofString "DataFault") 260)), (.some (.builtin "Exception.__new__")), (.some (.bool true))]⟩
noncomputable def o73_0 (P : Params) : Obj := ⟨(.type "super"), .none, (.fields #[(.ref 72), (.ref 72), (.ref 72)]), #[]⟩
noncomputable def o74_0 (P : Params) : Obj := ⟨(.type "builtin_function_or_method"), .none, (.fields #[(.builtin "object.__init_subclass__"), (.ref 72)]), #[]⟩
noncomputable def t3 (P : Params) : BT := (.node (boot_o_0 P) (.node (boot_o_1 P) (.node (o3_2 P) (.node (boot_o_7 P) (.node (o15_0 P) (.node (o31_0 P) (.node (o63_0 P) .nil .nil) .nil) (.node (o47_2 P) .nil .nil)) (.node (o23_0 P) (.node (o39_0 P) (.node (o71_0 P) .nil .nil) .nil) (.node (o55_0 P) .nil .nil))) (.node (o11_0 P) (.node (o19_0 P) (.node (o35_0 P) (.node (o67_0 P) .nil .nil) .nil) (.node (o51_0 P) .nil .nil)) (.node (o27_0 P) (.node (o43_0 P) .nil .nil) (.node (o59_0 P) .nil .nil)))) (.node (boot_o_5 P) (.node (boot_o_9 P) (.node (o17_0 P) (.node (o33_0 P) (.node (o65_0 P) .nil .nil) .nil) (.node (o49_0 P) .nil .nil)) (.node (o25_0 P) (.node (o41_0 P) (.node (o73_0 P) .nil .nil) .nil) (.node (o57_0 P) .nil .nil))) (.node (o13_0 P) (.node (o21_0 P) (.node (o37_0 P) (.node (o69_0 P) .nil .nil) .nil) (.node (o53_0 P) .nil .nil)) (.node (o29_0 P) (.node (o45_0 P) .nil .nil) (.node (o61_0 P) .nil .nil))))) (.node (o2_0 P) (.node (boot_o_4 P) (.node (boot_o_8 P) (.node (o16_0 P) (.node (o32_0 P) (.node (o64_0 P) .nil .nil) .nil) (.node (o48_0 P) .nil .nil)) (.node (o24_0 P) (.node (o40_0 P) (.node (o72_0 P) .nil .nil) .nil) (.node (o56_0 P) .nil .nil))) (.node (o12_3 P) (.node (o20_0 P) (.node (o36_0 P) (.node (o68_0 P) .nil .nil) .nil) (.node (o52_0 P) .nil .nil)) (.node (o28_0 P) (.node (o44_0 P) .nil .nil) (.node (o60_0 P) .nil .nil)))) (.node (boot_o_6 P) (.node (boot_o_10 P) (.node (o18_0 P) (.node (o34_0 P) (.node (o66_0 P) .nil .nil) .nil) (.node (o50_0 P) .nil .nil)) (.node (o26_0 P) (.node (o42_0 P) (.node (o74_0 P) .nil .nil) .nil) (.node (o58_0 P) .nil .nil))) (.node (o14_0 P) (.node (o22_0 P) (.node (o38_0 P) (.node (o70_0 P) .nil .nil) .nil) (.node (o54_0 P) .nil .nil)) (.node (o30_0 P) (.node (o46_0 P) .nil .nil) (.node (o62_0 P) .nil .nil))))))
noncomputable def S3 (w : World) (os : OsState) : SharedT := ⟨t3 w.params, 75, { }, #[], { }, 268, os⟩
noncomputable def o3_3 (P : Params) : Obj := ⟨(.type "dict"), .none, (.dict #[kk P "__name__" 165 (.str (.ofString "ledgerspeak.items") 284), kk P "__doc__" 166 .none, kk P "__package__" 167 .none, kk P "__loader__" 168 (.builtin "__main__.__loader__#opaque"), kk P "__spec__" 169 .none, kk P "__annotations__" 170 (.ref 6), kk P "__builtins__" 171 (.ref 4), kk P "__file__" 173 (.str (.ofString "/claim/cut.py") 172), kk P "__cached__" 174 .none, kk P "_wall" 193 (.ref 21), kk P "LedgerError" 235 (.ref 47), kk P "TokenFault" 251 (.ref 60), kk P "DataFault" 267 (.ref 72), kk P "GrammarFault" 283 (.ref 84), kk P "FILLER" 287 (.str (.ofString "FILLER") 286), kk P "RENAMING" 289 (.int 66 288), kk P "ALONE" 291 (.int 77 290)] 17), #[]⟩
noncomputable def o12_4 (P : Params) : Obj := ⟨.none, .none, (.fields #[(.int 1 0), (.int 0 0), (.ref 20), (.int 5 0), (.int 0 0), (.ref 27), (.int 14 0), (.int 0 0), (.ref 56), (.int 16 0), (.int 0 0), (.ref 68), (.int 18 0), (.int 0 0), (.ref 80)]), #[]⟩
noncomputable def o47_3 (P : Params) : Obj := ⟨(.type "type"), .none, (.cls ⟨.ofString "LedgerError", [(.type "Exception")], [(.ref 47), (.type "Exception"), (.type "BaseException"), (.type "object")], 46, .ofString "LedgerError", true, [], [(.ref 60), (.ref 72), (.ref 84)], false, .none, false⟩), #[(.some (.ref 22)), .none, (.some (.str (.ofString "LedgerError") 196)), (.some (.str (.ofString "LedgerError") 204)), (.some (.builtin "Exception.__new__")), (.some (.bool true))]⟩
noncomputable def o75_0 (P : Params) : Obj := ⟨(.type "tuple"), .none, (.seq #[(.ref 47)] 0), #[]⟩
noncomputable def o76_0 (P : Params) : Obj := ⟨(.type "builtin_function_or_method"), .none, (.fields #[(.builtin "type.__prepare__"), (.type "type")]), #[]⟩
noncomputable def o77_0 (P : Params) : Obj := ⟨(.type "dict"), .none, (.dict #[kk P "__module__" 275 (.str (.ofString "ledgerspeak.errors") 194), kk P "__qualname__" 277 (.str (.ofString "GrammarFault") 276), kk P "__firstlineno__" 279 (.int 18 278), kk P "__static_attributes__" 280 (.ref 82)] 4), #[]⟩
noncomputable def o78_0 (P : Params) : Obj := ⟨(.type "tuple"), .none, (.seq #[] 0), #[]⟩
noncomputable def o79_0 (P : Params) : Obj := ⟨.none, .none, (.fields #[]), #[]⟩
noncomputable def o80_0 (P : Params) : Obj := ⟨(.type "code"), .none, (.fields #[(.str (.ofString "GrammarFault") 270), (.str (.ofString "GrammarFault") 271), (.str (.ofString "/claim/cut.py") 272), (.int 18 0), (.int 0 0), (.int 0 0), (.int 0 0), (.int 0 0), (.ref 78), (.bool false), (.int 181 0), (.ref 79), .none, .none, .none, .none, (.int 273 0), (.int 18 0), (.str (.ofString "/claim/cut.py") 274)]), #[]⟩
noncomputable def o81_0 (P : Params) : Obj := ⟨(.type "frame"), .none, .plain, #[(.some (.ref 80)), (.some (.ref 3)), (.some (.ref 77)), .none, (.some (.str (.ofString "ledgerspeak.errors") 194)), .none, (.some (.ref 0))]⟩
noncomputable def o82_0 (P : Params) : Obj := ⟨(.type "tuple"), .none, (.seq #[] 0), #[]⟩
noncomputable def o83_0 (P : Params) : Obj := ⟨(.type "dict"), .none, (.dict #[kk P "__module__" 275 (.str (.ofString "ledgerspeak.errors") 194), kk P "__firstlineno__" 279 (.int 18 278), kk P "__static_attributes__" 280 (.ref 82), kk P "__doc__" 281 .none] 2), #[]⟩
noncomputable def o84_0 (P : Params) : Obj := ⟨(.type "type"), .none, (.cls ⟨.ofString "GrammarFault", [(.ref 47)], [(.ref 84), (.ref 47), (.type "Exception"), (.type "BaseException"), (.type "object")], 83, .ofString "GrammarFault", true, [], [], false, .none, false⟩), #[(.some (.ref 75)), .none, (.some (.str (.ofString "GrammarFault") 268)), (.some (.str (.ofString "GrammarFault") 276)), (.some (.builtin "Exception.__new__")), (.some (.bool true))]⟩
noncomputable def o85_0 (P : Params) : Obj := ⟨(.type "super"), .none, (.fields #[(.ref 84), (.ref 84), (.ref 84)]), #[]⟩
noncomputable def o86_0 (P : Params) : Obj := ⟨(.type "builtin_function_or_method"), .none, (.fields #[(.builtin "object.__init_subclass__"), (.ref 84)]), #[]⟩
noncomputable def t4 (P : Params) : BT := (.node (boot_o_0 P) (.node (boot_o_1 P) (.node (o3_3 P) (.node (boot_o_7 P) (.node (o15_0 P) (.node (o31_0 P) (.node (o63_0 P) .nil .nil) .nil) (.node (o47_3 P) (.node (o79_0 P) .nil .nil) .nil)) (.node (o23_0 P) (.node (o39_0 P) (.node (o71_0 P) .nil .nil) .nil) (.node (o55_0 P) .nil .nil))) (.node (o11_0 P) (.node (o19_0 P) (.node (o35_0 P) (.node (o67_0 P) .nil .nil) .nil) (.node (o51_0 P) (.node (o83_0 P) .nil .nil) .nil)) (.node (o27_0 P) (.node (o43_0 P) (.node (o75_0 P) .nil .nil) .nil) (.node (o59_0 P) .nil .nil)))) (.node (boot_o_5 P) (.node (boot_o_9 P) (.node (o17_0 P) (.node (o33_0 P) (.node (o65_0 P) .nil .nil) .nil) (.node (o49_0 P) (.node (o81_0 P) .nil .nil) .nil)) (.node (o25_0 P) (.node (o41_0 P) (.node (o73_0 P) .nil .nil) .nil) (.node (o57_0 P) .nil .nil))) (.node (o13_0 P) (.node (o21_0 P) (.node (o37_0 P) (.node (o69_0 P) .nil .nil) .nil) (.node (o53_0 P) (.node (o85_0 P) .nil .nil) .nil)) (.node (o29_0 P) (.node (o45_0 P) (.node (o77_0 P) .nil .nil) .nil) (.node (o61_0 P) .nil .nil))))) (.node (o2_0 P) (.node (boot_o_4 P) (.node (boot_o_8 P) (.node (o16_0 P) (.node (o32_0 P) (.node (o64_0 P) .nil .nil) .nil) (.node (o48_0 P) (.node (o80_0 P) .nil .nil) .nil)) (.node (o24_0 P) (.node (o40_0 P) (.node (o72_0 P) .nil .nil) .nil) (.node (o56_0 P) .nil .nil))) (.node (o12_4 P) (.node (o20_0 P) (.node (o36_0 P) (.node (o68_0 P) .nil .nil) .nil) (.node (o52_0 P) (.node (o84_0 P) .nil .nil) .nil)) (.node (o28_0 P) (.node (o44_0 P) (.node (o76_0 P) .nil .nil) .nil) (.node (o60_0 P) .nil .nil)))) (.node (boot_o_6 P) (.node (boot_o_10 P) (.node (o18_0 P) (.node (o34_0 P) (.node (o66_0 P) .nil .nil) .nil) (.node (o50_0 P) (.node (o82_0 P) .nil .nil) .nil)) (.node (o26_0 P) (.node (o42_0 P) (.node (o74_0 P) .nil .nil) .nil) (.node (o58_0 P) .nil .nil))) (.node (o14_0 P) (.node (o22_0 P) (.node (o38_0 P) (.node (o70_0 P) .nil .nil) .nil) (.node (o54_0 P) (.node (o86_0 P) .nil .nil) .nil)) (.node (o30_0 P) (.node (o46_0 P) (.node (o78_0 P) .nil .nil) .nil) (.node (o62_0 P) .nil .nil))))))
noncomputable def S4 (w : World) (os : OsState) : SharedT := ⟨t4 w.params, 87, { }, #[], { }, 292, os⟩
noncomputable def o3_4 (P : Params) : Obj := ⟨(.type "dict"), .none, (.dict #[kk P "__name__" 165 (.str (.ofString "ledgerspeak.items") 284), kk P "__doc__" 166 .none, kk P "__package__" 167 .none, kk P "__loader__" 168 (.builtin "__main__.__loader__#opaque"), kk P "__spec__" 169 .none, kk P "__annotations__" 170 (.ref 6), kk P "__builtins__" 171 (.ref 4), kk P "__file__" 173 (.str (.ofString "/claim/cut.py") 172), kk P "__cached__" 174 .none, kk P "_wall" 193 (.ref 21), kk P "LedgerError" 235 (.ref 47), kk P "TokenFault" 251 (.ref 60), kk P "DataFault" 267 (.ref 72), kk P "GrammarFault" 283 (.ref 84), kk P "FILLER" 287 (.str (.ofString "FILLER") 286), kk P "RENAMING" 289 (.int 66 288), kk P "ALONE" 291 (.int 77 290), kk P "Occurs" 335 (.ref 113)] 18), #[]⟩
noncomputable def o12_5 (P : Params) : Obj := ⟨.none, .none, (.fields #[(.int 1 0), (.int 0 0), (.ref 20), (.int 5 0), (.int 0 0), (.ref 27), (.int 14 0), (.int 0 0), (.ref 56), (.int 16 0), (.int 0 0), (.ref 68), (.int 18 0), (.int 0 0), (.ref 80), (.int 24 0), (.int 0 0), (.ref 92)]), #[]⟩
noncomputable def o87_0 (P : Params) : Obj := ⟨(.type "tuple"), .none, (.seq #[] 0), #[]⟩
noncomputable def o88_0 (P : Params) : Obj := ⟨(.type "builtin_function_or_method"), .none, (.fields #[(.builtin "type.__prepare__"), (.type "type")]), #[]⟩
noncomputable def o89_0 (P : Params) : Obj := ⟨(.type "dict"), .none, (.dict #[kk P "__module__" 299 (.str (.ofString "ledgerspeak.items") 284), kk P "__qualname__" 301 (.str (.ofString "Occurs") 300), kk P "__firstlineno__" 303 (.int 24 302), kk P "__init__" 315 (.ref 103), kk P "told" 322 (.ref 110), kk P "__static_attributes__" 328 (.ref 111)] 6), #[]⟩
noncomputable def o90_0 (P : Params) : Obj := ⟨(.type "tuple"), .none, (.seq #[] 0), #[]⟩
noncomputable def o91_0 (P : Params) : Obj := ⟨.none, .none, (.fields #[(.int 26 0), (.int 4 0), (.ref 102), (.int 33 0), (.int 4 0), (.ref 109)]), #[]⟩
noncomputable def o92_0 (P : Params) : Obj := ⟨(.type "code"), .none, (.fields #[(.str (.ofString "Occurs") 294), (.str (.ofString "Occurs") 295), (.str (.ofString "/claim/cut.py") 296), (.int 24 0), (.int 0 0), (.int 0 0), (.int 0 0), (.int 0 0), (.ref 90), (.bool false), (.int 181 0), (.ref 91), .none, .none, .none, .none, (.int 297 0), (.int 24 0), (.str (.ofString "/claim/cut.py") 298)]), #[]⟩
noncomputable def o93_0 (P : Params) : Obj := ⟨(.type "frame"), .none, .plain, #[(.some (.ref 92)), (.some (.ref 3)), (.some (.ref 89)), .none, (.some (.str (.ofString "ledgerspeak.items") 284)), .none, (.some (.ref 0))]⟩
noncomputable def o94_0 (P : Params) : Obj := ⟨(.type "tuple"), .none, (.seq #[] 0), #[]⟩
noncomputable def o95_0 (P : Params) : Obj := ⟨(.type "tuple"), .none, (.seq #[] 0), #[]⟩
noncomputable def o96_0 (P : Params) : Obj := ⟨(.type "tuple"), .none, (.seq #[.none, (.ref 94), (.ref 95)] 0), #[]⟩
noncomputable def o97_0 (P : Params) : Obj := ⟨(.type "tuple"), .none, (.seq #[] 0), #[]⟩
noncomputable def o98_0 (P : Params) : Obj := ⟨.none, .none, (.fields #[]), #[]⟩
noncomputable def o99_0 (P : Params) : Obj := ⟨(.type "tuple"), .none, (.seq #[(.str (.ofString "self") 307), (.str (.ofString "low") 308), (.str (.ofString "high") 309), (.str (.ofString "depending") 310), (.str (.ofString "keys") 311), (.str (.ofString "indexes") 312)] 0), #[]⟩
noncomputable def o100_0 (P : Params) : Obj := ⟨(.type "tuple"), .none, (.seq #[] 0), #[]⟩
noncomputable def o101_0 (P : Params) : Obj := ⟨.none, .none, (.func (fn (sm 10 0) (.ofString "__init__") (.ofString "Occurs.__init__") 0 [] .none .none .none .none .none .none .none 0)), #[]⟩
noncomputable def o102_0 (P : Params) : Obj := ⟨(.type "code"), .none, (.fields #[(.str (.ofString "__init__") 304), (.str (.ofString "Occurs.__init__") 305), (.str (.ofString "/claim/cut.py") 306), (.int 26 0), (.int 6 0), (.int 0 0), (.int 0 0), (.int 3 0), (.ref 97), (.bool true), (.int 181 0), (.ref 98), .none, (.ref 99), (.ref 100), (.ref 101), (.int 313 0), (.int 26 0), (.str (.ofString "/claim/cut.py") 314)]), #[]⟩
noncomputable def o103_0 (P : Params) : Obj := ⟨(.type "function"), .none, (.func (fn (sm 10 0) (.ofString "__init__") (.ofString "Occurs.__init__") 3 [] (.ref 96) .none .none (.str (.ofString "ledgerspeak.items") 284) .none (.ref 102) .none 0)), #[]⟩
noncomputable def o104_0 (P : Params) : Obj := ⟨(.type "tuple"), .none, (.seq #[] 0), #[]⟩
noncomputable def o105_0 (P : Params) : Obj := ⟨.none, .none, (.fields #[]), #[]⟩
noncomputable def o106_0 (P : Params) : Obj := ⟨(.type "tuple"), .none, (.seq #[(.str (.ofString "self") 319)] 0), #[]⟩
noncomputable def o107_0 (P : Params) : Obj := ⟨(.type "tuple"), .none, (.seq #[] 0), #[]⟩
noncomputable def o108_0 (P : Params) : Obj := ⟨.none, .none, (.func (fn (sm 10 1) (.ofString "told") (.ofString "Occurs.told") 0 [] .none .none .none .none .none .none .none 0)), #[]⟩
noncomputable def o109_0 (P : Params) : Obj := ⟨(.type "code"), .none, (.fields #[(.str (.ofString "told") 316), (.str (.ofString "Occurs.told") 317), (.str (.ofString "/claim/cut.py") 318), (.int 33 0), (.int 1 0), (.int 0 0), (.int 0 0), (.int 3 0), (.ref 104), (.bool true), (.int 181 0), (.ref 105), .none, (.ref 106), (.ref 107), (.ref 108), (.int 320 0), (.int 33 0), (.str (.ofString "/claim/cut.py") 321)]), #[]⟩
noncomputable def o110_0 (P : Params) : Obj := ⟨(.type "function"), .none, (.func (fn (sm 10 1) (.ofString "told") (.ofString "Occurs.told") 3 [] .none .none .none (.str (.ofString "ledgerspeak.items") 284) .none (.ref 109) .none 0)), #[]⟩
noncomputable def o111_0 (P : Params) : Obj := ⟨(.type "tuple"), .none, (.seq #[(.str (.ofString "depending") 323), (.str (.ofString "high") 324), (.str (.ofString "indexes") 325), (.str (.ofString "keys") 326), (.str (.ofString "low") 327)] 0), #[]⟩
noncomputable def o112_0 (P : Params) : Obj := ⟨(.type "dict"), .none, (.dict #[kk P "__module__" 299 (.str (.ofString "ledgerspeak.items") 284), kk P "__firstlineno__" 303 (.int 24 302), kk P "__init__" 315 (.ref 103), kk P "told" 322 (.ref 110), kk P "__static_attributes__" 328 (.ref 111), kk P "__dict__" 330 (.ref 114), kk P "__weakref__" 332 (.ref 115), kk P "__doc__" 333 .none] 4), #[]⟩
noncomputable def o113_0 (P : Params) : Obj := ⟨(.type "type"), .none, (.cls ⟨.ofString "Occurs", [(.type "object")], [(.ref 113), (.type "object")], 112, .ofString "Occurs", true, [], [], false, .none, false⟩), #[.none, .none, (.some (.str (.ofString "Occurs") 292)), (.some (.str (.ofString "Occurs") 300)), (.some (.builtin "object.__new__")), (.some (.bool true))]⟩
noncomputable def o114_0 (P : Params) : Obj := ⟨(.type "getset_descriptor"), .none, (.fields #[(.str (.ofString "__dict__") 329), (.ref 113), (.builtin "function.__dict__"), (.builtin "function.__dict__#set")]), #[]⟩
noncomputable def o115_0 (P : Params) : Obj := ⟨(.type "getset_descriptor"), .none, (.fields #[(.str (.ofString "__weakref__") 331), (.ref 113), (.builtin "ExceptionGroup.__weakref__"), .none]), #[]⟩
noncomputable def o116_0 (P : Params) : Obj := ⟨(.type "super"), .none, (.fields #[(.ref 113), (.ref 113), (.ref 113)]), #[]⟩
noncomputable def o117_0 (P : Params) : Obj := ⟨(.type "builtin_function_or_method"), .none, (.fields #[(.builtin "object.__init_subclass__"), (.ref 113)]), #[]⟩
noncomputable def t5 (P : Params) : BT := (.node (boot_o_0 P) (.node (boot_o_1 P) (.node (o3_4 P) (.node (boot_o_7 P) (.node (o15_0 P) (.node (o31_0 P) (.node (o63_0 P) .nil .nil) (.node (o95_0 P) .nil .nil)) (.node (o47_3 P) (.node (o79_0 P) .nil .nil) (.node (o111_0 P) .nil .nil))) (.node (o23_0 P) (.node (o39_0 P) (.node (o71_0 P) .nil .nil) (.node (o103_0 P) .nil .nil)) (.node (o55_0 P) (.node (o87_0 P) .nil .nil) .nil))) (.node (o11_0 P) (.node (o19_0 P) (.node (o35_0 P) (.node (o67_0 P) .nil .nil) (.node (o99_0 P) .nil .nil)) (.node (o51_0 P) (.node (o83_0 P) .nil .nil) (.node (o115_0 P) .nil .nil))) (.node (o27_0 P) (.node (o43_0 P) (.node (o75_0 P) .nil .nil) (.node (o107_0 P) .nil .nil)) (.node (o59_0 P) (.node (o91_0 P) .nil .nil) .nil)))) (.node (boot_o_5 P) (.node (boot_o_9 P) (.node (o17_0 P) (.node (o33_0 P) (.node (o65_0 P) .nil .nil) (.node (o97_0 P) .nil .nil)) (.node (o49_0 P) (.node (o81_0 P) .nil .nil) (.node (o113_0 P) .nil .nil))) (.node (o25_0 P) (.node (o41_0 P) (.node (o73_0 P) .nil .nil) (.node (o105_0 P) .nil .nil)) (.node (o57_0 P) (.node (o89_0 P) .nil .nil) .nil))) (.node (o13_0 P) (.node (o21_0 P) (.node (o37_0 P) (.node (o69_0 P) .nil .nil) (.node (o101_0 P) .nil .nil)) (.node (o53_0 P) (.node (o85_0 P) .nil .nil) (.node (o117_0 P) .nil .nil))) (.node (o29_0 P) (.node (o45_0 P) (.node (o77_0 P) .nil .nil) (.node (o109_0 P) .nil .nil)) (.node (o61_0 P) (.node (o93_0 P) .nil .nil) .nil))))) (.node (o2_0 P) (.node (boot_o_4 P) (.node (boot_o_8 P) (.node (o16_0 P) (.node (o32_0 P) (.node (o64_0 P) .nil .nil) (.node (o96_0 P) .nil .nil)) (.node (o48_0 P) (.node (o80_0 P) .nil .nil) (.node (o112_0 P) .nil .nil))) (.node (o24_0 P) (.node (o40_0 P) (.node (o72_0 P) .nil .nil) (.node (o104_0 P) .nil .nil)) (.node (o56_0 P) (.node (o88_0 P) .nil .nil) .nil))) (.node (o12_5 P) (.node (o20_0 P) (.node (o36_0 P) (.node (o68_0 P) .nil .nil) (.node (o100_0 P) .nil .nil)) (.node (o52_0 P) (.node (o84_0 P) .nil .nil) (.node (o116_0 P) .nil .nil))) (.node (o28_0 P) (.node (o44_0 P) (.node (o76_0 P) .nil .nil) (.node (o108_0 P) .nil .nil)) (.node (o60_0 P) (.node (o92_0 P) .nil .nil) .nil)))) (.node (boot_o_6 P) (.node (boot_o_10 P) (.node (o18_0 P) (.node (o34_0 P) (.node (o66_0 P) .nil .nil) (.node (o98_0 P) .nil .nil)) (.node (o50_0 P) (.node (o82_0 P) .nil .nil) (.node (o114_0 P) .nil .nil))) (.node (o26_0 P) (.node (o42_0 P) (.node (o74_0 P) .nil .nil) (.node (o106_0 P) .nil .nil)) (.node (o58_0 P) (.node (o90_0 P) .nil .nil) .nil))) (.node (o14_0 P) (.node (o22_0 P) (.node (o38_0 P) (.node (o70_0 P) .nil .nil) (.node (o102_0 P) .nil .nil)) (.node (o54_0 P) (.node (o86_0 P) .nil .nil) .nil)) (.node (o30_0 P) (.node (o46_0 P) (.node (o78_0 P) .nil .nil) (.node (o110_0 P) .nil .nil)) (.node (o62_0 P) (.node (o94_0 P) .nil .nil) .nil))))))
noncomputable def S5 (w : World) (os : OsState) : SharedT := ⟨t5 w.params, 118, { }, #[], { }, 336, os⟩
noncomputable def o3_5 (P : Params) : Obj := ⟨(.type "dict"), .none, (.dict #[kk P "__name__" 165 (.str (.ofString "ledgerspeak.items") 284), kk P "__doc__" 166 .none, kk P "__package__" 167 .none, kk P "__loader__" 168 (.builtin "__main__.__loader__#opaque"), kk P "__spec__" 169 .none, kk P "__annotations__" 170 (.ref 6), kk P "__builtins__" 171 (.ref 4), kk P "__file__" 173 (.str (.ofString "/claim/cut.py") 172), kk P "__cached__" 174 .none, kk P "_wall" 193 (.ref 21), kk P "LedgerError" 235 (.ref 47), kk P "TokenFault" 251 (.ref 60), kk P "DataFault" 267 (.ref 72), kk P "GrammarFault" 283 (.ref 84), kk P "FILLER" 287 (.str (.ofString "FILLER") 286), kk P "RENAMING" 289 (.int 66 288), kk P "ALONE" 291 (.int 77 290), kk P "Occurs" 335 (.ref 113), kk P "Named" 373 (.ref 141)] 19), #[]⟩
noncomputable def o12_6 (P : Params) : Obj := ⟨.none, .none, (.fields #[(.int 1 0), (.int 0 0), (.ref 20), (.int 5 0), (.int 0 0), (.ref 27), (.int 14 0), (.int 0 0), (.ref 56), (.int 16 0), (.int 0 0), (.ref 68), (.int 18 0), (.int 0 0), (.ref 80), (.int 24 0), (.int 0 0), (.ref 92), (.int 35 0), (.int 0 0), (.ref 123)]), #[]⟩
noncomputable def o118_0 (P : Params) : Obj := ⟨(.type "tuple"), .none, (.seq #[] 0), #[]⟩
noncomputable def o119_0 (P : Params) : Obj := ⟨(.type "builtin_function_or_method"), .none, (.fields #[(.builtin "type.__prepare__"), (.type "type")]), #[]⟩
noncomputable def o120_0 (P : Params) : Obj := ⟨(.type "dict"), .none, (.dict #[kk P "__module__" 343 (.str (.ofString "ledgerspeak.items") 284), kk P "__qualname__" 345 (.str (.ofString "Named") 344), kk P "__firstlineno__" 347 (.int 35 346), kk P "__init__" 356 (.ref 131), kk P "told" 363 (.ref 138), kk P "__static_attributes__" 366 (.ref 139)] 6), #[]⟩
noncomputable def o121_0 (P : Params) : Obj := ⟨(.type "tuple"), .none, (.seq #[] 0), #[]⟩
noncomputable def o122_0 (P : Params) : Obj := ⟨.none, .none, (.fields #[(.int 37 0), (.int 4 0), (.ref 130), (.int 41 0), (.int 4 0), (.ref 137)]), #[]⟩
noncomputable def o123_0 (P : Params) : Obj := ⟨(.type "code"), .none, (.fields #[(.str (.ofString "Named") 338), (.str (.ofString "Named") 339), (.str (.ofString "/claim/cut.py") 340), (.int 35 0), (.int 0 0), (.int 0 0), (.int 0 0), (.int 0 0), (.ref 121), (.bool false), (.int 181 0), (.ref 122), .none, .none, .none, .none, (.int 341 0), (.int 35 0), (.str (.ofString "/claim/cut.py") 342)]), #[]⟩
noncomputable def o124_0 (P : Params) : Obj := ⟨(.type "frame"), .none, .plain, #[(.some (.ref 123)), (.some (.ref 3)), (.some (.ref 120)), .none, (.some (.str (.ofString "ledgerspeak.items") 284)), .none, (.some (.ref 0))]⟩
noncomputable def o125_0 (P : Params) : Obj := ⟨(.type "tuple"), .none, (.seq #[] 0), #[]⟩
noncomputable def o126_0 (P : Params) : Obj := ⟨.none, .none, (.fields #[]), #[]⟩
noncomputable def o127_0 (P : Params) : Obj := ⟨(.type "tuple"), .none, (.seq #[(.str (.ofString "self") 351), (.str (.ofString "name") 352), (.str (.ofString "rows") 353)] 0), #[]⟩
noncomputable def o128_0 (P : Params) : Obj := ⟨(.type "tuple"), .none, (.seq #[] 0), #[]⟩
noncomputable def o129_0 (P : Params) : Obj := ⟨.none, .none, (.func (fn (sm 11 0) (.ofString "__init__") (.ofString "Named.__init__") 0 [] .none .none .none .none .none .none .none 0)), #[]⟩
noncomputable def o130_0 (P : Params) : Obj := ⟨(.type "code"), .none, (.fields #[(.str (.ofString "__init__") 348), (.str (.ofString "Named.__init__") 349), (.str (.ofString "/claim/cut.py") 350), (.int 37 0), (.int 3 0), (.int 0 0), (.int 0 0), (.int 3 0), (.ref 125), (.bool true), (.int 181 0), (.ref 126), .none, (.ref 127), (.ref 128), (.ref 129), (.int 354 0), (.int 37 0), (.str (.ofString "/claim/cut.py") 355)]), #[]⟩
noncomputable def o131_0 (P : Params) : Obj := ⟨(.type "function"), .none, (.func (fn (sm 11 0) (.ofString "__init__") (.ofString "Named.__init__") 3 [] .none .none .none (.str (.ofString "ledgerspeak.items") 284) .none (.ref 130) .none 0)), #[]⟩
noncomputable def o132_0 (P : Params) : Obj := ⟨(.type "tuple"), .none, (.seq #[] 0), #[]⟩
noncomputable def o133_0 (P : Params) : Obj := ⟨.none, .none, (.fields #[]), #[]⟩
noncomputable def o134_0 (P : Params) : Obj := ⟨(.type "tuple"), .none, (.seq #[(.str (.ofString "self") 360)] 0), #[]⟩
noncomputable def o135_0 (P : Params) : Obj := ⟨(.type "tuple"), .none, (.seq #[] 0), #[]⟩
noncomputable def o136_0 (P : Params) : Obj := ⟨.none, .none, (.func (fn (sm 11 1) (.ofString "told") (.ofString "Named.told") 0 [] .none .none .none .none .none .none .none 0)), #[]⟩
noncomputable def o137_0 (P : Params) : Obj := ⟨(.type "code"), .none, (.fields #[(.str (.ofString "told") 357), (.str (.ofString "Named.told") 358), (.str (.ofString "/claim/cut.py") 359), (.int 41 0), (.int 1 0), (.int 0 0), (.int 0 0), (.int 3 0), (.ref 132), (.bool true), (.int 181 0), (.ref 133), .none, (.ref 134), (.ref 135), (.ref 136), (.int 361 0), (.int 41 0), (.str (.ofString "/claim/cut.py") 362)]), #[]⟩
noncomputable def o138_0 (P : Params) : Obj := ⟨(.type "function"), .none, (.func (fn (sm 11 1) (.ofString "told") (.ofString "Named.told") 3 [] .none .none .none (.str (.ofString "ledgerspeak.items") 284) .none (.ref 137) .none 0)), #[]⟩
noncomputable def o139_0 (P : Params) : Obj := ⟨(.type "tuple"), .none, (.seq #[(.str (.ofString "name") 364), (.str (.ofString "rows") 365)] 0), #[]⟩
noncomputable def o140_0 (P : Params) : Obj := ⟨(.type "dict"), .none, (.dict #[kk P "__module__" 343 (.str (.ofString "ledgerspeak.items") 284), kk P "__firstlineno__" 347 (.int 35 346), kk P "__init__" 356 (.ref 131), kk P "told" 363 (.ref 138), kk P "__static_attributes__" 366 (.ref 139), kk P "__dict__" 368 (.ref 142), kk P "__weakref__" 370 (.ref 143), kk P "__doc__" 371 .none] 4), #[]⟩
noncomputable def o141_0 (P : Params) : Obj := ⟨(.type "type"), .none, (.cls ⟨.ofString "Named", [(.type "object")], [(.ref 141), (.type "object")], 140, .ofString "Named", true, [], [], false, .none, false⟩), #[.none, .none, (.some (.str (.ofString "Named") 336)), (.some (.str (.ofString "Named") 344)), (.some (.builtin "object.__new__")), (.some (.bool true))]⟩
noncomputable def o142_0 (P : Params) : Obj := ⟨(.type "getset_descriptor"), .none, (.fields #[(.str (.ofString "__dict__") 367), (.ref 141), (.builtin "function.__dict__"), (.builtin "function.__dict__#set")]), #[]⟩
noncomputable def o143_0 (P : Params) : Obj := ⟨(.type "getset_descriptor"), .none, (.fields #[(.str (.ofString "__weakref__") 369), (.ref 141), (.builtin "ExceptionGroup.__weakref__"), .none]), #[]⟩
noncomputable def o144_0 (P : Params) : Obj := ⟨(.type "super"), .none, (.fields #[(.ref 141), (.ref 141), (.ref 141)]), #[]⟩
noncomputable def o145_0 (P : Params) : Obj := ⟨(.type "builtin_function_or_method"), .none, (.fields #[(.builtin "object.__init_subclass__"), (.ref 141)]), #[]⟩
noncomputable def t6 (P : Params) : BT := (.node (boot_o_0 P) (.node (boot_o_1 P) (.node (o3_5 P) (.node (boot_o_7 P) (.node (o15_0 P) (.node (o31_0 P) (.node (o63_0 P) (.node (o127_0 P) .nil .nil) .nil) (.node (o95_0 P) .nil .nil)) (.node (o47_3 P) (.node (o79_0 P) (.node (o143_0 P) .nil .nil) .nil) (.node (o111_0 P) .nil .nil))) (.node (o23_0 P) (.node (o39_0 P) (.node (o71_0 P) (.node (o135_0 P) .nil .nil) .nil) (.node (o103_0 P) .nil .nil)) (.node (o55_0 P) (.node (o87_0 P) .nil .nil) (.node (o119_0 P) .nil .nil)))) (.node (o11_0 P) (.node (o19_0 P) (.node (o35_0 P) (.node (o67_0 P) (.node (o131_0 P) .nil .nil) .nil) (.node (o99_0 P) .nil .nil)) (.node (o51_0 P) (.node (o83_0 P) .nil .nil) (.node (o115_0 P) .nil .nil))) (.node (o27_0 P) (.node (o43_0 P) (.node (o75_0 P) (.node (o139_0 P) .nil .nil) .nil) (.node (o107_0 P) .nil .nil)) (.node (o59_0 P) (.node (o91_0 P) .nil .nil) (.node (o123_0 P) .nil .nil))))) (.node (boot_o_5 P) (.node (boot_o_9 P) (.node (o17_0 P) (.node (o33_0 P) (.node (o65_0 P) (.node (o129_0 P) .nil .nil) .nil) (.node (o97_0 P) .nil .nil)) (.node (o49_0 P) (.node (o81_0 P) (.node (o145_0 P) .nil .nil) .nil) (.node (o113_0 P) .nil .nil))) (.node (o25_0 P) (.node (o41_0 P) (.node (o73_0 P) (.node (o137_0 P) .nil .nil) .nil) (.node (o105_0 P) .nil .nil)) (.node (o57_0 P) (.node (o89_0 P) .nil .nil) (.node (o121_0 P) .nil .nil)))) (.node (o13_0 P) (.node (o21_0 P) (.node (o37_0 P) (.node (o69_0 P) (.node (o133_0 P) .nil .nil) .nil) (.node (o101_0 P) .nil .nil)) (.node (o53_0 P) (.node (o85_0 P) .nil .nil) (.node (o117_0 P) .nil .nil))) (.node (o29_0 P) (.node (o45_0 P) (.node (o77_0 P) (.node (o141_0 P) .nil .nil) .nil) (.node (o109_0 P) .nil .nil)) (.node (o61_0 P) (.node (o93_0 P) .nil .nil) (.node (o125_0 P) .nil .nil)))))) (.node (o2_0 P) (.node (boot_o_4 P) (.node (boot_o_8 P) (.node (o16_0 P) (.node (o32_0 P) (.node (o64_0 P) (.node (o128_0 P) .nil .nil) .nil) (.node (o96_0 P) .nil .nil)) (.node (o48_0 P) (.node (o80_0 P) (.node (o144_0 P) .nil .nil) .nil) (.node (o112_0 P) .nil .nil))) (.node (o24_0 P) (.node (o40_0 P) (.node (o72_0 P) (.node (o136_0 P) .nil .nil) .nil) (.node (o104_0 P) .nil .nil)) (.node (o56_0 P) (.node (o88_0 P) .nil .nil) (.node (o120_0 P) .nil .nil)))) (.node (o12_6 P) (.node (o20_0 P) (.node (o36_0 P) (.node (o68_0 P) (.node (o132_0 P) .nil .nil) .nil) (.node (o100_0 P) .nil .nil)) (.node (o52_0 P) (.node (o84_0 P) .nil .nil) (.node (o116_0 P) .nil .nil))) (.node (o28_0 P) (.node (o44_0 P) (.node (o76_0 P) (.node (o140_0 P) .nil .nil) .nil) (.node (o108_0 P) .nil .nil)) (.node (o60_0 P) (.node (o92_0 P) .nil .nil) (.node (o124_0 P) .nil .nil))))) (.node (boot_o_6 P) (.node (boot_o_10 P) (.node (o18_0 P) (.node (o34_0 P) (.node (o66_0 P) (.node (o130_0 P) .nil .nil) .nil) (.node (o98_0 P) .nil .nil)) (.node (o50_0 P) (.node (o82_0 P) .nil .nil) (.node (o114_0 P) .nil .nil))) (.node (o26_0 P) (.node (o42_0 P) (.node (o74_0 P) (.node (o138_0 P) .nil .nil) .nil) (.node (o106_0 P) .nil .nil)) (.node (o58_0 P) (.node (o90_0 P) .nil .nil) (.node (o122_0 P) .nil .nil)))) (.node (o14_0 P) (.node (o22_0 P) (.node (o38_0 P) (.node (o70_0 P) (.node (o134_0 P) .nil .nil) .nil) (.node (o102_0 P) .nil .nil)) (.node (o54_0 P) (.node (o86_0 P) .nil .nil) (.node (o118_0 P) .nil .nil))) (.node (o30_0 P) (.node (o46_0 P) (.node (o78_0 P) (.node (o142_0 P) .nil .nil) .nil) (.node (o110_0 P) .nil .nil)) (.node (o62_0 P) (.node (o94_0 P) .nil .nil) (.node (o126_0 P) .nil .nil)))))))
noncomputable def S6 (w : World) (os : OsState) : SharedT := ⟨t6 w.params, 146, { }, #[], { }, 374, os⟩
noncomputable def o3_6 (P : Params) : Obj := ⟨(.type "dict"), .none, (.dict #[kk P "__name__" 165 (.str (.ofString "ledgerspeak.items") 284), kk P "__doc__" 166 .none, kk P "__package__" 167 .none, kk P "__loader__" 168 (.builtin "__main__.__loader__#opaque"), kk P "__spec__" 169 .none, kk P "__annotations__" 170 (.ref 6), kk P "__builtins__" 171 (.ref 4), kk P "__file__" 173 (.str (.ofString "/claim/cut.py") 172), kk P "__cached__" 174 .none, kk P "_wall" 193 (.ref 21), kk P "LedgerError" 235 (.ref 47), kk P "TokenFault" 251 (.ref 60), kk P "DataFault" 267 (.ref 72), kk P "GrammarFault" 283 (.ref 84), kk P "FILLER" 287 (.str (.ofString "FILLER") 286), kk P "RENAMING" 289 (.int 66 288), kk P "ALONE" 291 (.int 77 290), kk P "Occurs" 335 (.ref 113), kk P "Named" 373 (.ref 141), kk P "Item" 451 (.ref 188)] 20), #[]⟩
noncomputable def o12_7 (P : Params) : Obj := ⟨.none, .none, (.fields #[(.int 1 0), (.int 0 0), (.ref 20), (.int 5 0), (.int 0 0), (.ref 27), (.int 14 0), (.int 0 0), (.ref 56), (.int 16 0), (.int 0 0), (.ref 68), (.int 18 0), (.int 0 0), (.ref 80), (.int 24 0), (.int 0 0), (.ref 92), (.int 35 0), (.int 0 0), (.ref 123), (.int 43 0), (.int 0 0), (.ref 151)]), #[]⟩
noncomputable def o146_0 (P : Params) : Obj := ⟨(.type "tuple"), .none, (.seq #[] 0), #[]⟩
noncomputable def o147_0 (P : Params) : Obj := ⟨(.type "builtin_function_or_method"), .none, (.fields #[(.builtin "type.__prepare__"), (.type "type")]), #[]⟩
noncomputable def o148_0 (P : Params) : Obj := ⟨(.type "dict"), .none, (.dict #[kk P "__module__" 381 (.str (.ofString "ledgerspeak.items") 284), kk P "__qualname__" 383 (.str (.ofString "Item") 382), kk P "__firstlineno__" 385 (.int 43 384), kk P "__init__" 394 (.ref 159), kk P "add" 402 (.ref 166), kk P "count" 409 (.ref 173), kk P "clauses" 418 (.ref 180), kk P "told" 424 (.ref 185), kk P "__static_attributes__" 444 (.ref 186)] 9), #[]⟩
noncomputable def o149_0 (P : Params) : Obj := ⟨(.type "tuple"), .none, (.seq #[] 0), #[]⟩
noncomputable def o150_0 (P : Params) : Obj := ⟨.none, .none, (.fields #[(.int 45 0), (.int 4 0), (.ref 158), (.int 66 0), (.int 4 0), (.ref 165), (.int 70 0), (.int 4 0), (.ref 172), (.int 73 0), (.int 4 0), (.ref 179), (.int 78 0), (.int 4 0), (.ref 184)]), #[]⟩
noncomputable def o151_0 (P : Params) : Obj := ⟨(.type "code"), .none, (.fields #[(.str (.ofString "Item") 376), (.str (.ofString "Item") 377), (.str (.ofString "/claim/cut.py") 378), (.int 43 0), (.int 0 0), (.int 0 0), (.int 0 0), (.int 0 0), (.ref 149), (.bool false), (.int 181 0), (.ref 150), .none, .none, .none, .none, (.int 379 0), (.int 43 0), (.str (.ofString "/claim/cut.py") 380)]), #[]⟩
noncomputable def o152_0 (P : Params) : Obj := ⟨(.type "frame"), .none, .plain, #[(.some (.ref 151)), (.some (.ref 3)), (.some (.ref 148)), .none, (.some (.str (.ofString "ledgerspeak.items") 284)), .none, (.some (.ref 0))]⟩
noncomputable def o153_0 (P : Params) : Obj := ⟨(.type "tuple"), .none, (.seq #[] 0), #[]⟩
noncomputable def o154_0 (P : Params) : Obj := ⟨.none, .none, (.fields #[]), #[]⟩
noncomputable def o155_0 (P : Params) : Obj := ⟨(.type "tuple"), .none, (.seq #[(.str (.ofString "self") 389), (.str (.ofString "level") 390), (.str (.ofString "name") 391)] 0), #[]⟩
noncomputable def o156_0 (P : Params) : Obj := ⟨(.type "tuple"), .none, (.seq #[] 0), #[]⟩
noncomputable def o157_0 (P : Params) : Obj := ⟨.none, .none, (.func (fn (sm 12 0) (.ofString "__init__") (.ofString "Item.__init__") 0 [] .none .none .none .none .none .none .none 0)), #[]⟩
noncomputable def o158_0 (P : Params) : Obj := ⟨(.type "code"), .none, (.fields #[(.str (.ofString "__init__") 386), (.str (.ofString "Item.__init__") 387), (.str (.ofString "/claim/cut.py") 388), (.int 45 0), (.int 3 0), (.int 0 0), (.int 0 0), (.int 3 0), (.ref 153), (.bool true), (.int 181 0), (.ref 154), .none, (.ref 155), (.ref 156), (.ref 157), (.int 392 0), (.int 45 0), (.str (.ofString "/claim/cut.py") 393)]), #[]⟩
noncomputable def o159_0 (P : Params) : Obj := ⟨(.type "function"), .none, (.func (fn (sm 12 0) (.ofString "__init__") (.ofString "Item.__init__") 3 [] .none .none .none (.str (.ofString "ledgerspeak.items") 284) .none (.ref 158) .none 0)), #[]⟩
noncomputable def o160_0 (P : Params) : Obj := ⟨(.type "tuple"), .none, (.seq #[] 0), #[]⟩
noncomputable def o161_0 (P : Params) : Obj := ⟨.none, .none, (.fields #[]), #[]⟩
noncomputable def o162_0 (P : Params) : Obj := ⟨(.type "tuple"), .none, (.seq #[(.str (.ofString "self") 398), (.str (.ofString "kid") 399)] 0), #[]⟩
noncomputable def o163_0 (P : Params) : Obj := ⟨(.type "tuple"), .none, (.seq #[] 0), #[]⟩
noncomputable def o164_0 (P : Params) : Obj := ⟨.none, .none, (.func (fn (sm 12 1) (.ofString "add") (.ofString "Item.add") 0 [] .none .none .none .none .none .none .none 0)), #[]⟩
noncomputable def o165_0 (P : Params) : Obj := ⟨(.type "code"), .none, (.fields #[(.str (.ofString "add") 395), (.str (.ofString "Item.add") 396), (.str (.ofString "/claim/cut.py") 397), (.int 66 0), (.int 2 0), (.int 0 0), (.int 0 0), (.int 3 0), (.ref 160), (.bool true), (.int 181 0), (.ref 161), .none, (.ref 162), (.ref 163), (.ref 164), (.int 400 0), (.int 66 0), (.str (.ofString "/claim/cut.py") 401)]), #[]⟩
noncomputable def o166_0 (P : Params) : Obj := ⟨(.type "function"), .none, (.func (fn (sm 12 1) (.ofString "add") (.ofString "Item.add") 3 [] .none .none .none (.str (.ofString "ledgerspeak.items") 284) .none (.ref 165) .none 0)), #[]⟩
noncomputable def o167_0 (P : Params) : Obj := ⟨(.type "tuple"), .none, (.seq #[] 0), #[]⟩
noncomputable def o168_0 (P : Params) : Obj := ⟨.none, .none, (.fields #[]), #[]⟩
noncomputable def o169_0 (P : Params) : Obj := ⟨(.type "tuple"), .none, (.seq #[(.str (.ofString "self") 406)] 0), #[]⟩
noncomputable def o170_0 (P : Params) : Obj := ⟨(.type "tuple"), .none, (.seq #[] 0), #[]⟩
noncomputable def o171_0 (P : Params) : Obj := ⟨.none, .none, (.func (fn (sm 12 2) (.ofString "count") (.ofString "Item.count") 0 [] .none .none .none .none .none .none .none 0)), #[]⟩
noncomputable def o172_0 (P : Params) : Obj := ⟨(.type "code"), .none, (.fields #[(.str (.ofString "count") 403), (.str (.ofString "Item.count") 404), (.str (.ofString "/claim/cut.py") 405), (.int 70 0), (.int 1 0), (.int 0 0), (.int 0 0), (.int 3 0), (.ref 167), (.bool true), (.int 181 0), (.ref 168), .none, (.ref 169), (.ref 170), (.ref 171), (.int 407 0), (.int 70 0), (.str (.ofString "/claim/cut.py") 408)]), #[]⟩
noncomputable def o173_0 (P : Params) : Obj := ⟨(.type "function"), .none, (.func (fn (sm 12 2) (.ofString "count") (.ofString "Item.count") 3 [] .none .none .none (.str (.ofString "ledgerspeak.items") 284) .none (.ref 172) .none 0)), #[]⟩
noncomputable def o174_0 (P : Params) : Obj := ⟨(.type "tuple"), .none, (.seq #[] 0), #[]⟩
noncomputable def o175_0 (P : Params) : Obj := ⟨.none, .none, (.fields #[]), #[]⟩
noncomputable def o176_0 (P : Params) : Obj := ⟨(.type "tuple"), .none, (.seq #[(.str (.ofString "self") 413), (.str (.ofString "often") 414), (.str (.ofString "first") 415)] 0), #[]⟩
noncomputable def o177_0 (P : Params) : Obj := ⟨(.type "tuple"), .none, (.seq #[] 0), #[]⟩
noncomputable def o178_0 (P : Params) : Obj := ⟨.none, .none, (.func (fn (sm 12 3) (.ofString "clauses") (.ofString "Item.clauses") 0 [] .none .none .none .none .none .none .none 0)), #[]⟩
noncomputable def o179_0 (P : Params) : Obj := ⟨(.type "code"), .none, (.fields #[(.str (.ofString "clauses") 410), (.str (.ofString "Item.clauses") 411), (.str (.ofString "/claim/cut.py") 412), (.int 73 0), (.int 1 0), (.int 0 0), (.int 0 0), (.int 3 0), (.ref 174), (.bool true), (.int 181 0), (.ref 175), .none, (.ref 176), (.ref 177), (.ref 178), (.int 416 0), (.int 73 0), (.str (.ofString "/claim/cut.py") 417)]), #[]⟩
noncomputable def o180_0 (P : Params) : Obj := ⟨(.type "function"), .none, (.func (fn (sm 12 3) (.ofString "clauses") (.ofString "Item.clauses") 3 [] .none .none .none (.str (.ofString "ledgerspeak.items") 284) .none (.ref 179) .none 0)), #[]⟩
noncomputable def o181_0 (P : Params) : Obj := ⟨(.type "tuple"), .none, (.seq #[] 0), #[]⟩
noncomputable def o182_0 (P : Params) : Obj := ⟨.none, .none, (.fields #[]), #[]⟩
noncomputable def o183_0 (P : Params) : Obj := ⟨.none, .none, (.func (fn (sm 12 4) (.ofString "told") (.ofString "Item.told") 0 [] .none .none .none .none .none .none .none 0)), #[]⟩
noncomputable def o184_0 (P : Params) : Obj := ⟨(.type "code"), .none, (.fields #[(.str (.ofString "told") 419), (.str (.ofString "Item.told") 420), (.str (.ofString "/claim/cut.py") 421), (.int 78 0), (.int 1 0), (.int 0 0), (.int 0 0), (.int 3 0), (.ref 181), (.bool true), (.int 181 0), (.ref 182), .none, .none, .none, (.ref 183), (.int 422 0), (.int 78 0), (.str (.ofString "/claim/cut.py") 423)]), #[]⟩
noncomputable def o185_0 (P : Params) : Obj := ⟨(.type "function"), .none, (.func (fn (sm 12 4) (.ofString "told") (.ofString "Item.told") 3 [] .none .none .none (.str (.ofString "ledgerspeak.items") 284) .none (.ref 184) .none 0)), #[]⟩
noncomputable def o186_0 (P : Params) : Obj := ⟨(.type "tuple"), .none, (.seq #[(.str (.ofString "base") 425), (.str (.ofString "conditions") 426), (.str (.ofString "is_blank_zero") 427), (.str (.ofString "is_justified") 428), (.str (.ofString "is_separate") 429), (.str (.ofString "kids") 430), (.str (.ofString "level") 431), (.str (.ofString "name") 432), (.str (.ofString "occurs") 433), (.str (.ofString "offset") 434), (.str (.ofString "parent") 435), (.str (.ofString "picture_text") 436), (.str (.ofString "redefines") 437), (.str (.ofString "renames") 438), (.str (.ofString "shape") 439), (.str (.ofString "sign") 440), (.str (.ofString "size") 441), (.str (.ofString "usage") 442), (.str (.ofString "value") 443)] 0), #[]⟩
noncomputable def o187_0 (P : Params) : Obj := ⟨(.type "dict"), .none, (.dict #[kk P "__module__" 381 (.str (.ofString "ledgerspeak.items") 284), kk P "__firstlineno__" 385 (.int 43 384), kk P "__init__" 394 (.ref 159), kk P "add" 402 (.ref 166), kk P "count" 409 (.ref 173), kk P "clauses" 418 (.ref 180), kk P "told" 424 (.ref 185), kk P "__static_attributes__" 444 (.ref 186), kk P "__dict__" 446 (.ref 189), kk P "__weakref__" 448 (.ref 190), kk P "__doc__" 449 .none] 4), #[]⟩
noncomputable def o188_0 (P : Params) : Obj := ⟨(.type "type"), .none, (.cls ⟨.ofString "Item", [(.type "object")], [(.ref 188), (.type "object")], 187, .ofString "Item", true, [], [], false, .none, false⟩), #[.none, .none, (.some (.str (.ofString "Item") 374)), (.some (.str (.ofString "Item") 382)), (.some (.builtin "object.__new__")), (.some (.bool true))]⟩
noncomputable def o189_0 (P : Params) : Obj := ⟨(.type "getset_descriptor"), .none, (.fields #[(.str (.ofString "__dict__") 445), (.ref 188), (.builtin "function.__dict__"), (.builtin "function.__dict__#set")]), #[]⟩
noncomputable def o190_0 (P : Params) : Obj := ⟨(.type "getset_descriptor"), .none, (.fields #[(.str (.ofString "__weakref__") 447), (.ref 188), (.builtin "ExceptionGroup.__weakref__"), .none]), #[]⟩
noncomputable def o191_0 (P : Params) : Obj := ⟨(.type "super"), .none, (.fields #[(.ref 188), (.ref 188), (.ref 188)]), #[]⟩
noncomputable def o192_0 (P : Params) : Obj := ⟨(.type "builtin_function_or_method"), .none, (.fields #[(.builtin "object.__init_subclass__"), (.ref 188)]), #[]⟩
noncomputable def t7 (P : Params) : BT := (.node (boot_o_0 P) (.node (boot_o_1 P) (.node (o3_6 P) (.node (boot_o_7 P) (.node (o15_0 P) (.node (o31_0 P) (.node (o63_0 P) (.node (o127_0 P) .nil .nil) (.node (o191_0 P) .nil .nil)) (.node (o95_0 P) (.node (o159_0 P) .nil .nil) .nil)) (.node (o47_3 P) (.node (o79_0 P) (.node (o143_0 P) .nil .nil) .nil) (.node (o111_0 P) (.node (o175_0 P) .nil .nil) .nil))) (.node (o23_0 P) (.node (o39_0 P) (.node (o71_0 P) (.node (o135_0 P) .nil .nil) .nil) (.node (o103_0 P) (.node (o167_0 P) .nil .nil) .nil)) (.node (o55_0 P) (.node (o87_0 P) (.node (o151_0 P) .nil .nil) .nil) (.node (o119_0 P) (.node (o183_0 P) .nil .nil) .nil)))) (.node (o11_0 P) (.node (o19_0 P) (.node (o35_0 P) (.node (o67_0 P) (.node (o131_0 P) .nil .nil) .nil) (.node (o99_0 P) (.node (o163_0 P) .nil .nil) .nil)) (.node (o51_0 P) (.node (o83_0 P) (.node (o147_0 P) .nil .nil) .nil) (.node (o115_0 P) (.node (o179_0 P) .nil .nil) .nil))) (.node (o27_0 P) (.node (o43_0 P) (.node (o75_0 P) (.node (o139_0 P) .nil .nil) .nil) (.node (o107_0 P) (.node (o171_0 P) .nil .nil) .nil)) (.node (o59_0 P) (.node (o91_0 P) (.node (o155_0 P) .nil .nil) .nil) (.node (o123_0 P) (.node (o187_0 P) .nil .nil) .nil))))) (.node (boot_o_5 P) (.node (boot_o_9 P) (.node (o17_0 P) (.node (o33_0 P) (.node (o65_0 P) (.node (o129_0 P) .nil .nil) .nil) (.node (o97_0 P) (.node (o161_0 P) .nil .nil) .nil)) (.node (o49_0 P) (.node (o81_0 P) (.node (o145_0 P) .nil .nil) .nil) (.node (o113_0 P) (.node (o177_0 P) .nil .nil) .nil))) (.node (o25_0 P) (.node (o41_0 P) (.node (o73_0 P) (.node (o137_0 P) .nil .nil) .nil) (.node (o105_0 P) (.node (o169_0 P) .nil .nil) .nil)) (.node (o57_0 P) (.node (o89_0 P) (.node (o153_0 P) .nil .nil) .nil) (.node (o121_0 P) (.node (o185_0 P) .nil .nil) .nil)))) (.node (o13_0 P) (.node (o21_0 P) (.node (o37_0 P) (.node (o69_0 P) (.node (o133_0 P) .nil .nil) .nil) (.node (o101_0 P) (.node (o165_0 P) .nil .nil) .nil)) (.node (o53_0 P) (.node (o85_0 P) (.node (o149_0 P) .nil .nil) .nil) (.node (o117_0 P) (.node (o181_0 P) .nil .nil) .nil))) (.node (o29_0 P) (.node (o45_0 P) (.node (o77_0 P) (.node (o141_0 P) .nil .nil) .nil) (.node (o109_0 P) (.node (o173_0 P) .nil .nil) .nil)) (.node (o61_0 P) (.node (o93_0 P) (.node (o157_0 P) .nil .nil) .nil) (.node (o125_0 P) (.node (o189_0 P) .nil .nil) .nil)))))) (.node (o2_0 P) (.node (boot_o_4 P) (.node (boot_o_8 P) (.node (o16_0 P) (.node (o32_0 P) (.node (o64_0 P) (.node (o128_0 P) .nil .nil) (.node (o192_0 P) .nil .nil)) (.node (o96_0 P) (.node (o160_0 P) .nil .nil) .nil)) (.node (o48_0 P) (.node (o80_0 P) (.node (o144_0 P) .nil .nil) .nil) (.node (o112_0 P) (.node (o176_0 P) .nil .nil) .nil))) (.node (o24_0 P) (.node (o40_0 P) (.node (o72_0 P) (.node (o136_0 P) .nil .nil) .nil) (.node (o104_0 P) (.node (o168_0 P) .nil .nil) .nil)) (.node (o56_0 P) (.node (o88_0 P) (.node (o152_0 P) .nil .nil) .nil) (.node (o120_0 P) (.node (o184_0 P) .nil .nil) .nil)))) (.node (o12_7 P) (.node (o20_0 P) (.node (o36_0 P) (.node (o68_0 P) (.node (o132_0 P) .nil .nil) .nil) (.node (o100_0 P) (.node (o164_0 P) .nil .nil) .nil)) (.node (o52_0 P) (.node (o84_0 P) (.node (o148_0 P) .nil .nil) .nil) (.node (o116_0 P) (.node (o180_0 P) .nil .nil) .nil))) (.node (o28_0 P) (.node (o44_0 P) (.node (o76_0 P) (.node (o140_0 P) .nil .nil) .nil) (.node (o108_0 P) (.node (o172_0 P) .nil .nil) .nil)) (.node (o60_0 P) (.node (o92_0 P) (.node (o156_0 P) .nil .nil) .nil) (.node (o124_0 P) (.node (o188_0 P) .nil .nil) .nil))))) (.node (boot_o_6 P) (.node (boot_o_10 P) (.node (o18_0 P) (.node (o34_0 P) (.node (o66_0 P) (.node (o130_0 P) .nil .nil) .nil) (.node (o98_0 P) (.node (o162_0 P) .nil .nil) .nil)) (.node (o50_0 P) (.node (o82_0 P) (.node (o146_0 P) .nil .nil) .nil) (.node (o114_0 P) (.node (o178_0 P) .nil .nil) .nil))) (.node (o26_0 P) (.node (o42_0 P) (.node (o74_0 P) (.node (o138_0 P) .nil .nil) .nil) (.node (o106_0 P) (.node (o170_0 P) .nil .nil) .nil)) (.node (o58_0 P) (.node (o90_0 P) (.node (o154_0 P) .nil .nil) .nil) (.node (o122_0 P) (.node (o186_0 P) .nil .nil) .nil)))) (.node (o14_0 P) (.node (o22_0 P) (.node (o38_0 P) (.node (o70_0 P) (.node (o134_0 P) .nil .nil) .nil) (.node (o102_0 P) (.node (o166_0 P) .nil .nil) .nil)) (.node (o54_0 P) (.node (o86_0 P) (.node (o150_0 P) .nil .nil) .nil) (.node (o118_0 P) (.node (o182_0 P) .nil .nil) .nil))) (.node (o30_0 P) (.node (o46_0 P) (.node (o78_0 P) (.node (o142_0 P) .nil .nil) .nil) (.node (o110_0 P) (.node (o174_0 P) .nil .nil) .nil)) (.node (o62_0 P) (.node (o94_0 P) (.node (o158_0 P) .nil .nil) .nil) (.node (o126_0 P) (.node (o190_0 P) .nil .nil) .nil)))))))
noncomputable def S7 (w : World) (os : OsState) : SharedT := ⟨t7 w.params, 193, { }, #[], { }, 452, os⟩
noncomputable def o3_7 (P : Params) : Obj := ⟨(.type "dict"), .none, (.dict #[kk P "__name__" 165 (.str (.ofString "ledgerspeak.references") 491), kk P "__doc__" 166 .none, kk P "__package__" 167 .none, kk P "__loader__" 168 (.builtin "__main__.__loader__#opaque"), kk P "__spec__" 169 .none, kk P "__annotations__" 170 (.ref 6), kk P "__builtins__" 171 (.ref 4), kk P "__file__" 173 (.str (.ofString "/claim/cut.py") 172), kk P "__cached__" 174 .none, kk P "_wall" 193 (.ref 21), kk P "LedgerError" 235 (.ref 47), kk P "TokenFault" 251 (.ref 60), kk P "DataFault" 267 (.ref 72), kk P "GrammarFault" 283 (.ref 84), kk P "FILLER" 287 (.str (.ofString "FILLER") 286), kk P "RENAMING" 289 (.int 66 288), kk P "ALONE" 291 (.int 77 290), kk P "Occurs" 335 (.ref 113), kk P "Named" 373 (.ref 141), kk P "Item" 451 (.ref 188), kk P "Data" 490 (.ref 214), kk P "MOST_SUBSCRIPTS" 494 (.int 7 493)] 22), #[]⟩
noncomputable def o12_8 (P : Params) : Obj := ⟨.none, .none, (.fields #[(.int 1 0), (.int 0 0), (.ref 20), (.int 5 0), (.int 0 0), (.ref 27), (.int 14 0), (.int 0 0), (.ref 56), (.int 16 0), (.int 0 0), (.ref 68), (.int 18 0), (.int 0 0), (.ref 80), (.int 24 0), (.int 0 0), (.ref 92), (.int 35 0), (.int 0 0), (.ref 123), (.int 43 0), (.int 0 0), (.ref 151), (.int 81 0), (.int 0 0), (.ref 198)]), #[]⟩
noncomputable def o193_0 (P : Params) : Obj := ⟨(.type "tuple"), .none, (.seq #[] 0), #[]⟩
noncomputable def o194_0 (P : Params) : Obj := ⟨(.type "builtin_function_or_method"), .none, (.fields #[(.builtin "type.__prepare__"), (.type "type")]), #[]⟩
noncomputable def o195_0 (P : Params) : Obj := ⟨(.type "dict"), .none, (.dict #[kk P "__module__" 459 (.str (.ofString "ledgerspeak.items") 284), kk P "__qualname__" 461 (.str (.ofString "Data") 460), kk P "__firstlineno__" 463 (.int 81 462), kk P "__init__" 470 (.ref 206), kk P "told" 476 (.ref 211), kk P "__static_attributes__" 483 (.ref 212)] 6), #[]⟩
noncomputable def o196_0 (P : Params) : Obj := ⟨(.type "tuple"), .none, (.seq #[] 0), #[]⟩
noncomputable def o197_0 (P : Params) : Obj := ⟨.none, .none, (.fields #[(.int 83 0), (.int 4 0), (.ref 205), (.int 91 0), (.int 4 0), (.ref 210)]), #[]⟩
noncomputable def o198_0 (P : Params) : Obj := ⟨(.type "code"), .none, (.fields #[(.str (.ofString "Data") 454), (.str (.ofString "Data") 455), (.str (.ofString "/claim/cut.py") 456), (.int 81 0), (.int 0 0), (.int 0 0), (.int 0 0), (.int 0 0), (.ref 196), (.bool false), (.int 181 0), (.ref 197), .none, .none, .none, .none, (.int 457 0), (.int 81 0), (.str (.ofString "/claim/cut.py") 458)]), #[]⟩
noncomputable def o199_0 (P : Params) : Obj := ⟨(.type "frame"), .none, .plain, #[(.some (.ref 198)), (.some (.ref 3)), (.some (.ref 195)), .none, (.some (.str (.ofString "ledgerspeak.items") 284)), .none, (.some (.ref 0))]⟩
noncomputable def o200_0 (P : Params) : Obj := ⟨(.type "tuple"), .none, (.seq #[] 0), #[]⟩
noncomputable def o201_0 (P : Params) : Obj := ⟨.none, .none, (.fields #[]), #[]⟩
noncomputable def o202_0 (P : Params) : Obj := ⟨(.type "tuple"), .none, (.seq #[(.str (.ofString "self") 467)] 0), #[]⟩
noncomputable def o203_0 (P : Params) : Obj := ⟨(.type "tuple"), .none, (.seq #[] 0), #[]⟩
noncomputable def o204_0 (P : Params) : Obj := ⟨.none, .none, (.func (fn (sm 13 0) (.ofString "__init__") (.ofString "Data.__init__") 0 [] .none .none .none .none .none .none .none 0)), #[]⟩
noncomputable def o205_0 (P : Params) : Obj := ⟨(.type "code"), .none, (.fields #[(.str (.ofString "__init__") 464), (.str (.ofString "Data.__init__") 465), (.str (.ofString "/claim/cut.py") 466), (.int 83 0), (.int 1 0), (.int 0 0), (.int 0 0), (.int 3 0), (.ref 200), (.bool true), (.int 181 0), (.ref 201), .none, (.ref 202), (.ref 203), (.ref 204), (.int 468 0), (.int 83 0), (.str (.ofString "/claim/cut.py") 469)]), #[]⟩
noncomputable def o206_0 (P : Params) : Obj := ⟨(.type "function"), .none, (.func (fn (sm 13 0) (.ofString "__init__") (.ofString "Data.__init__") 3 [] .none .none .none (.str (.ofString "ledgerspeak.items") 284) .none (.ref 205) .none 0)), #[]⟩
noncomputable def o207_0 (P : Params) : Obj := ⟨(.type "tuple"), .none, (.seq #[] 0), #[]⟩
noncomputable def o208_0 (P : Params) : Obj := ⟨.none, .none, (.fields #[]), #[]⟩
noncomputable def o209_0 (P : Params) : Obj := ⟨.none, .none, (.func (fn (sm 13 1) (.ofString "told") (.ofString "Data.told") 0 [] .none .none .none .none .none .none .none 0)), #[]⟩
noncomputable def o210_0 (P : Params) : Obj := ⟨(.type "code"), .none, (.fields #[(.str (.ofString "told") 471), (.str (.ofString "Data.told") 472), (.str (.ofString "/claim/cut.py") 473), (.int 91 0), (.int 1 0), (.int 0 0), (.int 0 0), (.int 3 0), (.ref 207), (.bool true), (.int 181 0), (.ref 208), .none, .none, .none, (.ref 209), (.int 474 0), (.int 91 0), (.str (.ofString "/claim/cut.py") 475)]), #[]⟩
noncomputable def o211_0 (P : Params) : Obj := ⟨(.type "function"), .none, (.func (fn (sm 13 1) (.ofString "told") (.ofString "Data.told") 3 [] .none .none .none (.str (.ofString "ledgerspeak.items") 284) .none (.ref 210) .none 0)), #[]⟩
noncomputable def o212_0 (P : Params) : Obj := ⟨(.type "tuple"), .none, (.seq #[(.str (.ofString "files") 477), (.str (.ofString "indexes") 478), (.str (.ofString "linkage") 479), (.str (.ofString "size") 480), (.str (.ofString "sorts") 481), (.str (.ofString "working") 482)] 0), #[]⟩
noncomputable def o213_0 (P : Params) : Obj := ⟨(.type "dict"), .none, (.dict #[kk P "__module__" 459 (.str (.ofString "ledgerspeak.items") 284), kk P "__firstlineno__" 463 (.int 81 462), kk P "__init__" 470 (.ref 206), kk P "told" 476 (.ref 211), kk P "__static_attributes__" 483 (.ref 212), kk P "__dict__" 485 (.ref 215), kk P "__weakref__" 487 (.ref 216), kk P "__doc__" 488 .none] 4), #[]⟩
noncomputable def o214_0 (P : Params) : Obj := ⟨(.type "type"), .none, (.cls ⟨.ofString "Data", [(.type "object")], [(.ref 214), (.type "object")], 213, .ofString "Data", true, [], [], false, .none, false⟩), #[.none, .none, (.some (.str (.ofString "Data") 452)), (.some (.str (.ofString "Data") 460)), (.some (.builtin "object.__new__")), (.some (.bool true))]⟩
noncomputable def o215_0 (P : Params) : Obj := ⟨(.type "getset_descriptor"), .none, (.fields #[(.str (.ofString "__dict__") 484), (.ref 214), (.builtin "function.__dict__"), (.builtin "function.__dict__#set")]), #[]⟩
noncomputable def o216_0 (P : Params) : Obj := ⟨(.type "getset_descriptor"), .none, (.fields #[(.str (.ofString "__weakref__") 486), (.ref 214), (.builtin "ExceptionGroup.__weakref__"), .none]), #[]⟩
noncomputable def o217_0 (P : Params) : Obj := ⟨(.type "super"), .none, (.fields #[(.ref 214), (.ref 214), (.ref 214)]), #[]⟩
noncomputable def o218_0 (P : Params) : Obj := ⟨(.type "builtin_function_or_method"), .none, (.fields #[(.builtin "object.__init_subclass__"), (.ref 214)]), #[]⟩
noncomputable def t8 (P : Params) : BT := (.node (boot_o_0 P) (.node (boot_o_1 P) (.node (o3_7 P) (.node (boot_o_7 P) (.node (o15_0 P) (.node (o31_0 P) (.node (o63_0 P) (.node (o127_0 P) .nil .nil) (.node (o191_0 P) .nil .nil)) (.node (o95_0 P) (.node (o159_0 P) .nil .nil) .nil)) (.node (o47_3 P) (.node (o79_0 P) (.node (o143_0 P) .nil .nil) (.node (o207_0 P) .nil .nil)) (.node (o111_0 P) (.node (o175_0 P) .nil .nil) .nil))) (.node (o23_0 P) (.node (o39_0 P) (.node (o71_0 P) (.node (o135_0 P) .nil .nil) (.node (o199_0 P) .nil .nil)) (.node (o103_0 P) (.node (o167_0 P) .nil .nil) .nil)) (.node (o55_0 P) (.node (o87_0 P) (.node (o151_0 P) .nil .nil) (.node (o215_0 P) .nil .nil)) (.node (o119_0 P) (.node (o183_0 P) .nil .nil) .nil)))) (.node (o11_0 P) (.node (o19_0 P) (.node (o35_0 P) (.node (o67_0 P) (.node (o131_0 P) .nil .nil) (.node (o195_0 P) .nil .nil)) (.node (o99_0 P) (.node (o163_0 P) .nil .nil) .nil)) (.node (o51_0 P) (.node (o83_0 P) (.node (o147_0 P) .nil .nil) (.node (o211_0 P) .nil .nil)) (.node (o115_0 P) (.node (o179_0 P) .nil .nil) .nil))) (.node (o27_0 P) (.node (o43_0 P) (.node (o75_0 P) (.node (o139_0 P) .nil .nil) (.node (o203_0 P) .nil .nil)) (.node (o107_0 P) (.node (o171_0 P) .nil .nil) .nil)) (.node (o59_0 P) (.node (o91_0 P) (.node (o155_0 P) .nil .nil) .nil) (.node (o123_0 P) (.node (o187_0 P) .nil .nil) .nil))))) (.node (boot_o_5 P) (.node (boot_o_9 P) (.node (o17_0 P) (.node (o33_0 P) (.node (o65_0 P) (.node (o129_0 P) .nil .nil) (.node (o193_0 P) .nil .nil)) (.node (o97_0 P) (.node (o161_0 P) .nil .nil) .nil)) (.node (o49_0 P) (.node (o81_0 P) (.node (o145_0 P) .nil .nil) (.node (o209_0 P) .nil .nil)) (.node (o113_0 P) (.node (o177_0 P) .nil .nil) .nil))) (.node (o25_0 P) (.node (o41_0 P) (.node (o73_0 P) (.node (o137_0 P) .nil .nil) (.node (o201_0 P) .nil .nil)) (.node (o105_0 P) (.node (o169_0 P) .nil .nil) .nil)) (.node (o57_0 P) (.node (o89_0 P) (.node (o153_0 P) .nil .nil) (.node (o217_0 P) .nil .nil)) (.node (o121_0 P) (.node (o185_0 P) .nil .nil) .nil)))) (.node (o13_0 P) (.node (o21_0 P) (.node (o37_0 P) (.node (o69_0 P) (.node (o133_0 P) .nil .nil) (.node (o197_0 P) .nil .nil)) (.node (o101_0 P) (.node (o165_0 P) .nil .nil) .nil)) (.node (o53_0 P) (.node (o85_0 P) (.node (o149_0 P) .nil .nil) (.node (o213_0 P) .nil .nil)) (.node (o117_0 P) (.node (o181_0 P) .nil .nil) .nil))) (.node (o29_0 P) (.node (o45_0 P) (.node (o77_0 P) (.node (o141_0 P) .nil .nil) (.node (o205_0 P) .nil .nil)) (.node (o109_0 P) (.node (o173_0 P) .nil .nil) .nil)) (.node (o61_0 P) (.node (o93_0 P) (.node (o157_0 P) .nil .nil) .nil) (.node (o125_0 P) (.node (o189_0 P) .nil .nil) .nil)))))) (.node (o2_0 P) (.node (boot_o_4 P) (.node (boot_o_8 P) (.node (o16_0 P) (.node (o32_0 P) (.node (o64_0 P) (.node (o128_0 P) .nil .nil) (.node (o192_0 P) .nil .nil)) (.node (o96_0 P) (.node (o160_0 P) .nil .nil) .nil)) (.node (o48_0 P) (.node (o80_0 P) (.node (o144_0 P) .nil .nil) (.node (o208_0 P) .nil .nil)) (.node (o112_0 P) (.node (o176_0 P) .nil .nil) .nil))) (.node (o24_0 P) (.node (o40_0 P) (.node (o72_0 P) (.node (o136_0 P) .nil .nil) (.node (o200_0 P) .nil .nil)) (.node (o104_0 P) (.node (o168_0 P) .nil .nil) .nil)) (.node (o56_0 P) (.node (o88_0 P) (.node (o152_0 P) .nil .nil) (.node (o216_0 P) .nil .nil)) (.node (o120_0 P) (.node (o184_0 P) .nil .nil) .nil)))) (.node (o12_8 P) (.node (o20_0 P) (.node (o36_0 P) (.node (o68_0 P) (.node (o132_0 P) .nil .nil) (.node (o196_0 P) .nil .nil)) (.node (o100_0 P) (.node (o164_0 P) .nil .nil) .nil)) (.node (o52_0 P) (.node (o84_0 P) (.node (o148_0 P) .nil .nil) (.node (o212_0 P) .nil .nil)) (.node (o116_0 P) (.node (o180_0 P) .nil .nil) .nil))) (.node (o28_0 P) (.node (o44_0 P) (.node (o76_0 P) (.node (o140_0 P) .nil .nil) (.node (o204_0 P) .nil .nil)) (.node (o108_0 P) (.node (o172_0 P) .nil .nil) .nil)) (.node (o60_0 P) (.node (o92_0 P) (.node (o156_0 P) .nil .nil) .nil) (.node (o124_0 P) (.node (o188_0 P) .nil .nil) .nil))))) (.node (boot_o_6 P) (.node (boot_o_10 P) (.node (o18_0 P) (.node (o34_0 P) (.node (o66_0 P) (.node (o130_0 P) .nil .nil) (.node (o194_0 P) .nil .nil)) (.node (o98_0 P) (.node (o162_0 P) .nil .nil) .nil)) (.node (o50_0 P) (.node (o82_0 P) (.node (o146_0 P) .nil .nil) (.node (o210_0 P) .nil .nil)) (.node (o114_0 P) (.node (o178_0 P) .nil .nil) .nil))) (.node (o26_0 P) (.node (o42_0 P) (.node (o74_0 P) (.node (o138_0 P) .nil .nil) (.node (o202_0 P) .nil .nil)) (.node (o106_0 P) (.node (o170_0 P) .nil .nil) .nil)) (.node (o58_0 P) (.node (o90_0 P) (.node (o154_0 P) .nil .nil) (.node (o218_0 P) .nil .nil)) (.node (o122_0 P) (.node (o186_0 P) .nil .nil) .nil)))) (.node (o14_0 P) (.node (o22_0 P) (.node (o38_0 P) (.node (o70_0 P) (.node (o134_0 P) .nil .nil) (.node (o198_0 P) .nil .nil)) (.node (o102_0 P) (.node (o166_0 P) .nil .nil) .nil)) (.node (o54_0 P) (.node (o86_0 P) (.node (o150_0 P) .nil .nil) (.node (o214_0 P) .nil .nil)) (.node (o118_0 P) (.node (o182_0 P) .nil .nil) .nil))) (.node (o30_0 P) (.node (o46_0 P) (.node (o78_0 P) (.node (o142_0 P) .nil .nil) (.node (o206_0 P) .nil .nil)) (.node (o110_0 P) (.node (o174_0 P) .nil .nil) .nil)) (.node (o62_0 P) (.node (o94_0 P) (.node (o158_0 P) .nil .nil) .nil) (.node (o126_0 P) (.node (o190_0 P) .nil .nil) .nil)))))))
noncomputable def S8 (w : World) (os : OsState) : SharedT := ⟨t8 w.params, 219, { }, #[], { }, 495, os⟩
noncomputable def o3_8 (P : Params) : Obj := ⟨(.type "dict"), .none, (.dict #[kk P "__name__" 165 (.str (.ofString "ledgerspeak.references") 491), kk P "__doc__" 166 .none, kk P "__package__" 167 .none, kk P "__loader__" 168 (.builtin "__main__.__loader__#opaque"), kk P "__spec__" 169 .none, kk P "__annotations__" 170 (.ref 6), kk P "__builtins__" 171 (.ref 4), kk P "__file__" 173 (.str (.ofString "/claim/cut.py") 172), kk P "__cached__" 174 .none, kk P "_wall" 193 (.ref 21), kk P "LedgerError" 235 (.ref 47), kk P "TokenFault" 251 (.ref 60), kk P "DataFault" 267 (.ref 72), kk P "GrammarFault" 283 (.ref 84), kk P "FILLER" 287 (.str (.ofString "FILLER") 286), kk P "RENAMING" 289 (.int 66 288), kk P "ALONE" 291 (.int 77 290), kk P "Occurs" 335 (.ref 113), kk P "Named" 373 (.ref 141), kk P "Item" 451 (.ref 188), kk P "Data" 490 (.ref 214), kk P "MOST_SUBSCRIPTS" 494 (.int 7 493), kk P "FIGURE_NAMES" 528 (.ref 219), kk P "is_part_next" 537 (.ref 226), kk P "read_subscripts" 546 (.ref 233), kk P "read_part" 556 (.ref 240), kk P "read_ref" 568 (.ref 247), kk P "read_all" 576 (.ref 254), kk P "read_figure" 583 (.ref 261), kk P "read_operand" 592 (.ref 268)] 30), #[]⟩
noncomputable def o12_9 (P : Params) : Obj := ⟨.none, .none, (.fields #[(.int 1 0), (.int 0 0), (.ref 20), (.int 5 0), (.int 0 0), (.ref 27), (.int 14 0), (.int 0 0), (.ref 56), (.int 16 0), (.int 0 0), (.ref 68), (.int 18 0), (.int 0 0), (.ref 80), (.int 24 0), (.int 0 0), (.ref 92), (.int 35 0), (.int 0 0), (.ref 123), (.int 43 0), (.int 0 0), (.ref 151), (.int 81 0), (.int 0 0), (.ref 198), (.int 97 0), (.int 0 0), (.ref 225), (.int 110 0), (.int 0 0), (.ref 232), (.int 118 0), (.int 0 0), (.ref 239), (.int 125 0), (.int 0 0), (.ref 246), (.int 135 0), (.int 0 0), (.ref 253), (.int 142 0), (.int 0 0), (.ref 260), (.int 146 0), (.int 0 0), (.ref 267)]), #[]⟩
noncomputable def o219_0 (P : Params) : Obj := ⟨(.type "dict"), .none, (.dict #[kk P "ZERO" 495 (.str (.ofString "ZERO") 496), kk P "ZEROS" 497 (.str (.ofString "ZERO") 498), kk P "ZEROES" 499 (.str (.ofString "ZERO") 500), kk P "SPACE" 501 (.str (.ofString "SPACE") 502), kk P "SPACES" 503 (.str (.ofString "SPACE") 504), kk P "HIGH-VALUE" 505 (.str (.ofString "HIGH") 506), kk P "HIGH-VALUES" 507 (.str (.ofString "HIGH") 508), kk P "LOW-VALUE" 509 (.str (.ofString "LOW") 510), kk P "LOW-VALUES" 511 (.str (.ofString "LOW") 512), kk P "QUOTE" 513 (.str (.ofString "QUOTE") 514), kk P "QUOTES" 515 (.str (.ofString "QUOTE") 516)] 11), #[]⟩
noncomputable def o220_0 (P : Params) : Obj := ⟨(.type "tuple"), .none, (.seq #[] 0), #[]⟩
noncomputable def o221_0 (P : Params) : Obj := ⟨.none, .none, (.fields #[]), #[]⟩
noncomputable def o222_0 (P : Params) : Obj := ⟨(.type "tuple"), .none, (.seq #[(.str (.ofString "reader") 532), (.str (.ofString "depth") 533), (.str (.ofString "ahead") 534)] 0), #[]⟩
noncomputable def o223_0 (P : Params) : Obj := ⟨(.type "tuple"), .none, (.seq #[] 0), #[]⟩
noncomputable def o224_0 (P : Params) : Obj := ⟨.none, .none, (.func (fn (st 17) (.ofString "is_part_next") (.ofString "is_part_next") 0 [] .none .none .none .none .none .none .none 0)), #[]⟩
noncomputable def o225_0 (P : Params) : Obj := ⟨(.type "code"), .none, (.fields #[(.str (.ofString "is_part_next") 529), (.str (.ofString "is_part_next") 530), (.str (.ofString "/claim/cut.py") 531), (.int 97 0), (.int 1 0), (.int 0 0), (.int 0 0), (.int 3 0), (.ref 220), (.bool true), (.int 181 0), (.ref 221), .none, (.ref 222), (.ref 223), (.ref 224), (.int 535 0), (.int 97 0), (.str (.ofString "/claim/cut.py") 536)]), #[]⟩
noncomputable def o226_0 (P : Params) : Obj := ⟨(.type "function"), .none, (.func (fn (st 17) (.ofString "is_part_next") (.ofString "is_part_next") 3 [] .none .none .none (.str (.ofString "ledgerspeak.references") 491) .none (.ref 225) .none 0)), #[]⟩
noncomputable def o227_0 (P : Params) : Obj := ⟨(.type "tuple"), .none, (.seq #[] 0), #[]⟩
noncomputable def o228_0 (P : Params) : Obj := ⟨.none, .none, (.fields #[]), #[]⟩
noncomputable def o229_0 (P : Params) : Obj := ⟨(.type "tuple"), .none, (.seq #[(.str (.ofString "reader") 541), (.str (.ofString "read_expr") 542), (.str (.ofString "found") 543)] 0), #[]⟩
noncomputable def o230_0 (P : Params) : Obj := ⟨(.type "tuple"), .none, (.seq #[] 0), #[]⟩
noncomputable def o231_0 (P : Params) : Obj := ⟨.none, .none, (.func (fn (st 18) (.ofString "read_subscripts") (.ofString "read_subscripts") 0 [] .none .none .none .none .none .none .none 0)), #[]⟩
noncomputable def o232_0 (P : Params) : Obj := ⟨(.type "code"), .none, (.fields #[(.str (.ofString "read_subscripts") 538), (.str (.ofString "read_subscripts") 539), (.str (.ofString "/claim/cut.py") 540), (.int 110 0), (.int 2 0), (.int 0 0), (.int 0 0), (.int 3 0), (.ref 227), (.bool true), (.int 181 0), (.ref 228), .none, (.ref 229), (.ref 230), (.ref 231), (.int 544 0), (.int 110 0), (.str (.ofString "/claim/cut.py") 545)]), #[]⟩
noncomputable def o233_0 (P : Params) : Obj := ⟨(.type "function"), .none, (.func (fn (st 18) (.ofString "read_subscripts") (.ofString "read_subscripts") 3 [] .none .none .none (.str (.ofString "ledgerspeak.references") 491) .none (.ref 232) .none 0)), #[]⟩
noncomputable def o234_0 (P : Params) : Obj := ⟨(.type "tuple"), .none, (.seq #[] 0), #[]⟩
noncomputable def o235_0 (P : Params) : Obj := ⟨.none, .none, (.fields #[]), #[]⟩
noncomputable def o236_0 (P : Params) : Obj := ⟨(.type "tuple"), .none, (.seq #[(.str (.ofString "reader") 550), (.str (.ofString "read_expr") 551), (.str (.ofString "begin") 552), (.str (.ofString "length") 553)] 0), #[]⟩
noncomputable def o237_0 (P : Params) : Obj := ⟨(.type "tuple"), .none, (.seq #[] 0), #[]⟩
noncomputable def o238_0 (P : Params) : Obj := ⟨.none, .none, (.func (fn (st 19) (.ofString "read_part") (.ofString "read_part") 0 [] .none .none .none .none .none .none .none 0)), #[]⟩
noncomputable def o239_0 (P : Params) : Obj := ⟨(.type "code"), .none, (.fields #[(.str (.ofString "read_part") 547), (.str (.ofString "read_part") 548), (.str (.ofString "/claim/cut.py") 549), (.int 118 0), (.int 2 0), (.int 0 0), (.int 0 0), (.int 3 0), (.ref 234), (.bool true), (.int 181 0), (.ref 235), .none, (.ref 236), (.ref 237), (.ref 238), (.int 554 0), (.int 118 0), (.str (.ofString "/claim/cut.py") 555)]), #[]⟩
noncomputable def o240_0 (P : Params) : Obj := ⟨(.type "function"), .none, (.func (fn (st 19) (.ofString "read_part") (.ofString "read_part") 3 [] .none .none .none (.str (.ofString "ledgerspeak.references") 491) .none (.ref 239) .none 0)), #[]⟩
noncomputable def o241_0 (P : Params) : Obj := ⟨(.type "tuple"), .none, (.seq #[] 0), #[]⟩
noncomputable def o242_0 (P : Params) : Obj := ⟨.none, .none, (.fields #[]), #[]⟩
noncomputable def o243_0 (P : Params) : Obj := ⟨(.type "tuple"), .none, (.seq #[(.str (.ofString "reader") 560), (.str (.ofString "read_expr") 561), (.str (.ofString "name") 562), (.str (.ofString "qualifiers") 563), (.str (.ofString "subscripts") 564), (.str (.ofString "part") 565)] 0), #[]⟩
noncomputable def o244_0 (P : Params) : Obj := ⟨(.type "tuple"), .none, (.seq #[] 0), #[]⟩
noncomputable def o245_0 (P : Params) : Obj := ⟨.none, .none, (.func (fn (st 20) (.ofString "read_ref") (.ofString "read_ref") 0 [] .none .none .none .none .none .none .none 0)), #[]⟩
noncomputable def o246_0 (P : Params) : Obj := ⟨(.type "code"), .none, (.fields #[(.str (.ofString "read_ref") 557), (.str (.ofString "read_ref") 558), (.str (.ofString "/claim/cut.py") 559), (.int 125 0), (.int 2 0), (.int 0 0), (.int 0 0), (.int 3 0), (.ref 241), (.bool true), (.int 181 0), (.ref 242), .none, (.ref 243), (.ref 244), (.ref 245), (.int 566 0), (.int 125 0), (.str (.ofString "/claim/cut.py") 567)]), #[]⟩
noncomputable def o247_0 (P : Params) : Obj := ⟨(.type "function"), .none, (.func (fn (st 20) (.ofString "read_ref") (.ofString "read_ref") 3 [] .none .none .none (.str (.ofString "ledgerspeak.references") 491) .none (.ref 246) .none 0)), #[]⟩
noncomputable def o248_0 (P : Params) : Obj := ⟨(.type "tuple"), .none, (.seq #[] 0), #[]⟩
noncomputable def o249_0 (P : Params) : Obj := ⟨.none, .none, (.fields #[]), #[]⟩
noncomputable def o250_0 (P : Params) : Obj := ⟨(.type "tuple"), .none, (.seq #[(.str (.ofString "reader") 572), (.str (.ofString "figure") 573)] 0), #[]⟩
noncomputable def o251_0 (P : Params) : Obj := ⟨(.type "tuple"), .none, (.seq #[] 0), #[]⟩
noncomputable def o252_0 (P : Params) : Obj := ⟨.none, .none, (.func (fn (st 21) (.ofString "read_all") (.ofString "read_all") 0 [] .none .none .none .none .none .none .none 0)), #[]⟩
noncomputable def o253_0 (P : Params) : Obj := ⟨(.type "code"), .none, (.fields #[(.str (.ofString "read_all") 569), (.str (.ofString "read_all") 570), (.str (.ofString "/claim/cut.py") 571), (.int 135 0), (.int 1 0), (.int 0 0), (.int 0 0), (.int 3 0), (.ref 248), (.bool true), (.int 181 0), (.ref 249), .none, (.ref 250), (.ref 251), (.ref 252), (.int 574 0), (.int 135 0), (.str (.ofString "/claim/cut.py") 575)]), #[]⟩
noncomputable def o254_0 (P : Params) : Obj := ⟨(.type "function"), .none, (.func (fn (st 21) (.ofString "read_all") (.ofString "read_all") 3 [] .none .none .none (.str (.ofString "ledgerspeak.references") 491) .none (.ref 253) .none 0)), #[]⟩
noncomputable def o255_0 (P : Params) : Obj := ⟨(.type "tuple"), .none, (.seq #[] 0), #[]⟩
noncomputable def o256_0 (P : Params) : Obj := ⟨.none, .none, (.fields #[]), #[]⟩
noncomputable def o257_0 (P : Params) : Obj := ⟨(.type "tuple"), .none, (.seq #[(.str (.ofString "reader") 580)] 0), #[]⟩
noncomputable def o258_0 (P : Params) : Obj := ⟨(.type "tuple"), .none, (.seq #[] 0), #[]⟩
noncomputable def o259_0 (P : Params) : Obj := ⟨.none, .none, (.func (fn (st 22) (.ofString "read_figure") (.ofString "read_figure") 0 [] .none .none .none .none .none .none .none 0)), #[]⟩
noncomputable def o260_0 (P : Params) : Obj := ⟨(.type "code"), .none, (.fields #[(.str (.ofString "read_figure") 577), (.str (.ofString "read_figure") 578), (.str (.ofString "/claim/cut.py") 579), (.int 142 0), (.int 1 0), (.int 0 0), (.int 0 0), (.int 3 0), (.ref 255), (.bool true), (.int 181 0), (.ref 256), .none, (.ref 257), (.ref 258), (.ref 259), (.int 581 0), (.int 142 0), (.str (.ofString "/claim/cut.py") 582)]), #[]⟩
noncomputable def o261_0 (P : Params) : Obj := ⟨(.type "function"), .none, (.func (fn (st 22) (.ofString "read_figure") (.ofString "read_figure") 3 [] .none .none .none (.str (.ofString "ledgerspeak.references") 491) .none (.ref 260) .none 0)), #[]⟩
noncomputable def o262_0 (P : Params) : Obj := ⟨(.type "tuple"), .none, (.seq #[] 0), #[]⟩
noncomputable def o263_0 (P : Params) : Obj := ⟨.none, .none, (.fields #[]), #[]⟩
noncomputable def o264_0 (P : Params) : Obj := ⟨(.type "tuple"), .none, (.seq #[(.str (.ofString "reader") 587), (.str (.ofString "read_expr") 588), (.str (.ofString "figure") 589)] 0), #[]⟩
noncomputable def o265_0 (P : Params) : Obj := ⟨(.type "tuple"), .none, (.seq #[] 0), #[]⟩
noncomputable def o266_0 (P : Params) : Obj := ⟨.none, .none, (.func (fn (st 23) (.ofString "read_operand") (.ofString "read_operand") 0 [] .none .none .none .none .none .none .none 0)), #[]⟩
noncomputable def o267_0 (P : Params) : Obj := ⟨(.type "code"), .none, (.fields #[(.str (.ofString "read_operand") 584), (.str (.ofString "read_operand") 585), (.str (.ofString "/claim/cut.py") 586), (.int 146 0), (.int 2 0), (.int 0 0), (.int 0 0), (.int 3 0), (.ref 262), (.bool true), (.int 181 0), (.ref 263), .none, (.ref 264), (.ref 265), (.ref 266), (.int 590 0), (.int 146 0), (.str (.ofString "/claim/cut.py") 591)]), #[]⟩
noncomputable def o268_0 (P : Params) : Obj := ⟨(.type "function"), .none, (.func (fn (st 23) (.ofString "read_operand") (.ofString "read_operand") 3 [] .none .none .none (.str (.ofString "ledgerspeak.references") 491) .none (.ref 267) .none 0)), #[]⟩
noncomputable def t9 (P : Params) : BT := (.node (boot_o_0 P) (.node (boot_o_1 P) (.node (o3_8 P) (.node (boot_o_7 P) (.node (o15_0 P) (.node (o31_0 P) (.node (o63_0 P) (.node (o127_0 P) (.node (o255_0 P) .nil .nil) .nil) (.node (o191_0 P) .nil .nil)) (.node (o95_0 P) (.node (o159_0 P) .nil .nil) (.node (o223_0 P) .nil .nil))) (.node (o47_3 P) (.node (o79_0 P) (.node (o143_0 P) .nil .nil) (.node (o207_0 P) .nil .nil)) (.node (o111_0 P) (.node (o175_0 P) .nil .nil) (.node (o239_0 P) .nil .nil)))) (.node (o23_0 P) (.node (o39_0 P) (.node (o71_0 P) (.node (o135_0 P) (.node (o263_0 P) .nil .nil) .nil) (.node (o199_0 P) .nil .nil)) (.node (o103_0 P) (.node (o167_0 P) .nil .nil) (.node (o231_0 P) .nil .nil))) (.node (o55_0 P) (.node (o87_0 P) (.node (o151_0 P) .nil .nil) (.node (o215_0 P) .nil .nil)) (.node (o119_0 P) (.node (o183_0 P) .nil .nil) (.node (o247_0 P) .nil .nil))))) (.node (o11_0 P) (.node (o19_0 P) (.node (o35_0 P) (.node (o67_0 P) (.node (o131_0 P) (.node (o259_0 P) .nil .nil) .nil) (.node (o195_0 P) .nil .nil)) (.node (o99_0 P) (.node (o163_0 P) .nil .nil) (.node (o227_0 P) .nil .nil))) (.node (o51_0 P) (.node (o83_0 P) (.node (o147_0 P) .nil .nil) (.node (o211_0 P) .nil .nil)) (.node (o115_0 P) (.node (o179_0 P) .nil .nil) (.node (o243_0 P) .nil .nil)))) (.node (o27_0 P) (.node (o43_0 P) (.node (o75_0 P) (.node (o139_0 P) (.node (o267_0 P) .nil .nil) .nil) (.node (o203_0 P) .nil .nil)) (.node (o107_0 P) (.node (o171_0 P) .nil .nil) (.node (o235_0 P) .nil .nil))) (.node (o59_0 P) (.node (o91_0 P) (.node (o155_0 P) .nil .nil) (.node (o219_0 P) .nil .nil)) (.node (o123_0 P) (.node (o187_0 P) .nil .nil) (.node (o251_0 P) .nil .nil)))))) (.node (boot_o_5 P) (.node (boot_o_9 P) (.node (o17_0 P) (.node (o33_0 P) (.node (o65_0 P) (.node (o129_0 P) (.node (o257_0 P) .nil .nil) .nil) (.node (o193_0 P) .nil .nil)) (.node (o97_0 P) (.node (o161_0 P) .nil .nil) (.node (o225_0 P) .nil .nil))) (.node (o49_0 P) (.node (o81_0 P) (.node (o145_0 P) .nil .nil) (.node (o209_0 P) .nil .nil)) (.node (o113_0 P) (.node (o177_0 P) .nil .nil) (.node (o241_0 P) .nil .nil)))) (.node (o25_0 P) (.node (o41_0 P) (.node (o73_0 P) (.node (o137_0 P) (.node (o265_0 P) .nil .nil) .nil) (.node (o201_0 P) .nil .nil)) (.node (o105_0 P) (.node (o169_0 P) .nil .nil) (.node (o233_0 P) .nil .nil))) (.node (o57_0 P) (.node (o89_0 P) (.node (o153_0 P) .nil .nil) (.node (o217_0 P) .nil .nil)) (.node (o121_0 P) (.node (o185_0 P) .nil .nil) (.node (o249_0 P) .nil .nil))))) (.node (o13_0 P) (.node (o21_0 P) (.node (o37_0 P) (.node (o69_0 P) (.node (o133_0 P) (.node (o261_0 P) .nil .nil) .nil) (.node (o197_0 P) .nil .nil)) (.node (o101_0 P) (.node (o165_0 P) .nil .nil) (.node (o229_0 P) .nil .nil))) (.node (o53_0 P) (.node (o85_0 P) (.node (o149_0 P) .nil .nil) (.node (o213_0 P) .nil .nil)) (.node (o117_0 P) (.node (o181_0 P) .nil .nil) (.node (o245_0 P) .nil .nil)))) (.node (o29_0 P) (.node (o45_0 P) (.node (o77_0 P) (.node (o141_0 P) .nil .nil) (.node (o205_0 P) .nil .nil)) (.node (o109_0 P) (.node (o173_0 P) .nil .nil) (.node (o237_0 P) .nil .nil))) (.node (o61_0 P) (.node (o93_0 P) (.node (o157_0 P) .nil .nil) (.node (o221_0 P) .nil .nil)) (.node (o125_0 P) (.node (o189_0 P) .nil .nil) (.node (o253_0 P) .nil .nil))))))) (.node (o2_0 P) (.node (boot_o_4 P) (.node (boot_o_8 P) (.node (o16_0 P) (.node (o32_0 P) (.node (o64_0 P) (.node (o128_0 P) (.node (o256_0 P) .nil .nil) .nil) (.node (o192_0 P) .nil .nil)) (.node (o96_0 P) (.node (o160_0 P) .nil .nil) (.node (o224_0 P) .nil .nil))) (.node (o48_0 P) (.node (o80_0 P) (.node (o144_0 P) .nil .nil) (.node (o208_0 P) .nil .nil)) (.node (o112_0 P) (.node (o176_0 P) .nil .nil) (.node (o240_0 P) .nil .nil)))) (.node (o24_0 P) (.node (o40_0 P) (.node (o72_0 P) (.node (o136_0 P) (.node (o264_0 P) .nil .nil) .nil) (.node (o200_0 P) .nil .nil)) (.node (o104_0 P) (.node (o168_0 P) .nil .nil) (.node (o232_0 P) .nil .nil))) (.node (o56_0 P) (.node (o88_0 P) (.node (o152_0 P) .nil .nil) (.node (o216_0 P) .nil .nil)) (.node (o120_0 P) (.node (o184_0 P) .nil .nil) (.node (o248_0 P) .nil .nil))))) (.node (o12_9 P) (.node (o20_0 P) (.node (o36_0 P) (.node (o68_0 P) (.node (o132_0 P) (.node (o260_0 P) .nil .nil) .nil) (.node (o196_0 P) .nil .nil)) (.node (o100_0 P) (.node (o164_0 P) .nil .nil) (.node (o228_0 P) .nil .nil))) (.node (o52_0 P) (.node (o84_0 P) (.node (o148_0 P) .nil .nil) (.node (o212_0 P) .nil .nil)) (.node (o116_0 P) (.node (o180_0 P) .nil .nil) (.node (o244_0 P) .nil .nil)))) (.node (o28_0 P) (.node (o44_0 P) (.node (o76_0 P) (.node (o140_0 P) (.node (o268_0 P) .nil .nil) .nil) (.node (o204_0 P) .nil .nil)) (.node (o108_0 P) (.node (o172_0 P) .nil .nil) (.node (o236_0 P) .nil .nil))) (.node (o60_0 P) (.node (o92_0 P) (.node (o156_0 P) .nil .nil) (.node (o220_0 P) .nil .nil)) (.node (o124_0 P) (.node (o188_0 P) .nil .nil) (.node (o252_0 P) .nil .nil)))))) (.node (boot_o_6 P) (.node (boot_o_10 P) (.node (o18_0 P) (.node (o34_0 P) (.node (o66_0 P) (.node (o130_0 P) (.node (o258_0 P) .nil .nil) .nil) (.node (o194_0 P) .nil .nil)) (.node (o98_0 P) (.node (o162_0 P) .nil .nil) (.node (o226_0 P) .nil .nil))) (.node (o50_0 P) (.node (o82_0 P) (.node (o146_0 P) .nil .nil) (.node (o210_0 P) .nil .nil)) (.node (o114_0 P) (.node (o178_0 P) .nil .nil) (.node (o242_0 P) .nil .nil)))) (.node (o26_0 P) (.node (o42_0 P) (.node (o74_0 P) (.node (o138_0 P) (.node (o266_0 P) .nil .nil) .nil) (.node (o202_0 P) .nil .nil)) (.node (o106_0 P) (.node (o170_0 P) .nil .nil) (.node (o234_0 P) .nil .nil))) (.node (o58_0 P) (.node (o90_0 P) (.node (o154_0 P) .nil .nil) (.node (o218_0 P) .nil .nil)) (.node (o122_0 P) (.node (o186_0 P) .nil .nil) (.node (o250_0 P) .nil .nil))))) (.node (o14_0 P) (.node (o22_0 P) (.node (o38_0 P) (.node (o70_0 P) (.node (o134_0 P) (.node (o262_0 P) .nil .nil) .nil) (.node (o198_0 P) .nil .nil)) (.node (o102_0 P) (.node (o166_0 P) .nil .nil) (.node (o230_0 P) .nil .nil))) (.node (o54_0 P) (.node (o86_0 P) (.node (o150_0 P) .nil .nil) (.node (o214_0 P) .nil .nil)) (.node (o118_0 P) (.node (o182_0 P) .nil .nil) (.node (o246_0 P) .nil .nil)))) (.node (o30_0 P) (.node (o46_0 P) (.node (o78_0 P) (.node (o142_0 P) .nil .nil) (.node (o206_0 P) .nil .nil)) (.node (o110_0 P) (.node (o174_0 P) .nil .nil) (.node (o238_0 P) .nil .nil))) (.node (o62_0 P) (.node (o94_0 P) (.node (o158_0 P) .nil .nil) (.node (o222_0 P) .nil .nil)) (.node (o126_0 P) (.node (o190_0 P) .nil .nil) (.node (o254_0 P) .nil .nil))))))))
noncomputable def S9 (w : World) (os : OsState) : SharedT := ⟨t9 w.params, 269, { }, #[], { }, 593, os⟩
noncomputable def o3_9 (P : Params) : Obj := ⟨(.type "dict"), .none, (.dict #[kk P "__name__" 165 (.str (.ofString "ledgerspeak.dataread") 593), kk P "__doc__" 166 .none, kk P "__package__" 167 .none, kk P "__loader__" 168 (.builtin "__main__.__loader__#opaque"), kk P "__spec__" 169 .none, kk P "__annotations__" 170 (.ref 6), kk P "__builtins__" 171 (.ref 4), kk P "__file__" 173 (.str (.ofString "/claim/cut.py") 172), kk P "__cached__" 174 .none, kk P "_wall" 193 (.ref 21), kk P "LedgerError" 235 (.ref 47), kk P "TokenFault" 251 (.ref 60), kk P "DataFault" 267 (.ref 72), kk P "GrammarFault" 283 (.ref 84), kk P "FILLER" 287 (.str (.ofString "FILLER") 286), kk P "RENAMING" 289 (.int 66 288), kk P "ALONE" 291 (.int 77 290), kk P "Occurs" 335 (.ref 113), kk P "Named" 373 (.ref 141), kk P "Item" 451 (.ref 188), kk P "Data" 490 (.ref 214), kk P "MOST_SUBSCRIPTS" 494 (.int 7 493), kk P "FIGURE_NAMES" 528 (.ref 219), kk P "is_part_next" 537 (.ref 226), kk P "read_subscripts" 546 (.ref 233), kk P "read_part" 556 (.ref 240), kk P "read_ref" 568 (.ref 247), kk P "read_all" 576 (.ref 254), kk P "read_figure" 583 (.ref 261), kk P "read_operand" 592 (.ref 268), kk P "NAMING" 596 (.int 88 595), kk P "MOST_LEVEL" 598 (.int 49 597), kk P "MOST_NESTED" 600 (.int 20 599), kk P "USAGE_WORDS" 625 (.ref 269), kk P "no_expression" 632 (.ref 276), kk P "read_literal" 639 (.ref 283), kk P "read_occurs" 645 (.ref 288), kk P "read_sign" 654 (.ref 295), kk P "read_named_clause" 665 (.ref 302), kk P "clause_word" 673 (.ref 309), kk P "read_bare_clause" 683 (.ref 316)] 41), #[]⟩
noncomputable def o12_10 (P : Params) : Obj := ⟨.none, .none, (.fields #[(.int 1 0), (.int 0 0), (.ref 20), (.int 5 0), (.int 0 0), (.ref 27), (.int 14 0), (.int 0 0), (.ref 56), (.int 16 0), (.int 0 0), (.ref 68), (.int 18 0), (.int 0 0), (.ref 80), (.int 24 0), (.int 0 0), (.ref 92), (.int 35 0), (.int 0 0), (.ref 123), (.int 43 0), (.int 0 0), (.ref 151), (.int 81 0), (.int 0 0), (.ref 198), (.int 97 0), (.int 0 0), (.ref 225), (.int 110 0), (.int 0 0), (.ref 232), (.int 118 0), (.int 0 0), (.ref 239), (.int 125 0), (.int 0 0), (.ref 246), (.int 135 0), (.int 0 0), (.ref 253), (.int 142 0), (.int 0 0), (.ref 260), (.int 146 0), (.int 0 0), (.ref 267), (.int 160 0), (.int 0 0), (.ref 275), (.int 162 0), (.int 0 0), (.ref 282), (.int 166 0), (.int 0 0), (.ref 287), (.int 187 0), (.int 0 0), (.ref 294), (.int 192 0), (.int 0 0), (.ref 301), (.int 220 0), (.int 0 0), (.ref 308), (.int 230 0), (.int 0 0), (.ref 315)]), #[]⟩
noncomputable def o269_0 (P : Params) : Obj := ⟨(.type "dict"), .none, (.dict #[kk P "DISPLAY" 601 (.str (.ofString "display") 602), kk P "COMP" 603 (.str (.ofString "binary") 604), kk P "COMPUTATIONAL" 605 (.str (.ofString "binary") 606), kk P "BINARY" 607 (.str (.ofString "binary") 608), kk P "PACKED-DECIMAL" 609 (.str (.ofString "packed") 610), kk P "COMP-3" 611 (.str (.ofString "packed") 612), kk P "COMPUTATIONAL-3" 613 (.str (.ofString "packed") 614), kk P "INDEX" 615 (.str (.ofString "index") 616)] 8), #[]⟩
noncomputable def o270_0 (P : Params) : Obj := ⟨(.type "tuple"), .none, (.seq #[] 0), #[]⟩
noncomputable def o271_0 (P : Params) : Obj := ⟨.none, .none, (.fields #[]), #[]⟩
noncomputable def o272_0 (P : Params) : Obj := ⟨(.type "tuple"), .none, (.seq #[(.str (.ofString "reader") 629)] 0), #[]⟩
noncomputable def o273_0 (P : Params) : Obj := ⟨(.type "tuple"), .none, (.seq #[] 0), #[]⟩
noncomputable def o274_0 (P : Params) : Obj := ⟨.none, .none, (.func (fn (st 29) (.ofString "no_expression") (.ofString "no_expression") 0 [] .none .none .none .none .none .none .none 0)), #[]⟩
noncomputable def o275_0 (P : Params) : Obj := ⟨(.type "code"), .none, (.fields #[(.str (.ofString "no_expression") 626), (.str (.ofString "no_expression") 627), (.str (.ofString "/claim/cut.py") 628), (.int 160 0), (.int 1 0), (.int 0 0), (.int 0 0), (.int 3 0), (.ref 270), (.bool true), (.int 181 0), (.ref 271), .none, (.ref 272), (.ref 273), (.ref 274), (.int 630 0), (.int 160 0), (.str (.ofString "/claim/cut.py") 631)]), #[]⟩
noncomputable def o276_0 (P : Params) : Obj := ⟨(.type "function"), .none, (.func (fn (st 29) (.ofString "no_expression") (.ofString "no_expression") 3 [] .none .none .none (.str (.ofString "ledgerspeak.dataread") 593) .none (.ref 275) .none 0)), #[]⟩
noncomputable def o277_0 (P : Params) : Obj := ⟨(.type "tuple"), .none, (.seq #[] 0), #[]⟩
noncomputable def o278_0 (P : Params) : Obj := ⟨.none, .none, (.fields #[]), #[]⟩
noncomputable def o279_0 (P : Params) : Obj := ⟨(.type "tuple"), .none, (.seq #[(.str (.ofString "reader") 636)] 0), #[]⟩
noncomputable def o280_0 (P : Params) : Obj := ⟨(.type "tuple"), .none, (.seq #[] 0), #[]⟩
noncomputable def o281_0 (P : Params) : Obj := ⟨.none, .none, (.func (fn (st 30) (.ofString "read_literal") (.ofString "read_literal") 0 [] .none .none .none .none .none .none .none 0)), #[]⟩
noncomputable def o282_0 (P : Params) : Obj := ⟨(.type "code"), .none, (.fields #[(.str (.ofString "read_literal") 633), (.str (.ofString "read_literal") 634), (.str (.ofString "/claim/cut.py") 635), (.int 162 0), (.int 1 0), (.int 0 0), (.int 0 0), (.int 3 0), (.ref 277), (.bool true), (.int 181 0), (.ref 278), .none, (.ref 279), (.ref 280), (.ref 281), (.int 637 0), (.int 162 0), (.str (.ofString "/claim/cut.py") 638)]), #[]⟩
noncomputable def o283_0 (P : Params) : Obj := ⟨(.type "function"), .none, (.func (fn (st 30) (.ofString "read_literal") (.ofString "read_literal") 3 [] .none .none .none (.str (.ofString "ledgerspeak.dataread") 593) .none (.ref 282) .none 0)), #[]⟩
noncomputable def o284_0 (P : Params) : Obj := ⟨(.type "tuple"), .none, (.seq #[] 0), #[]⟩
noncomputable def o285_0 (P : Params) : Obj := ⟨.none, .none, (.fields #[]), #[]⟩
noncomputable def o286_0 (P : Params) : Obj := ⟨.none, .none, (.func (fn (st 31) (.ofString "read_occurs") (.ofString "read_occurs") 0 [] .none .none .none .none .none .none .none 0)), #[]⟩
noncomputable def o287_0 (P : Params) : Obj := ⟨(.type "code"), .none, (.fields #[(.str (.ofString "read_occurs") 640), (.str (.ofString "read_occurs") 641), (.str (.ofString "/claim/cut.py") 642), (.int 166 0), (.int 1 0), (.int 0 0), (.int 0 0), (.int 3 0), (.ref 284), (.bool true), (.int 181 0), (.ref 285), .none, .none, .none, (.ref 286), (.int 643 0), (.int 166 0), (.str (.ofString "/claim/cut.py") 644)]), #[]⟩
noncomputable def o288_0 (P : Params) : Obj := ⟨(.type "function"), .none, (.func (fn (st 31) (.ofString "read_occurs") (.ofString "read_occurs") 3 [] .none .none .none (.str (.ofString "ledgerspeak.dataread") 593) .none (.ref 287) .none 0)), #[]⟩
noncomputable def o289_0 (P : Params) : Obj := ⟨(.type "tuple"), .none, (.seq #[] 0), #[]⟩
noncomputable def o290_0 (P : Params) : Obj := ⟨.none, .none, (.fields #[]), #[]⟩
noncomputable def o291_0 (P : Params) : Obj := ⟨(.type "tuple"), .none, (.seq #[(.str (.ofString "reader") 649), (.str (.ofString "item") 650), (.str (.ofString "word") 651)] 0), #[]⟩
noncomputable def o292_0 (P : Params) : Obj := ⟨(.type "tuple"), .none, (.seq #[] 0), #[]⟩
noncomputable def o293_0 (P : Params) : Obj := ⟨.none, .none, (.func (fn (st 32) (.ofString "read_sign") (.ofString "read_sign") 0 [] .none .none .none .none .none .none .none 0)), #[]⟩
noncomputable def o294_0 (P : Params) : Obj := ⟨(.type "code"), .none, (.fields #[(.str (.ofString "read_sign") 646), (.str (.ofString "read_sign") 647), (.str (.ofString "/claim/cut.py") 648), (.int 187 0), (.int 3 0), (.int 0 0), (.int 0 0), (.int 3 0), (.ref 289), (.bool true), (.int 181 0), (.ref 290), .none, (.ref 291), (.ref 292), (.ref 293), (.int 652 0), (.int 187 0), (.str (.ofString "/claim/cut.py") 653)]), #[]⟩
noncomputable def o295_0 (P : Params) : Obj := ⟨(.type "function"), .none, (.func (fn (st 32) (.ofString "read_sign") (.ofString "read_sign") 3 [] .none .none .none (.str (.ofString "ledgerspeak.dataread") 593) .none (.ref 294) .none 0)), #[]⟩
noncomputable def o296_0 (P : Params) : Obj := ⟨(.type "tuple"), .none, (.seq #[] 0), #[]⟩
noncomputable def o297_0 (P : Params) : Obj := ⟨.none, .none, (.fields #[]), #[]⟩
noncomputable def o298_0 (P : Params) : Obj := ⟨(.type "tuple"), .none, (.seq #[(.str (.ofString "reader") 658), (.str (.ofString "item") 659), (.str (.ofString "word") 660), (.str (.ofString "told_usage") 661), (.str (.ofString "place") 662)] 0), #[]⟩
noncomputable def o299_0 (P : Params) : Obj := ⟨(.type "tuple"), .none, (.seq #[] 0), #[]⟩
noncomputable def o300_0 (P : Params) : Obj := ⟨.none, .none, (.func (fn (st 33) (.ofString "read_named_clause") (.ofString "read_named_clause") 0 [] .none .none .none .none .none .none .none 0)), #[]⟩
noncomputable def o301_0 (P : Params) : Obj := ⟨(.type "code"), .none, (.fields #[(.str (.ofString "read_named_clause") 655), (.str (.ofString "read_named_clause") 656), (.str (.ofString "/claim/cut.py") 657), (.int 192 0), (.int 3 0), (.int 0 0), (.int 0 0), (.int 3 0), (.ref 296), (.bool true), (.int 181 0), (.ref 297), .none, (.ref 298), (.ref 299), (.ref 300), (.int 663 0), (.int 192 0), (.str (.ofString "/claim/cut.py") 664)]), #[]⟩
noncomputable def o302_0 (P : Params) : Obj := ⟨(.type "function"), .none, (.func (fn (st 33) (.ofString "read_named_clause") (.ofString "read_named_clause") 3 [] .none .none .none (.str (.ofString "ledgerspeak.dataread") 593) .none (.ref 301) .none 0)), #[]⟩
noncomputable def o303_0 (P : Params) : Obj := ⟨(.type "tuple"), .none, (.seq #[] 0), #[]⟩
noncomputable def o304_0 (P : Params) : Obj := ⟨.none, .none, (.fields #[]), #[]⟩
noncomputable def o305_0 (P : Params) : Obj := ⟨(.type "tuple"), .none, (.seq #[(.str (.ofString "reader") 669), (.str (.ofString "word") 670)] 0), #[]⟩
noncomputable def o306_0 (P : Params) : Obj := ⟨(.type "tuple"), .none, (.seq #[] 0), #[]⟩
noncomputable def o307_0 (P : Params) : Obj := ⟨.none, .none, (.func (fn (st 34) (.ofString "clause_word") (.ofString "clause_word") 0 [] .none .none .none .none .none .none .none 0)), #[]⟩
noncomputable def o308_0 (P : Params) : Obj := ⟨(.type "code"), .none, (.fields #[(.str (.ofString "clause_word") 666), (.str (.ofString "clause_word") 667), (.str (.ofString "/claim/cut.py") 668), (.int 220 0), (.int 1 0), (.int 0 0), (.int 0 0), (.int 3 0), (.ref 303), (.bool true), (.int 181 0), (.ref 304), .none, (.ref 305), (.ref 306), (.ref 307), (.int 671 0), (.int 220 0), (.str (.ofString "/claim/cut.py") 672)]), #[]⟩
noncomputable def o309_0 (P : Params) : Obj := ⟨(.type "function"), .none, (.func (fn (st 34) (.ofString "clause_word") (.ofString "clause_word") 3 [] .none .none .none (.str (.ofString "ledgerspeak.dataread") 593) .none (.ref 308) .none 0)), #[]⟩
noncomputable def o310_0 (P : Params) : Obj := ⟨(.type "tuple"), .none, (.seq #[] 0), #[]⟩
noncomputable def o311_0 (P : Params) : Obj := ⟨.none, .none, (.fields #[]), #[]⟩
noncomputable def o312_0 (P : Params) : Obj := ⟨(.type "tuple"), .none, (.seq #[(.str (.ofString "reader") 677), (.str (.ofString "item") 678), (.str (.ofString "usage") 679), (.str (.ofString "place") 680)] 0), #[]⟩
noncomputable def o313_0 (P : Params) : Obj := ⟨(.type "tuple"), .none, (.seq #[] 0), #[]⟩
noncomputable def o314_0 (P : Params) : Obj := ⟨.none, .none, (.func (fn (st 35) (.ofString "read_bare_clause") (.ofString "read_bare_clause") 0 [] .none .none .none .none .none .none .none 0)), #[]⟩
noncomputable def o315_0 (P : Params) : Obj := ⟨(.type "code"), .none, (.fields #[(.str (.ofString "read_bare_clause") 674), (.str (.ofString "read_bare_clause") 675), (.str (.ofString "/claim/cut.py") 676), (.int 230 0), (.int 2 0), (.int 0 0), (.int 0 0), (.int 3 0), (.ref 310), (.bool true), (.int 181 0), (.ref 311), .none, (.ref 312), (.ref 313), (.ref 314), (.int 681 0), (.int 230 0), (.str (.ofString "/claim/cut.py") 682)]), #[]⟩
noncomputable def o316_0 (P : Params) : Obj := ⟨(.type "function"), .none, (.func (fn (st 35) (.ofString "read_bare_clause") (.ofString "read_bare_clause") 3 [] .none .none .none (.str (.ofString "ledgerspeak.dataread") 593) .none (.ref 315) .none 0)), #[]⟩
noncomputable def t10 (P : Params) : BT := (.node (boot_o_0 P) (.node (boot_o_1 P) (.node (o3_9 P) (.node (boot_o_7 P) (.node (o15_0 P) (.node (o31_0 P) (.node (o63_0 P) (.node (o127_0 P) (.node (o255_0 P) .nil .nil) .nil) (.node (o191_0 P) .nil .nil)) (.node (o95_0 P) (.node (o159_0 P) (.node (o287_0 P) .nil .nil) .nil) (.node (o223_0 P) .nil .nil))) (.node (o47_3 P) (.node (o79_0 P) (.node (o143_0 P) (.node (o271_0 P) .nil .nil) .nil) (.node (o207_0 P) .nil .nil)) (.node (o111_0 P) (.node (o175_0 P) (.node (o303_0 P) .nil .nil) .nil) (.node (o239_0 P) .nil .nil)))) (.node (o23_0 P) (.node (o39_0 P) (.node (o71_0 P) (.node (o135_0 P) (.node (o263_0 P) .nil .nil) .nil) (.node (o199_0 P) .nil .nil)) (.node (o103_0 P) (.node (o167_0 P) (.node (o295_0 P) .nil .nil) .nil) (.node (o231_0 P) .nil .nil))) (.node (o55_0 P) (.node (o87_0 P) (.node (o151_0 P) (.node (o279_0 P) .nil .nil) .nil) (.node (o215_0 P) .nil .nil)) (.node (o119_0 P) (.node (o183_0 P) (.node (o311_0 P) .nil .nil) .nil) (.node (o247_0 P) .nil .nil))))) (.node (o11_0 P) (.node (o19_0 P) (.node (o35_0 P) (.node (o67_0 P) (.node (o131_0 P) (.node (o259_0 P) .nil .nil) .nil) (.node (o195_0 P) .nil .nil)) (.node (o99_0 P) (.node (o163_0 P) (.node (o291_0 P) .nil .nil) .nil) (.node (o227_0 P) .nil .nil))) (.node (o51_0 P) (.node (o83_0 P) (.node (o147_0 P) (.node (o275_0 P) .nil .nil) .nil) (.node (o211_0 P) .nil .nil)) (.node (o115_0 P) (.node (o179_0 P) (.node (o307_0 P) .nil .nil) .nil) (.node (o243_0 P) .nil .nil)))) (.node (o27_0 P) (.node (o43_0 P) (.node (o75_0 P) (.node (o139_0 P) (.node (o267_0 P) .nil .nil) .nil) (.node (o203_0 P) .nil .nil)) (.node (o107_0 P) (.node (o171_0 P) (.node (o299_0 P) .nil .nil) .nil) (.node (o235_0 P) .nil .nil))) (.node (o59_0 P) (.node (o91_0 P) (.node (o155_0 P) (.node (o283_0 P) .nil .nil) .nil) (.node (o219_0 P) .nil .nil)) (.node (o123_0 P) (.node (o187_0 P) (.node (o315_0 P) .nil .nil) .nil) (.node (o251_0 P) .nil .nil)))))) (.node (boot_o_5 P) (.node (boot_o_9 P) (.node (o17_0 P) (.node (o33_0 P) (.node (o65_0 P) (.node (o129_0 P) (.node (o257_0 P) .nil .nil) .nil) (.node (o193_0 P) .nil .nil)) (.node (o97_0 P) (.node (o161_0 P) (.node (o289_0 P) .nil .nil) .nil) (.node (o225_0 P) .nil .nil))) (.node (o49_0 P) (.node (o81_0 P) (.node (o145_0 P) (.node (o273_0 P) .nil .nil) .nil) (.node (o209_0 P) .nil .nil)) (.node (o113_0 P) (.node (o177_0 P) (.node (o305_0 P) .nil .nil) .nil) (.node (o241_0 P) .nil .nil)))) (.node (o25_0 P) (.node (o41_0 P) (.node (o73_0 P) (.node (o137_0 P) (.node (o265_0 P) .nil .nil) .nil) (.node (o201_0 P) .nil .nil)) (.node (o105_0 P) (.node (o169_0 P) (.node (o297_0 P) .nil .nil) .nil) (.node (o233_0 P) .nil .nil))) (.node (o57_0 P) (.node (o89_0 P) (.node (o153_0 P) (.node (o281_0 P) .nil .nil) .nil) (.node (o217_0 P) .nil .nil)) (.node (o121_0 P) (.node (o185_0 P) (.node (o313_0 P) .nil .nil) .nil) (.node (o249_0 P) .nil .nil))))) (.node (o13_0 P) (.node (o21_0 P) (.node (o37_0 P) (.node (o69_0 P) (.node (o133_0 P) (.node (o261_0 P) .nil .nil) .nil) (.node (o197_0 P) .nil .nil)) (.node (o101_0 P) (.node (o165_0 P) (.node (o293_0 P) .nil .nil) .nil) (.node (o229_0 P) .nil .nil))) (.node (o53_0 P) (.node (o85_0 P) (.node (o149_0 P) (.node (o277_0 P) .nil .nil) .nil) (.node (o213_0 P) .nil .nil)) (.node (o117_0 P) (.node (o181_0 P) (.node (o309_0 P) .nil .nil) .nil) (.node (o245_0 P) .nil .nil)))) (.node (o29_0 P) (.node (o45_0 P) (.node (o77_0 P) (.node (o141_0 P) (.node (o269_0 P) .nil .nil) .nil) (.node (o205_0 P) .nil .nil)) (.node (o109_0 P) (.node (o173_0 P) (.node (o301_0 P) .nil .nil) .nil) (.node (o237_0 P) .nil .nil))) (.node (o61_0 P) (.node (o93_0 P) (.node (o157_0 P) (.node (o285_0 P) .nil .nil) .nil) (.node (o221_0 P) .nil .nil)) (.node (o125_0 P) (.node (o189_0 P) .nil .nil) (.node (o253_0 P) .nil .nil))))))) (.node (o2_0 P) (.node (boot_o_4 P) (.node (boot_o_8 P) (.node (o16_0 P) (.node (o32_0 P) (.node (o64_0 P) (.node (o128_0 P) (.node (o256_0 P) .nil .nil) .nil) (.node (o192_0 P) .nil .nil)) (.node (o96_0 P) (.node (o160_0 P) (.node (o288_0 P) .nil .nil) .nil) (.node (o224_0 P) .nil .nil))) (.node (o48_0 P) (.node (o80_0 P) (.node (o144_0 P) (.node (o272_0 P) .nil .nil) .nil) (.node (o208_0 P) .nil .nil)) (.node (o112_0 P) (.node (o176_0 P) (.node (o304_0 P) .nil .nil) .nil) (.node (o240_0 P) .nil .nil)))) (.node (o24_0 P) (.node (o40_0 P) (.node (o72_0 P) (.node (o136_0 P) (.node (o264_0 P) .nil .nil) .nil) (.node (o200_0 P) .nil .nil)) (.node (o104_0 P) (.node (o168_0 P) (.node (o296_0 P) .nil .nil) .nil) (.node (o232_0 P) .nil .nil))) (.node (o56_0 P) (.node (o88_0 P) (.node (o152_0 P) (.node (o280_0 P) .nil .nil) .nil) (.node (o216_0 P) .nil .nil)) (.node (o120_0 P) (.node (o184_0 P) (.node (o312_0 P) .nil .nil) .nil) (.node (o248_0 P) .nil .nil))))) (.node (o12_10 P) (.node (o20_0 P) (.node (o36_0 P) (.node (o68_0 P) (.node (o132_0 P) (.node (o260_0 P) .nil .nil) .nil) (.node (o196_0 P) .nil .nil)) (.node (o100_0 P) (.node (o164_0 P) (.node (o292_0 P) .nil .nil) .nil) (.node (o228_0 P) .nil .nil))) (.node (o52_0 P) (.node (o84_0 P) (.node (o148_0 P) (.node (o276_0 P) .nil .nil) .nil) (.node (o212_0 P) .nil .nil)) (.node (o116_0 P) (.node (o180_0 P) (.node (o308_0 P) .nil .nil) .nil) (.node (o244_0 P) .nil .nil)))) (.node (o28_0 P) (.node (o44_0 P) (.node (o76_0 P) (.node (o140_0 P) (.node (o268_0 P) .nil .nil) .nil) (.node (o204_0 P) .nil .nil)) (.node (o108_0 P) (.node (o172_0 P) (.node (o300_0 P) .nil .nil) .nil) (.node (o236_0 P) .nil .nil))) (.node (o60_0 P) (.node (o92_0 P) (.node (o156_0 P) (.node (o284_0 P) .nil .nil) .nil) (.node (o220_0 P) .nil .nil)) (.node (o124_0 P) (.node (o188_0 P) (.node (o316_0 P) .nil .nil) .nil) (.node (o252_0 P) .nil .nil)))))) (.node (boot_o_6 P) (.node (boot_o_10 P) (.node (o18_0 P) (.node (o34_0 P) (.node (o66_0 P) (.node (o130_0 P) (.node (o258_0 P) .nil .nil) .nil) (.node (o194_0 P) .nil .nil)) (.node (o98_0 P) (.node (o162_0 P) (.node (o290_0 P) .nil .nil) .nil) (.node (o226_0 P) .nil .nil))) (.node (o50_0 P) (.node (o82_0 P) (.node (o146_0 P) (.node (o274_0 P) .nil .nil) .nil) (.node (o210_0 P) .nil .nil)) (.node (o114_0 P) (.node (o178_0 P) (.node (o306_0 P) .nil .nil) .nil) (.node (o242_0 P) .nil .nil)))) (.node (o26_0 P) (.node (o42_0 P) (.node (o74_0 P) (.node (o138_0 P) (.node (o266_0 P) .nil .nil) .nil) (.node (o202_0 P) .nil .nil)) (.node (o106_0 P) (.node (o170_0 P) (.node (o298_0 P) .nil .nil) .nil) (.node (o234_0 P) .nil .nil))) (.node (o58_0 P) (.node (o90_0 P) (.node (o154_0 P) (.node (o282_0 P) .nil .nil) .nil) (.node (o218_0 P) .nil .nil)) (.node (o122_0 P) (.node (o186_0 P) (.node (o314_0 P) .nil .nil) .nil) (.node (o250_0 P) .nil .nil))))) (.node (o14_0 P) (.node (o22_0 P) (.node (o38_0 P) (.node (o70_0 P) (.node (o134_0 P) (.node (o262_0 P) .nil .nil) .nil) (.node (o198_0 P) .nil .nil)) (.node (o102_0 P) (.node (o166_0 P) (.node (o294_0 P) .nil .nil) .nil) (.node (o230_0 P) .nil .nil))) (.node (o54_0 P) (.node (o86_0 P) (.node (o150_0 P) (.node (o278_0 P) .nil .nil) .nil) (.node (o214_0 P) .nil .nil)) (.node (o118_0 P) (.node (o182_0 P) (.node (o310_0 P) .nil .nil) .nil) (.node (o246_0 P) .nil .nil)))) (.node (o30_0 P) (.node (o46_0 P) (.node (o78_0 P) (.node (o142_0 P) (.node (o270_0 P) .nil .nil) .nil) (.node (o206_0 P) .nil .nil)) (.node (o110_0 P) (.node (o174_0 P) (.node (o302_0 P) .nil .nil) .nil) (.node (o238_0 P) .nil .nil))) (.node (o62_0 P) (.node (o94_0 P) (.node (o158_0 P) (.node (o286_0 P) .nil .nil) .nil) (.node (o222_0 P) .nil .nil)) (.node (o126_0 P) (.node (o190_0 P) .nil .nil) (.node (o254_0 P) .nil .nil))))))))
noncomputable def S10 (w : World) (os : OsState) : SharedT := ⟨t10 w.params, 317, { }, #[], { }, 684, os⟩
noncomputable def o3_10 (P : Params) : Obj := ⟨(.type "dict"), .none, (.dict #[kk P "__name__" 165 (.str (.ofString "ledgerspeak.decimals") 774), kk P "__doc__" 166 .none, kk P "__package__" 167 .none, kk P "__loader__" 168 (.builtin "__main__.__loader__#opaque"), kk P "__spec__" 169 .none, kk P "__annotations__" 170 (.ref 6), kk P "__builtins__" 171 (.ref 4), kk P "__file__" 173 (.str (.ofString "/claim/cut.py") 172), kk P "__cached__" 174 .none, kk P "_wall" 193 (.ref 21), kk P "LedgerError" 235 (.ref 47), kk P "TokenFault" 251 (.ref 60), kk P "DataFault" 267 (.ref 72), kk P "GrammarFault" 283 (.ref 84), kk P "FILLER" 287 (.str (.ofString "FILLER") 286), kk P "RENAMING" 289 (.int 66 288), kk P "ALONE" 291 (.int 77 290), kk P "Occurs" 335 (.ref 113), kk P "Named" 373 (.ref 141), kk P "Item" 451 (.ref 188), kk P "Data" 490 (.ref 214), kk P "MOST_SUBSCRIPTS" 494 (.int 7 493), kk P "FIGURE_NAMES" 528 (.ref 219), kk P "is_part_next" 537 (.ref 226), kk P "read_subscripts" 546 (.ref 233), kk P "read_part" 556 (.ref 240), kk P "read_ref" 568 (.ref 247), kk P "read_all" 576 (.ref 254), kk P "read_figure" 583 (.ref 261), kk P "read_operand" 592 (.ref 268), kk P "NAMING" 596 (.int 88 595), kk P "MOST_LEVEL" 598 (.int 49 597), kk P "MOST_NESTED" 600 (.int 20 599), kk P "USAGE_WORDS" 625 (.ref 269), kk P "no_expression" 632 (.ref 276), kk P "read_literal" 639 (.ref 283), kk P "read_occurs" 645 (.ref 288), kk P "read_sign" 654 (.ref 295), kk P "read_named_clause" 665 (.ref 302), kk P "clause_word" 673 (.ref 309), kk P "read_bare_clause" 683 (.ref 316), kk P "read_clauses" 694 (.ref 323), kk P "read_worths" 704 (.ref 330), kk P "read_renames" 713 (.ref 337), kk P "read_entry" 723 (.ref 344), kk P "is_level_here" 731 (.ref 351), kk P "put_beneath" 740 (.ref 358), kk P "nested" 753 (.ref 365), kk P "read_entries" 761 (.ref 372), kk P "read_file_entry" 773 (.ref 379), kk P "FIGURES" 777 (.str (.ofString "0123456789") 776), kk P "cut_quotient" 785 (.ref 386), kk P "decimal" 794 (.ref 394), kk P "negated" 801 (.ref 401)] 54), #[]⟩
noncomputable def o12_11 (P : Params) : Obj := ⟨.none, .none, (.fields #[(.int 1 0), (.int 0 0), (.ref 20), (.int 5 0), (.int 0 0), (.ref 27), (.int 14 0), (.int 0 0), (.ref 56), (.int 16 0), (.int 0 0), (.ref 68), (.int 18 0), (.int 0 0), (.ref 80), (.int 24 0), (.int 0 0), (.ref 92), (.int 35 0), (.int 0 0), (.ref 123), (.int 43 0), (.int 0 0), (.ref 151), (.int 81 0), (.int 0 0), (.ref 198), (.int 97 0), (.int 0 0), (.ref 225), (.int 110 0), (.int 0 0), (.ref 232), (.int 118 0), (.int 0 0), (.ref 239), (.int 125 0), (.int 0 0), (.ref 246), (.int 135 0), (.int 0 0), (.ref 253), (.int 142 0), (.int 0 0), (.ref 260), (.int 146 0), (.int 0 0), (.ref 267), (.int 160 0), (.int 0 0), (.ref 275), (.int 162 0), (.int 0 0), (.ref 282), (.int 166 0), (.int 0 0), (.ref 287), (.int 187 0), (.int 0 0), (.ref 294), (.int 192 0), (.int 0 0), (.ref 301), (.int 220 0), (.int 0 0), (.ref 308), (.int 230 0), (.int 0 0), (.ref 315), (.int 245 0), (.int 0 0), (.ref 322), (.int 258 0), (.int 0 0), (.ref 329), (.int 269 0), (.int 0 0), (.ref 336), (.int 275 0), (.int 0 0), (.ref 343), (.int 293 0), (.int 0 0), (.ref 350), (.int 296 0), (.int 0 0), (.ref 357), (.int 308 0), (.int 0 0), (.ref 364), (.int 331 0), (.int 0 0), (.ref 371), (.int 336 0), (.int 0 0), (.ref 378), (.int 351 0), (.int 0 0), (.ref 385), (.int 355 0), (.int 0 0), (.ref 393), (.int 362 0), (.int 0 0), (.ref 400)]), #[]⟩
noncomputable def o317_0 (P : Params) : Obj := ⟨(.type "tuple"), .none, (.seq #[] 0), #[]⟩
noncomputable def o318_0 (P : Params) : Obj := ⟨.none, .none, (.fields #[]), #[]⟩
noncomputable def o319_0 (P : Params) : Obj := ⟨(.type "tuple"), .none, (.seq #[(.str (.ofString "reader") 687), (.str (.ofString "item") 688), (.str (.ofString "met") 689), (.str (.ofString "ahead") 690), (.str (.ofString "word") 691)] 0), #[]⟩
noncomputable def o320_0 (P : Params) : Obj := ⟨(.type "tuple"), .none, (.seq #[] 0), #[]⟩
noncomputable def o321_0 (P : Params) : Obj := ⟨.none, .none, (.func (fn (st 36) (.ofString "read_clauses") (.ofString "read_clauses") 0 [] .none .none .none .none .none .none .none 0)), #[]⟩
noncomputable def o322_0 (P : Params) : Obj := ⟨(.type "code"), .none, (.fields #[(.str (.ofString "read_clauses") 684), (.str (.ofString "read_clauses") 685), (.str (.ofString "/claim/cut.py") 686), (.int 245 0), (.int 2 0), (.int 0 0), (.int 0 0), (.int 3 0), (.ref 317), (.bool true), (.int 181 0), (.ref 318), .none, (.ref 319), (.ref 320), (.ref 321), (.int 692 0), (.int 245 0), (.str (.ofString "/claim/cut.py") 693)]), #[]⟩
noncomputable def o323_0 (P : Params) : Obj := ⟨(.type "function"), .none, (.func (fn (st 36) (.ofString "read_clauses") (.ofString "read_clauses") 3 [] .none .none .none (.str (.ofString "ledgerspeak.dataread") 593) .none (.ref 322) .none 0)), #[]⟩
noncomputable def o324_0 (P : Params) : Obj := ⟨(.type "tuple"), .none, (.seq #[] 0), #[]⟩
noncomputable def o325_0 (P : Params) : Obj := ⟨.none, .none, (.fields #[]), #[]⟩
noncomputable def o326_0 (P : Params) : Obj := ⟨(.type "tuple"), .none, (.seq #[(.str (.ofString "reader") 698), (.str (.ofString "rows") 699), (.str (.ofString "first") 700), (.str (.ofString "last") 701)] 0), #[]⟩
noncomputable def o327_0 (P : Params) : Obj := ⟨(.type "tuple"), .none, (.seq #[] 0), #[]⟩
noncomputable def o328_0 (P : Params) : Obj := ⟨.none, .none, (.func (fn (st 37) (.ofString "read_worths") (.ofString "read_worths") 0 [] .none .none .none .none .none .none .none 0)), #[]⟩
noncomputable def o329_0 (P : Params) : Obj := ⟨(.type "code"), .none, (.fields #[(.str (.ofString "read_worths") 695), (.str (.ofString "read_worths") 696), (.str (.ofString "/claim/cut.py") 697), (.int 258 0), (.int 1 0), (.int 0 0), (.int 0 0), (.int 3 0), (.ref 324), (.bool true), (.int 181 0), (.ref 325), .none, (.ref 326), (.ref 327), (.ref 328), (.int 702 0), (.int 258 0), (.str (.ofString "/claim/cut.py") 703)]), #[]⟩
noncomputable def o330_0 (P : Params) : Obj := ⟨(.type "function"), .none, (.func (fn (st 37) (.ofString "read_worths") (.ofString "read_worths") 3 [] .none .none .none (.str (.ofString "ledgerspeak.dataread") 593) .none (.ref 329) .none 0)), #[]⟩
noncomputable def o331_0 (P : Params) : Obj := ⟨(.type "tuple"), .none, (.seq #[] 0), #[]⟩
noncomputable def o332_0 (P : Params) : Obj := ⟨.none, .none, (.fields #[]), #[]⟩
noncomputable def o333_0 (P : Params) : Obj := ⟨(.type "tuple"), .none, (.seq #[(.str (.ofString "reader") 708), (.str (.ofString "first") 709), (.str (.ofString "last") 710)] 0), #[]⟩
noncomputable def o334_0 (P : Params) : Obj := ⟨(.type "tuple"), .none, (.seq #[] 0), #[]⟩
noncomputable def o335_0 (P : Params) : Obj := ⟨.none, .none, (.func (fn (st 38) (.ofString "read_renames") (.ofString "read_renames") 0 [] .none .none .none .none .none .none .none 0)), #[]⟩
noncomputable def o336_0 (P : Params) : Obj := ⟨(.type "code"), .none, (.fields #[(.str (.ofString "read_renames") 705), (.str (.ofString "read_renames") 706), (.str (.ofString "/claim/cut.py") 707), (.int 269 0), (.int 1 0), (.int 0 0), (.int 0 0), (.int 3 0), (.ref 331), (.bool true), (.int 181 0), (.ref 332), .none, (.ref 333), (.ref 334), (.ref 335), (.int 711 0), (.int 269 0), (.str (.ofString "/claim/cut.py") 712)]), #[]⟩
noncomputable def o337_0 (P : Params) : Obj := ⟨(.type "function"), .none, (.func (fn (st 38) (.ofString "read_renames") (.ofString "read_renames") 3 [] .none .none .none (.str (.ofString "ledgerspeak.dataread") 593) .none (.ref 336) .none 0)), #[]⟩
noncomputable def o338_0 (P : Params) : Obj := ⟨(.type "tuple"), .none, (.seq #[] 0), #[]⟩
noncomputable def o339_0 (P : Params) : Obj := ⟨.none, .none, (.fields #[]), #[]⟩
noncomputable def o340_0 (P : Params) : Obj := ⟨(.type "tuple"), .none, (.seq #[(.str (.ofString "reader") 717), (.str (.ofString "place") 718), (.str (.ofString "level") 719), (.str (.ofString "item") 720)] 0), #[]⟩
noncomputable def o341_0 (P : Params) : Obj := ⟨(.type "tuple"), .none, (.seq #[] 0), #[]⟩
noncomputable def o342_0 (P : Params) : Obj := ⟨.none, .none, (.func (fn (st 39) (.ofString "read_entry") (.ofString "read_entry") 0 [] .none .none .none .none .none .none .none 0)), #[]⟩
noncomputable def o343_0 (P : Params) : Obj := ⟨(.type "code"), .none, (.fields #[(.str (.ofString "read_entry") 714), (.str (.ofString "read_entry") 715), (.str (.ofString "/claim/cut.py") 716), (.int 275 0), (.int 1 0), (.int 0 0), (.int 0 0), (.int 3 0), (.ref 338), (.bool true), (.int 181 0), (.ref 339), .none, (.ref 340), (.ref 341), (.ref 342), (.int 721 0), (.int 275 0), (.str (.ofString "/claim/cut.py") 722)]), #[]⟩
noncomputable def o344_0 (P : Params) : Obj := ⟨(.type "function"), .none, (.func (fn (st 39) (.ofString "read_entry") (.ofString "read_entry") 3 [] .none .none .none (.str (.ofString "ledgerspeak.dataread") 593) .none (.ref 343) .none 0)), #[]⟩
noncomputable def o345_0 (P : Params) : Obj := ⟨(.type "tuple"), .none, (.seq #[] 0), #[]⟩
noncomputable def o346_0 (P : Params) : Obj := ⟨.none, .none, (.fields #[]), #[]⟩
noncomputable def o347_0 (P : Params) : Obj := ⟨(.type "tuple"), .none, (.seq #[(.str (.ofString "reader") 727), (.str (.ofString "token") 728)] 0), #[]⟩
noncomputable def o348_0 (P : Params) : Obj := ⟨(.type "tuple"), .none, (.seq #[] 0), #[]⟩
noncomputable def o349_0 (P : Params) : Obj := ⟨.none, .none, (.func (fn (st 40) (.ofString "is_level_here") (.ofString "is_level_here") 0 [] .none .none .none .none .none .none .none 0)), #[]⟩
noncomputable def o350_0 (P : Params) : Obj := ⟨(.type "code"), .none, (.fields #[(.str (.ofString "is_level_here") 724), (.str (.ofString "is_level_here") 725), (.str (.ofString "/claim/cut.py") 726), (.int 293 0), (.int 1 0), (.int 0 0), (.int 0 0), (.int 3 0), (.ref 345), (.bool true), (.int 181 0), (.ref 346), .none, (.ref 347), (.ref 348), (.ref 349), (.int 729 0), (.int 293 0), (.str (.ofString "/claim/cut.py") 730)]), #[]⟩
noncomputable def o351_0 (P : Params) : Obj := ⟨(.type "function"), .none, (.func (fn (st 40) (.ofString "is_level_here") (.ofString "is_level_here") 3 [] .none .none .none (.str (.ofString "ledgerspeak.dataread") 593) .none (.ref 350) .none 0)), #[]⟩
noncomputable def o352_0 (P : Params) : Obj := ⟨(.type "tuple"), .none, (.seq #[] 0), #[]⟩
noncomputable def o353_0 (P : Params) : Obj := ⟨.none, .none, (.fields #[]), #[]⟩
noncomputable def o354_0 (P : Params) : Obj := ⟨(.type "tuple"), .none, (.seq #[(.str (.ofString "open_items") 735), (.str (.ofString "item") 736), (.str (.ofString "above") 737)] 0), #[]⟩
noncomputable def o355_0 (P : Params) : Obj := ⟨(.type "tuple"), .none, (.seq #[] 0), #[]⟩
noncomputable def o356_0 (P : Params) : Obj := ⟨.none, .none, (.func (fn (st 41) (.ofString "put_beneath") (.ofString "put_beneath") 0 [] .none .none .none .none .none .none .none 0)), #[]⟩
noncomputable def o357_0 (P : Params) : Obj := ⟨(.type "code"), .none, (.fields #[(.str (.ofString "put_beneath") 732), (.str (.ofString "put_beneath") 733), (.str (.ofString "/claim/cut.py") 734), (.int 296 0), (.int 2 0), (.int 0 0), (.int 0 0), (.int 3 0), (.ref 352), (.bool true), (.int 181 0), (.ref 353), .none, (.ref 354), (.ref 355), (.ref 356), (.int 738 0), (.int 296 0), (.str (.ofString "/claim/cut.py") 739)]), #[]⟩
noncomputable def o358_0 (P : Params) : Obj := ⟨(.type "function"), .none, (.func (fn (st 41) (.ofString "put_beneath") (.ofString "put_beneath") 3 [] .none .none .none (.str (.ofString "ledgerspeak.dataread") 593) .none (.ref 357) .none 0)), #[]⟩
noncomputable def o359_0 (P : Params) : Obj := ⟨(.type "tuple"), .none, (.seq #[] 0), #[]⟩
noncomputable def o360_0 (P : Params) : Obj := ⟨.none, .none, (.fields #[]), #[]⟩
noncomputable def o361_0 (P : Params) : Obj := ⟨(.type "tuple"), .none, (.seq #[(.str (.ofString "entries") 744), (.str (.ofString "roots") 745), (.str (.ofString "open_items") 746), (.str (.ofString "last") 747), (.str (.ofString "renaming") 748), (.str (.ofString "item") 749), (.str (.ofString "index") 750)] 0), #[]⟩
noncomputable def o362_0 (P : Params) : Obj := ⟨(.type "tuple"), .none, (.seq #[] 0), #[]⟩
noncomputable def o363_0 (P : Params) : Obj := ⟨.none, .none, (.func (fn (st 42) (.ofString "nested") (.ofString "nested") 0 [] .none .none .none .none .none .none .none 0)), #[]⟩
noncomputable def o364_0 (P : Params) : Obj := ⟨(.type "code"), .none, (.fields #[(.str (.ofString "nested") 741), (.str (.ofString "nested") 742), (.str (.ofString "/claim/cut.py") 743), (.int 308 0), (.int 1 0), (.int 0 0), (.int 0 0), (.int 3 0), (.ref 359), (.bool true), (.int 181 0), (.ref 360), .none, (.ref 361), (.ref 362), (.ref 363), (.int 751 0), (.int 308 0), (.str (.ofString "/claim/cut.py") 752)]), #[]⟩
noncomputable def o365_0 (P : Params) : Obj := ⟨(.type "function"), .none, (.func (fn (st 42) (.ofString "nested") (.ofString "nested") 3 [] .none .none .none (.str (.ofString "ledgerspeak.dataread") 593) .none (.ref 364) .none 0)), #[]⟩
noncomputable def o366_0 (P : Params) : Obj := ⟨(.type "tuple"), .none, (.seq #[] 0), #[]⟩
noncomputable def o367_0 (P : Params) : Obj := ⟨.none, .none, (.fields #[]), #[]⟩
noncomputable def o368_0 (P : Params) : Obj := ⟨(.type "tuple"), .none, (.seq #[(.str (.ofString "reader") 757), (.str (.ofString "entries") 758)] 0), #[]⟩
noncomputable def o369_0 (P : Params) : Obj := ⟨(.type "tuple"), .none, (.seq #[] 0), #[]⟩
noncomputable def o370_0 (P : Params) : Obj := ⟨.none, .none, (.func (fn (st 43) (.ofString "read_entries") (.ofString "read_entries") 0 [] .none .none .none .none .none .none .none 0)), #[]⟩
noncomputable def o371_0 (P : Params) : Obj := ⟨(.type "code"), .none, (.fields #[(.str (.ofString "read_entries") 754), (.str (.ofString "read_entries") 755), (.str (.ofString "/claim/cut.py") 756), (.int 331 0), (.int 1 0), (.int 0 0), (.int 0 0), (.int 3 0), (.ref 366), (.bool true), (.int 181 0), (.ref 367), .none, (.ref 368), (.ref 369), (.ref 370), (.int 759 0), (.int 331 0), (.str (.ofString "/claim/cut.py") 760)]), #[]⟩
noncomputable def o372_0 (P : Params) : Obj := ⟨(.type "function"), .none, (.func (fn (st 43) (.ofString "read_entries") (.ofString "read_entries") 3 [] .none .none .none (.str (.ofString "ledgerspeak.dataread") 593) .none (.ref 371) .none 0)), #[]⟩
noncomputable def o373_0 (P : Params) : Obj := ⟨(.type "tuple"), .none, (.seq #[] 0), #[]⟩
noncomputable def o374_0 (P : Params) : Obj := ⟨.none, .none, (.fields #[]), #[]⟩
noncomputable def o375_0 (P : Params) : Obj := ⟨(.type "tuple"), .none, (.seq #[(.str (.ofString "reader") 765), (.str (.ofString "data") 766), (.str (.ofString "is_sort") 767), (.str (.ofString "place") 768), (.str (.ofString "name") 769), (.str (.ofString "roots") 770)] 0), #[]⟩
noncomputable def o376_0 (P : Params) : Obj := ⟨(.type "tuple"), .none, (.seq #[] 0), #[]⟩
noncomputable def o377_0 (P : Params) : Obj := ⟨.none, .none, (.func (fn (st 44) (.ofString "read_file_entry") (.ofString "read_file_entry") 0 [] .none .none .none .none .none .none .none 0)), #[]⟩
noncomputable def o378_0 (P : Params) : Obj := ⟨(.type "code"), .none, (.fields #[(.str (.ofString "read_file_entry") 762), (.str (.ofString "read_file_entry") 763), (.str (.ofString "/claim/cut.py") 764), (.int 336 0), (.int 3 0), (.int 0 0), (.int 0 0), (.int 3 0), (.ref 373), (.bool true), (.int 181 0), (.ref 374), .none, (.ref 375), (.ref 376), (.ref 377), (.int 771 0), (.int 336 0), (.str (.ofString "/claim/cut.py") 772)]), #[]⟩
noncomputable def o379_0 (P : Params) : Obj := ⟨(.type "function"), .none, (.func (fn (st 44) (.ofString "read_file_entry") (.ofString "read_file_entry") 3 [] .none .none .none (.str (.ofString "ledgerspeak.dataread") 593) .none (.ref 378) .none 0)), #[]⟩
noncomputable def o380_0 (P : Params) : Obj := ⟨(.type "tuple"), .none, (.seq #[] 0), #[]⟩
noncomputable def o381_0 (P : Params) : Obj := ⟨.none, .none, (.fields #[]), #[]⟩
noncomputable def o382_0 (P : Params) : Obj := ⟨(.type "tuple"), .none, (.seq #[(.str (.ofString "top") 781), (.str (.ofString "bottom") 782)] 0), #[]⟩
noncomputable def o383_0 (P : Params) : Obj := ⟨(.type "tuple"), .none, (.seq #[] 0), #[]⟩
noncomputable def o384_0 (P : Params) : Obj := ⟨.none, .none, (.func (fn (st 47) (.ofString "cut_quotient") (.ofString "cut_quotient") 0 [] .none .none .none .none .none .none .none 0)), #[]⟩
noncomputable def o385_0 (P : Params) : Obj := ⟨(.type "code"), .none, (.fields #[(.str (.ofString "cut_quotient") 778), (.str (.ofString "cut_quotient") 779), (.str (.ofString "/claim/cut.py") 780), (.int 351 0), (.int 2 0), (.int 0 0), (.int 0 0), (.int 3 0), (.ref 380), (.bool true), (.int 181 0), (.ref 381), .none, (.ref 382), (.ref 383), (.ref 384), (.int 783 0), (.int 351 0), (.str (.ofString "/claim/cut.py") 784)]), #[]⟩
noncomputable def o386_0 (P : Params) : Obj := ⟨(.type "function"), .none, (.func (fn (st 47) (.ofString "cut_quotient") (.ofString "cut_quotient") 3 [] .none .none .none (.str (.ofString "ledgerspeak.decimals") 774) .none (.ref 385) .none 0)), #[]⟩
noncomputable def o387_0 (P : Params) : Obj := ⟨(.type "tuple"), .none, (.seq #[(.int 0 786)] 0), #[]⟩
noncomputable def o388_0 (P : Params) : Obj := ⟨(.type "tuple"), .none, (.seq #[] 0), #[]⟩
noncomputable def o389_0 (P : Params) : Obj := ⟨.none, .none, (.fields #[]), #[]⟩
noncomputable def o390_0 (P : Params) : Obj := ⟨(.type "tuple"), .none, (.seq #[(.str (.ofString "units") 790), (.str (.ofString "scale") 791)] 0), #[]⟩
noncomputable def o391_0 (P : Params) : Obj := ⟨(.type "tuple"), .none, (.seq #[] 0), #[]⟩
noncomputable def o392_0 (P : Params) : Obj := ⟨.none, .none, (.func (fn (st 48) (.ofString "decimal") (.ofString "decimal") 0 [] .none .none .none .none .none .none .none 0)), #[]⟩
noncomputable def o393_0 (P : Params) : Obj := ⟨(.type "code"), .none, (.fields #[(.str (.ofString "decimal") 787), (.str (.ofString "decimal") 788), (.str (.ofString "/claim/cut.py") 789), (.int 355 0), (.int 2 0), (.int 0 0), (.int 0 0), (.int 3 0), (.ref 388), (.bool true), (.int 181 0), (.ref 389), .none, (.ref 390), (.ref 391), (.ref 392), (.int 792 0), (.int 355 0), (.str (.ofString "/claim/cut.py") 793)]), #[]⟩
noncomputable def o394_0 (P : Params) : Obj := ⟨(.type "function"), .none, (.func (fn (st 48) (.ofString "decimal") (.ofString "decimal") 3 [] (.ref 387) .none .none (.str (.ofString "ledgerspeak.decimals") 774) .none (.ref 393) .none 0)), #[]⟩
noncomputable def o395_0 (P : Params) : Obj := ⟨(.type "tuple"), .none, (.seq #[] 0), #[]⟩
noncomputable def o396_0 (P : Params) : Obj := ⟨.none, .none, (.fields #[]), #[]⟩
noncomputable def o397_0 (P : Params) : Obj := ⟨(.type "tuple"), .none, (.seq #[(.str (.ofString "a") 798)] 0), #[]⟩
noncomputable def o398_0 (P : Params) : Obj := ⟨(.type "tuple"), .none, (.seq #[] 0), #[]⟩
noncomputable def o399_0 (P : Params) : Obj := ⟨.none, .none, (.func (fn (st 49) (.ofString "negated") (.ofString "negated") 0 [] .none .none .none .none .none .none .none 0)), #[]⟩
noncomputable def o400_0 (P : Params) : Obj := ⟨(.type "code"), .none, (.fields #[(.str (.ofString "negated") 795), (.str (.ofString "negated") 796), (.str (.ofString "/claim/cut.py") 797), (.int 362 0), (.int 1 0), (.int 0 0), (.int 0 0), (.int 3 0), (.ref 395), (.bool true), (.int 181 0), (.ref 396), .none, (.ref 397), (.ref 398), (.ref 399), (.int 799 0), (.int 362 0), (.str (.ofString "/claim/cut.py") 800)]), #[]⟩
noncomputable def o401_0 (P : Params) : Obj := ⟨(.type "function"), .none, (.func (fn (st 49) (.ofString "negated") (.ofString "negated") 3 [] .none .none .none (.str (.ofString "ledgerspeak.decimals") 774) .none (.ref 400) .none 0)), #[]⟩
noncomputable def t11 (P : Params) : BT := (.node (boot_o_0 P) (.node (boot_o_1 P) (.node (o3_10 P) (.node (boot_o_7 P) (.node (o15_0 P) (.node (o31_0 P) (.node (o63_0 P) (.node (o127_0 P) (.node (o255_0 P) .nil .nil) (.node (o383_0 P) .nil .nil)) (.node (o191_0 P) (.node (o319_0 P) .nil .nil) .nil)) (.node (o95_0 P) (.node (o159_0 P) (.node (o287_0 P) .nil .nil) .nil) (.node (o223_0 P) (.node (o351_0 P) .nil .nil) .nil))) (.node (o47_3 P) (.node (o79_0 P) (.node (o143_0 P) (.node (o271_0 P) .nil .nil) (.node (o399_0 P) .nil .nil)) (.node (o207_0 P) (.node (o335_0 P) .nil .nil) .nil)) (.node (o111_0 P) (.node (o175_0 P) (.node (o303_0 P) .nil .nil) .nil) (.node (o239_0 P) (.node (o367_0 P) .nil .nil) .nil)))) (.node (o23_0 P) (.node (o39_0 P) (.node (o71_0 P) (.node (o135_0 P) (.node (o263_0 P) .nil .nil) (.node (o391_0 P) .nil .nil)) (.node (o199_0 P) (.node (o327_0 P) .nil .nil) .nil)) (.node (o103_0 P) (.node (o167_0 P) (.node (o295_0 P) .nil .nil) .nil) (.node (o231_0 P) (.node (o359_0 P) .nil .nil) .nil))) (.node (o55_0 P) (.node (o87_0 P) (.node (o151_0 P) (.node (o279_0 P) .nil .nil) .nil) (.node (o215_0 P) (.node (o343_0 P) .nil .nil) .nil)) (.node (o119_0 P) (.node (o183_0 P) (.node (o311_0 P) .nil .nil) .nil) (.node (o247_0 P) (.node (o375_0 P) .nil .nil) .nil))))) (.node (o11_0 P) (.node (o19_0 P) (.node (o35_0 P) (.node (o67_0 P) (.node (o131_0 P) (.node (o259_0 P) .nil .nil) (.node (o387_0 P) .nil .nil)) (.node (o195_0 P) (.node (o323_0 P) .nil .nil) .nil)) (.node (o99_0 P) (.node (o163_0 P) (.node (o291_0 P) .nil .nil) .nil) (.node (o227_0 P) (.node (o355_0 P) .nil .nil) .nil))) (.node (o51_0 P) (.node (o83_0 P) (.node (o147_0 P) (.node (o275_0 P) .nil .nil) .nil) (.node (o211_0 P) (.node (o339_0 P) .nil .nil) .nil)) (.node (o115_0 P) (.node (o179_0 P) (.node (o307_0 P) .nil .nil) .nil) (.node (o243_0 P) (.node (o371_0 P) .nil .nil) .nil)))) (.node (o27_0 P) (.node (o43_0 P) (.node (o75_0 P) (.node (o139_0 P) (.node (o267_0 P) .nil .nil) (.node (o395_0 P) .nil .nil)) (.node (o203_0 P) (.node (o331_0 P) .nil .nil) .nil)) (.node (o107_0 P) (.node (o171_0 P) (.node (o299_0 P) .nil .nil) .nil) (.node (o235_0 P) (.node (o363_0 P) .nil .nil) .nil))) (.node (o59_0 P) (.node (o91_0 P) (.node (o155_0 P) (.node (o283_0 P) .nil .nil) .nil) (.node (o219_0 P) (.node (o347_0 P) .nil .nil) .nil)) (.node (o123_0 P) (.node (o187_0 P) (.node (o315_0 P) .nil .nil) .nil) (.node (o251_0 P) (.node (o379_0 P) .nil .nil) .nil)))))) (.node (boot_o_5 P) (.node (boot_o_9 P) (.node (o17_0 P) (.node (o33_0 P) (.node (o65_0 P) (.node (o129_0 P) (.node (o257_0 P) .nil .nil) (.node (o385_0 P) .nil .nil)) (.node (o193_0 P) (.node (o321_0 P) .nil .nil) .nil)) (.node (o97_0 P) (.node (o161_0 P) (.node (o289_0 P) .nil .nil) .nil) (.node (o225_0 P) (.node (o353_0 P) .nil .nil) .nil))) (.node (o49_0 P) (.node (o81_0 P) (.node (o145_0 P) (.node (o273_0 P) .nil .nil) (.node (o401_0 P) .nil .nil)) (.node (o209_0 P) (.node (o337_0 P) .nil .nil) .nil)) (.node (o113_0 P) (.node (o177_0 P) (.node (o305_0 P) .nil .nil) .nil) (.node (o241_0 P) (.node (o369_0 P) .nil .nil) .nil)))) (.node (o25_0 P) (.node (o41_0 P) (.node (o73_0 P) (.node (o137_0 P) (.node (o265_0 P) .nil .nil) (.node (o393_0 P) .nil .nil)) (.node (o201_0 P) (.node (o329_0 P) .nil .nil) .nil)) (.node (o105_0 P) (.node (o169_0 P) (.node (o297_0 P) .nil .nil) .nil) (.node (o233_0 P) (.node (o361_0 P) .nil .nil) .nil))) (.node (o57_0 P) (.node (o89_0 P) (.node (o153_0 P) (.node (o281_0 P) .nil .nil) .nil) (.node (o217_0 P) (.node (o345_0 P) .nil .nil) .nil)) (.node (o121_0 P) (.node (o185_0 P) (.node (o313_0 P) .nil .nil) .nil) (.node (o249_0 P) (.node (o377_0 P) .nil .nil) .nil))))) (.node (o13_0 P) (.node (o21_0 P) (.node (o37_0 P) (.node (o69_0 P) (.node (o133_0 P) (.node (o261_0 P) .nil .nil) (.node (o389_0 P) .nil .nil)) (.node (o197_0 P) (.node (o325_0 P) .nil .nil) .nil)) (.node (o101_0 P) (.node (o165_0 P) (.node (o293_0 P) .nil .nil) .nil) (.node (o229_0 P) (.node (o357_0 P) .nil .nil) .nil))) (.node (o53_0 P) (.node (o85_0 P) (.node (o149_0 P) (.node (o277_0 P) .nil .nil) .nil) (.node (o213_0 P) (.node (o341_0 P) .nil .nil) .nil)) (.node (o117_0 P) (.node (o181_0 P) (.node (o309_0 P) .nil .nil) .nil) (.node (o245_0 P) (.node (o373_0 P) .nil .nil) .nil)))) (.node (o29_0 P) (.node (o45_0 P) (.node (o77_0 P) (.node (o141_0 P) (.node (o269_0 P) .nil .nil) (.node (o397_0 P) .nil .nil)) (.node (o205_0 P) (.node (o333_0 P) .nil .nil) .nil)) (.node (o109_0 P) (.node (o173_0 P) (.node (o301_0 P) .nil .nil) .nil) (.node (o237_0 P) (.node (o365_0 P) .nil .nil) .nil))) (.node (o61_0 P) (.node (o93_0 P) (.node (o157_0 P) (.node (o285_0 P) .nil .nil) .nil) (.node (o221_0 P) (.node (o349_0 P) .nil .nil) .nil)) (.node (o125_0 P) (.node (o189_0 P) (.node (o317_0 P) .nil .nil) .nil) (.node (o253_0 P) (.node (o381_0 P) .nil .nil) .nil))))))) (.node (o2_0 P) (.node (boot_o_4 P) (.node (boot_o_8 P) (.node (o16_0 P) (.node (o32_0 P) (.node (o64_0 P) (.node (o128_0 P) (.node (o256_0 P) .nil .nil) (.node (o384_0 P) .nil .nil)) (.node (o192_0 P) (.node (o320_0 P) .nil .nil) .nil)) (.node (o96_0 P) (.node (o160_0 P) (.node (o288_0 P) .nil .nil) .nil) (.node (o224_0 P) (.node (o352_0 P) .nil .nil) .nil))) (.node (o48_0 P) (.node (o80_0 P) (.node (o144_0 P) (.node (o272_0 P) .nil .nil) (.node (o400_0 P) .nil .nil)) (.node (o208_0 P) (.node (o336_0 P) .nil .nil) .nil)) (.node (o112_0 P) (.node (o176_0 P) (.node (o304_0 P) .nil .nil) .nil) (.node (o240_0 P) (.node (o368_0 P) .nil .nil) .nil)))) (.node (o24_0 P) (.node (o40_0 P) (.node (o72_0 P) (.node (o136_0 P) (.node (o264_0 P) .nil .nil) (.node (o392_0 P) .nil .nil)) (.node (o200_0 P) (.node (o328_0 P) .nil .nil) .nil)) (.node (o104_0 P) (.node (o168_0 P) (.node (o296_0 P) .nil .nil) .nil) (.node (o232_0 P) (.node (o360_0 P) .nil .nil) .nil))) (.node (o56_0 P) (.node (o88_0 P) (.node (o152_0 P) (.node (o280_0 P) .nil .nil) .nil) (.node (o216_0 P) (.node (o344_0 P) .nil .nil) .nil)) (.node (o120_0 P) (.node (o184_0 P) (.node (o312_0 P) .nil .nil) .nil) (.node (o248_0 P) (.node (o376_0 P) .nil .nil) .nil))))) (.node (o12_11 P) (.node (o20_0 P) (.node (o36_0 P) (.node (o68_0 P) (.node (o132_0 P) (.node (o260_0 P) .nil .nil) (.node (o388_0 P) .nil .nil)) (.node (o196_0 P) (.node (o324_0 P) .nil .nil) .nil)) (.node (o100_0 P) (.node (o164_0 P) (.node (o292_0 P) .nil .nil) .nil) (.node (o228_0 P) (.node (o356_0 P) .nil .nil) .nil))) (.node (o52_0 P) (.node (o84_0 P) (.node (o148_0 P) (.node (o276_0 P) .nil .nil) .nil) (.node (o212_0 P) (.node (o340_0 P) .nil .nil) .nil)) (.node (o116_0 P) (.node (o180_0 P) (.node (o308_0 P) .nil .nil) .nil) (.node (o244_0 P) (.node (o372_0 P) .nil .nil) .nil)))) (.node (o28_0 P) (.node (o44_0 P) (.node (o76_0 P) (.node (o140_0 P) (.node (o268_0 P) .nil .nil) (.node (o396_0 P) .nil .nil)) (.node (o204_0 P) (.node (o332_0 P) .nil .nil) .nil)) (.node (o108_0 P) (.node (o172_0 P) (.node (o300_0 P) .nil .nil) .nil) (.node (o236_0 P) (.node (o364_0 P) .nil .nil) .nil))) (.node (o60_0 P) (.node (o92_0 P) (.node (o156_0 P) (.node (o284_0 P) .nil .nil) .nil) (.node (o220_0 P) (.node (o348_0 P) .nil .nil) .nil)) (.node (o124_0 P) (.node (o188_0 P) (.node (o316_0 P) .nil .nil) .nil) (.node (o252_0 P) (.node (o380_0 P) .nil .nil) .nil)))))) (.node (boot_o_6 P) (.node (boot_o_10 P) (.node (o18_0 P) (.node (o34_0 P) (.node (o66_0 P) (.node (o130_0 P) (.node (o258_0 P) .nil .nil) (.node (o386_0 P) .nil .nil)) (.node (o194_0 P) (.node (o322_0 P) .nil .nil) .nil)) (.node (o98_0 P) (.node (o162_0 P) (.node (o290_0 P) .nil .nil) .nil) (.node (o226_0 P) (.node (o354_0 P) .nil .nil) .nil))) (.node (o50_0 P) (.node (o82_0 P) (.node (o146_0 P) (.node (o274_0 P) .nil .nil) .nil) (.node (o210_0 P) (.node (o338_0 P) .nil .nil) .nil)) (.node (o114_0 P) (.node (o178_0 P) (.node (o306_0 P) .nil .nil) .nil) (.node (o242_0 P) (.node (o370_0 P) .nil .nil) .nil)))) (.node (o26_0 P) (.node (o42_0 P) (.node (o74_0 P) (.node (o138_0 P) (.node (o266_0 P) .nil .nil) (.node (o394_0 P) .nil .nil)) (.node (o202_0 P) (.node (o330_0 P) .nil .nil) .nil)) (.node (o106_0 P) (.node (o170_0 P) (.node (o298_0 P) .nil .nil) .nil) (.node (o234_0 P) (.node (o362_0 P) .nil .nil) .nil))) (.node (o58_0 P) (.node (o90_0 P) (.node (o154_0 P) (.node (o282_0 P) .nil .nil) .nil) (.node (o218_0 P) (.node (o346_0 P) .nil .nil) .nil)) (.node (o122_0 P) (.node (o186_0 P) (.node (o314_0 P) .nil .nil) .nil) (.node (o250_0 P) (.node (o378_0 P) .nil .nil) .nil))))) (.node (o14_0 P) (.node (o22_0 P) (.node (o38_0 P) (.node (o70_0 P) (.node (o134_0 P) (.node (o262_0 P) .nil .nil) (.node (o390_0 P) .nil .nil)) (.node (o198_0 P) (.node (o326_0 P) .nil .nil) .nil)) (.node (o102_0 P) (.node (o166_0 P) (.node (o294_0 P) .nil .nil) .nil) (.node (o230_0 P) (.node (o358_0 P) .nil .nil) .nil))) (.node (o54_0 P) (.node (o86_0 P) (.node (o150_0 P) (.node (o278_0 P) .nil .nil) .nil) (.node (o214_0 P) (.node (o342_0 P) .nil .nil) .nil)) (.node (o118_0 P) (.node (o182_0 P) (.node (o310_0 P) .nil .nil) .nil) (.node (o246_0 P) (.node (o374_0 P) .nil .nil) .nil)))) (.node (o30_0 P) (.node (o46_0 P) (.node (o78_0 P) (.node (o142_0 P) (.node (o270_0 P) .nil .nil) (.node (o398_0 P) .nil .nil)) (.node (o206_0 P) (.node (o334_0 P) .nil .nil) .nil)) (.node (o110_0 P) (.node (o174_0 P) (.node (o302_0 P) .nil .nil) .nil) (.node (o238_0 P) (.node (o366_0 P) .nil .nil) .nil))) (.node (o62_0 P) (.node (o94_0 P) (.node (o158_0 P) (.node (o286_0 P) .nil .nil) .nil) (.node (o222_0 P) (.node (o350_0 P) .nil .nil) .nil)) (.node (o126_0 P) (.node (o190_0 P) (.node (o318_0 P) .nil .nil) .nil) (.node (o254_0 P) (.node (o382_0 P) .nil .nil) .nil))))))))
noncomputable def S11 (w : World) (os : OsState) : SharedT := ⟨t11 w.params, 402, { }, #[], { }, 802, os⟩
noncomputable def o3_11 (P : Params) : Obj := ⟨(.type "dict"), .none, (.dict #[kk P "__name__" 165 (.str (.ofString "ledgerspeak.reader") 849), kk P "__doc__" 166 .none, kk P "__package__" 167 .none, kk P "__loader__" 168 (.builtin "__main__.__loader__#opaque"), kk P "__spec__" 169 .none, kk P "__annotations__" 170 (.ref 6), kk P "__builtins__" 171 (.ref 4), kk P "__file__" 173 (.str (.ofString "/claim/cut.py") 172), kk P "__cached__" 174 .none, kk P "_wall" 193 (.ref 21), kk P "LedgerError" 235 (.ref 47), kk P "TokenFault" 251 (.ref 60), kk P "DataFault" 267 (.ref 72), kk P "GrammarFault" 283 (.ref 84), kk P "FILLER" 287 (.str (.ofString "FILLER") 286), kk P "RENAMING" 289 (.int 66 288), kk P "ALONE" 291 (.int 77 290), kk P "Occurs" 335 (.ref 113), kk P "Named" 373 (.ref 141), kk P "Item" 451 (.ref 188), kk P "Data" 490 (.ref 214), kk P "MOST_SUBSCRIPTS" 494 (.int 7 493), kk P "FIGURE_NAMES" 528 (.ref 219), kk P "is_part_next" 537 (.ref 226), kk P "read_subscripts" 546 (.ref 233), kk P "read_part" 556 (.ref 240), kk P "read_ref" 568 (.ref 247), kk P "read_all" 576 (.ref 254), kk P "read_figure" 583 (.ref 261), kk P "read_operand" 592 (.ref 268), kk P "NAMING" 596 (.int 88 595), kk P "MOST_LEVEL" 598 (.int 49 597), kk P "MOST_NESTED" 600 (.int 20 599), kk P "USAGE_WORDS" 625 (.ref 269), kk P "no_expression" 632 (.ref 276), kk P "read_literal" 639 (.ref 283), kk P "read_occurs" 645 (.ref 288), kk P "read_sign" 654 (.ref 295), kk P "read_named_clause" 665 (.ref 302), kk P "clause_word" 673 (.ref 309), kk P "read_bare_clause" 683 (.ref 316), kk P "read_clauses" 694 (.ref 323), kk P "read_worths" 704 (.ref 330), kk P "read_renames" 713 (.ref 337), kk P "read_entry" 723 (.ref 344), kk P "is_level_here" 731 (.ref 351), kk P "put_beneath" 740 (.ref 358), kk P "nested" 753 (.ref 365), kk P "read_entries" 761 (.ref 372), kk P "read_file_entry" 773 (.ref 379), kk P "FIGURES" 777 (.str (.ofString "0123456789") 776), kk P "cut_quotient" 785 (.ref 386), kk P "decimal" 794 (.ref 394), kk P "negated" 801 (.ref 401), kk P "units_at" 812 (.ref 408), kk P "is_whole" 819 (.ref 415), kk P "whole_of" 826 (.ref 422), kk P "worth_of" 835 (.ref 429), kk P "read_decimal" 848 (.ref 436), kk P "MOST_OCTET" 852 (.int 255 851), kk P "RESERVED" 854 (.str (.ofString " ACCEPT ACCESS ADD ADVANCING AFTER ALL ALPHABETIC ALPHABETIC-LOWER ALPHABETIC-UPPER ALPHANUMERIC ALPHANUMERIC-EDITED ALSO ALTERNATE AND ANY ARE AREA AREAS ASCENDING ASSIGN AT AUTHOR BEFORE BINARY BLANK BLOCK BY CALL CHARACTER CHARACTERS CLOSE COMP COMP-3 COMPUTATIONAL COMPUTATIONAL-3 COMPUTE CONFIGURATION CONTAINS CONTENT CONTINUE CONVERTING COPY CORR CORRESPONDING COUNT DATA DATE-COMPILED DATE-WRITTEN DELETE DELIMITED DELIMITER DEPENDING DESCENDING DISPLAY DIVIDE DIVISION DOWN DUPLICATES DYNAMIC ELSE END END-ADD END-CALL END-COMPUTE END-DELETE END-DIVIDE END-EVALUATE END-IF END-MULTIPLY END-PERFORM END-READ END-RETURN END-REWRITE END-SEARCH END-START END-STRING END-SUBTRACT END-UNSTRING END-WRITE ENVIRONMENT EQUAL ERROR EVALUATE EXCEPTION EXIT EXTEND EXTERNAL FALSE FD FILE FILE-CONTROL FILLER FIRST FOR FROM GIVING GLOBAL GO GREATER HIGH-VALUE HIGH-VALUES I-O I-O-CONTROL IDENTIFICATION IF IN INDEX INDEXED INITIAL INITIALIZE INPUT INPUT-OUTPUT INSPECT INSTALLATION INTO INVALID IS JUST JUSTIFIED KEY LABEL LEADING LEFT LESS LINE LINES LINKAGE LOCK LOW-VALUE LOW-VALUES MERGE MODE MOVE MULTIPLY NATIVE NEGATIVE NEXT NO NOT NUMERIC NUMERIC-EDITED OBJECT-COMPUTER OCCURS OF OFF OMITTED ON OPEN OPTIONAL OR ORDER ORGANIZATION OTHER OUTPUT OVERFLOW PACKED-DECIMAL PERFORM PIC PICTURE POINTER POSITIVE PROCEDURE PROCEED PROGRAM PROGRAM-ID QUOTE QUOTES RANDOM READ RECORD RECORDS REDEFINES REFERENCE RELATIVE RELEASE REMAINDER RENAMES REPLACE REPLACING RETURN REWRITE RIGHT ROUNDED RUN SAME SD SEARCH SECTION SECURITY SELECT SENTENCE SEPARATE SEQUENTIAL SET SIGN SIZE SORT SORT-MERGE SOURCE-COMPUTER SPACE SPACES SPECIAL-NAMES STANDARD START STATUS STOP STRING SUBTRACT SYNC SYNCHRONIZED TALLYING TEST THAN THEN THROUGH THRU TIMES TO TRAILING TRUE UNSTRING UNTIL UP UPON USAGE USING VALUE VALUES VARYING WHEN WITH WORKING-STORAGE WRITE ZERO ZEROES ZEROS ") 853), kk P "is_reserved" 861 (.ref 443), kk P "octets_of_text" 867 (.ref 448)] 63), #[]⟩
noncomputable def o12_12 (P : Params) : Obj := ⟨.none, .none, (.fields #[(.int 1 0), (.int 0 0), (.ref 20), (.int 5 0), (.int 0 0), (.ref 27), (.int 14 0), (.int 0 0), (.ref 56), (.int 16 0), (.int 0 0), (.ref 68), (.int 18 0), (.int 0 0), (.ref 80), (.int 24 0), (.int 0 0), (.ref 92), (.int 35 0), (.int 0 0), (.ref 123), (.int 43 0), (.int 0 0), (.ref 151), (.int 81 0), (.int 0 0), (.ref 198), (.int 97 0), (.int 0 0), (.ref 225), (.int 110 0), (.int 0 0), (.ref 232), (.int 118 0), (.int 0 0), (.ref 239), (.int 125 0), (.int 0 0), (.ref 246), (.int 135 0), (.int 0 0), (.ref 253), (.int 142 0), (.int 0 0), (.ref 260), (.int 146 0), (.int 0 0), (.ref 267), (.int 160 0), (.int 0 0), (.ref 275), (.int 162 0), (.int 0 0), (.ref 282), (.int 166 0), (.int 0 0), (.ref 287), (.int 187 0), (.int 0 0), (.ref 294), (.int 192 0), (.int 0 0), (.ref 301), (.int 220 0), (.int 0 0), (.ref 308), (.int 230 0), (.int 0 0), (.ref 315), (.int 245 0), (.int 0 0), (.ref 322), (.int 258 0), (.int 0 0), (.ref 329), (.int 269 0), (.int 0 0), (.ref 336), (.int 275 0), (.int 0 0), (.ref 343), (.int 293 0), (.int 0 0), (.ref 350), (.int 296 0), (.int 0 0), (.ref 357), (.int 308 0), (.int 0 0), (.ref 364), (.int 331 0), (.int 0 0), (.ref 371), (.int 336 0), (.int 0 0), (.ref 378), (.int 351 0), (.int 0 0), (.ref 385), (.int 355 0), (.int 0 0), (.ref 393), (.int 362 0), (.int 0 0), (.ref 400), (.int 364 0), (.int 0 0), (.ref 407), (.int 372 0), (.int 0 0), (.ref 414), (.int 374 0), (.int 0 0), (.ref 421), (.int 376 0), (.int 0 0), (.ref 428), (.int 381 0), (.int 0 0), (.ref 435), (.int 399 0), (.int 0 0), (.ref 442), (.int 401 0), (.int 0 0), (.ref 447)]), #[]⟩
noncomputable def o402_0 (P : Params) : Obj := ⟨(.type "tuple"), .none, (.seq #[] 0), #[]⟩
noncomputable def o403_0 (P : Params) : Obj := ⟨.none, .none, (.fields #[]), #[]⟩
noncomputable def o404_0 (P : Params) : Obj := ⟨(.type "tuple"), .none, (.seq #[(.str (.ofString "a") 805), (.str (.ofString "scale") 806), (.str (.ofString "is_rounded") 807), (.str (.ofString "size") 808), (.str (.ofString "half") 809)] 0), #[]⟩
noncomputable def o405_0 (P : Params) : Obj := ⟨(.type "tuple"), .none, (.seq #[] 0), #[]⟩
noncomputable def o406_0 (P : Params) : Obj := ⟨.none, .none, (.func (fn (st 50) (.ofString "units_at") (.ofString "units_at") 0 [] .none .none .none .none .none .none .none 0)), #[]⟩
noncomputable def o407_0 (P : Params) : Obj := ⟨(.type "code"), .none, (.fields #[(.str (.ofString "units_at") 802), (.str (.ofString "units_at") 803), (.str (.ofString "/claim/cut.py") 804), (.int 364 0), (.int 3 0), (.int 0 0), (.int 0 0), (.int 3 0), (.ref 402), (.bool true), (.int 181 0), (.ref 403), .none, (.ref 404), (.ref 405), (.ref 406), (.int 810 0), (.int 364 0), (.str (.ofString "/claim/cut.py") 811)]), #[]⟩
noncomputable def o408_0 (P : Params) : Obj := ⟨(.type "function"), .none, (.func (fn (st 50) (.ofString "units_at") (.ofString "units_at") 3 [] .none .none .none (.str (.ofString "ledgerspeak.decimals") 774) .none (.ref 407) .none 0)), #[]⟩
noncomputable def o409_0 (P : Params) : Obj := ⟨(.type "tuple"), .none, (.seq #[] 0), #[]⟩
noncomputable def o410_0 (P : Params) : Obj := ⟨.none, .none, (.fields #[]), #[]⟩
noncomputable def o411_0 (P : Params) : Obj := ⟨(.type "tuple"), .none, (.seq #[(.str (.ofString "a") 816)] 0), #[]⟩
noncomputable def o412_0 (P : Params) : Obj := ⟨(.type "tuple"), .none, (.seq #[] 0), #[]⟩
noncomputable def o413_0 (P : Params) : Obj := ⟨.none, .none, (.func (fn (st 51) (.ofString "is_whole") (.ofString "is_whole") 0 [] .none .none .none .none .none .none .none 0)), #[]⟩
noncomputable def o414_0 (P : Params) : Obj := ⟨(.type "code"), .none, (.fields #[(.str (.ofString "is_whole") 813), (.str (.ofString "is_whole") 814), (.str (.ofString "/claim/cut.py") 815), (.int 372 0), (.int 1 0), (.int 0 0), (.int 0 0), (.int 3 0), (.ref 409), (.bool true), (.int 181 0), (.ref 410), .none, (.ref 411), (.ref 412), (.ref 413), (.int 817 0), (.int 372 0), (.str (.ofString "/claim/cut.py") 818)]), #[]⟩
noncomputable def o415_0 (P : Params) : Obj := ⟨(.type "function"), .none, (.func (fn (st 51) (.ofString "is_whole") (.ofString "is_whole") 3 [] .none .none .none (.str (.ofString "ledgerspeak.decimals") 774) .none (.ref 414) .none 0)), #[]⟩
noncomputable def o416_0 (P : Params) : Obj := ⟨(.type "tuple"), .none, (.seq #[] 0), #[]⟩
noncomputable def o417_0 (P : Params) : Obj := ⟨.none, .none, (.fields #[]), #[]⟩
noncomputable def o418_0 (P : Params) : Obj := ⟨(.type "tuple"), .none, (.seq #[(.str (.ofString "a") 823)] 0), #[]⟩
noncomputable def o419_0 (P : Params) : Obj := ⟨(.type "tuple"), .none, (.seq #[] 0), #[]⟩
noncomputable def o420_0 (P : Params) : Obj := ⟨.none, .none, (.func (fn (st 52) (.ofString "whole_of") (.ofString "whole_of") 0 [] .none .none .none .none .none .none .none 0)), #[]⟩
noncomputable def o421_0 (P : Params) : Obj := ⟨(.type "code"), .none, (.fields #[(.str (.ofString "whole_of") 820), (.str (.ofString "whole_of") 821), (.str (.ofString "/claim/cut.py") 822), (.int 374 0), (.int 1 0), (.int 0 0), (.int 0 0), (.int 3 0), (.ref 416), (.bool true), (.int 181 0), (.ref 417), .none, (.ref 418), (.ref 419), (.ref 420), (.int 824 0), (.int 374 0), (.str (.ofString "/claim/cut.py") 825)]), #[]⟩
noncomputable def o422_0 (P : Params) : Obj := ⟨(.type "function"), .none, (.func (fn (st 52) (.ofString "whole_of") (.ofString "whole_of") 3 [] .none .none .none (.str (.ofString "ledgerspeak.decimals") 774) .none (.ref 421) .none 0)), #[]⟩
noncomputable def o423_0 (P : Params) : Obj := ⟨(.type "tuple"), .none, (.seq #[] 0), #[]⟩
noncomputable def o424_0 (P : Params) : Obj := ⟨.none, .none, (.fields #[]), #[]⟩
noncomputable def o425_0 (P : Params) : Obj := ⟨(.type "tuple"), .none, (.seq #[(.str (.ofString "figures") 830), (.str (.ofString "number") 831), (.str (.ofString "figure") 832)] 0), #[]⟩
noncomputable def o426_0 (P : Params) : Obj := ⟨(.type "tuple"), .none, (.seq #[] 0), #[]⟩
noncomputable def o427_0 (P : Params) : Obj := ⟨.none, .none, (.func (fn (st 53) (.ofString "worth_of") (.ofString "worth_of") 0 [] .none .none .none .none .none .none .none 0)), #[]⟩
noncomputable def o428_0 (P : Params) : Obj := ⟨(.type "code"), .none, (.fields #[(.str (.ofString "worth_of") 827), (.str (.ofString "worth_of") 828), (.str (.ofString "/claim/cut.py") 829), (.int 376 0), (.int 1 0), (.int 0 0), (.int 0 0), (.int 3 0), (.ref 423), (.bool true), (.int 181 0), (.ref 424), .none, (.ref 425), (.ref 426), (.ref 427), (.int 833 0), (.int 376 0), (.str (.ofString "/claim/cut.py") 834)]), #[]⟩
noncomputable def o429_0 (P : Params) : Obj := ⟨(.type "function"), .none, (.func (fn (st 53) (.ofString "worth_of") (.ofString "worth_of") 3 [] .none .none .none (.str (.ofString "ledgerspeak.decimals") 774) .none (.ref 428) .none 0)), #[]⟩
noncomputable def o430_0 (P : Params) : Obj := ⟨(.type "tuple"), .none, (.seq #[] 0), #[]⟩
noncomputable def o431_0 (P : Params) : Obj := ⟨.none, .none, (.fields #[]), #[]⟩
noncomputable def o432_0 (P : Params) : Obj := ⟨(.type "tuple"), .none, (.seq #[(.str (.ofString "text") 839), (.str (.ofString "begin") 840), (.str (.ofString "ahead") 841), (.str (.ofString "behind") 842), (.str (.ofString "point") 843), (.str (.ofString "at") 844), (.str (.ofString "units") 845)] 0), #[]⟩
noncomputable def o433_0 (P : Params) : Obj := ⟨(.type "tuple"), .none, (.seq #[] 0), #[]⟩
noncomputable def o434_0 (P : Params) : Obj := ⟨.none, .none, (.func (fn (st 54) (.ofString "read_decimal") (.ofString "read_decimal") 0 [] .none .none .none .none .none .none .none 0)), #[]⟩
noncomputable def o435_0 (P : Params) : Obj := ⟨(.type "code"), .none, (.fields #[(.str (.ofString "read_decimal") 836), (.str (.ofString "read_decimal") 837), (.str (.ofString "/claim/cut.py") 838), (.int 381 0), (.int 1 0), (.int 0 0), (.int 0 0), (.int 3 0), (.ref 430), (.bool true), (.int 181 0), (.ref 431), .none, (.ref 432), (.ref 433), (.ref 434), (.int 846 0), (.int 381 0), (.str (.ofString "/claim/cut.py") 847)]), #[]⟩
noncomputable def o436_0 (P : Params) : Obj := ⟨(.type "function"), .none, (.func (fn (st 54) (.ofString "read_decimal") (.ofString "read_decimal") 3 [] .none .none .none (.str (.ofString "ledgerspeak.decimals") 774) .none (.ref 435) .none 0)), #[]⟩
noncomputable def o437_0 (P : Params) : Obj := ⟨(.type "tuple"), .none, (.seq #[] 0), #[]⟩
noncomputable def o438_0 (P : Params) : Obj := ⟨.none, .none, (.fields #[]), #[]⟩
noncomputable def o439_0 (P : Params) : Obj := ⟨(.type "tuple"), .none, (.seq #[(.str (.ofString "word") 858)] 0), #[]⟩
noncomputable def o440_0 (P : Params) : Obj := ⟨(.type "tuple"), .none, (.seq #[] 0), #[]⟩
noncomputable def o441_0 (P : Params) : Obj := ⟨.none, .none, (.func (fn (st 58) (.ofString "is_reserved") (.ofString "is_reserved") 0 [] .none .none .none .none .none .none .none 0)), #[]⟩
noncomputable def o442_0 (P : Params) : Obj := ⟨(.type "code"), .none, (.fields #[(.str (.ofString "is_reserved") 855), (.str (.ofString "is_reserved") 856), (.str (.ofString "/claim/cut.py") 857), (.int 399 0), (.int 1 0), (.int 0 0), (.int 0 0), (.int 3 0), (.ref 437), (.bool true), (.int 181 0), (.ref 438), .none, (.ref 439), (.ref 440), (.ref 441), (.int 859 0), (.int 399 0), (.str (.ofString "/claim/cut.py") 860)]), #[]⟩
noncomputable def o443_0 (P : Params) : Obj := ⟨(.type "function"), .none, (.func (fn (st 58) (.ofString "is_reserved") (.ofString "is_reserved") 3 [] .none .none .none (.str (.ofString "ledgerspeak.reader") 849) .none (.ref 442) .none 0)), #[]⟩
noncomputable def o444_0 (P : Params) : Obj := ⟨(.type "tuple"), .none, (.seq #[] 0), #[]⟩
noncomputable def o445_0 (P : Params) : Obj := ⟨.none, .none, (.fields #[]), #[]⟩
noncomputable def o446_0 (P : Params) : Obj := ⟨.none, .none, (.func (fn (st 59) (.ofString "octets_of_text") (.ofString "octets_of_text") 0 [] .none .none .none .none .none .none .none 0)), #[]⟩
noncomputable def o447_0 (P : Params) : Obj := ⟨(.type "code"), .none, (.fields #[(.str (.ofString "octets_of_text") 862), (.str (.ofString "octets_of_text") 863), (.str (.ofString "/claim/cut.py") 864), (.int 401 0), (.int 1 0), (.int 0 0), (.int 0 0), (.int 3 0), (.ref 444), (.bool true), (.int 181 0), (.ref 445), .none, .none, .none, (.ref 446), (.int 865 0), (.int 401 0), (.str (.ofString "/claim/cut.py") 866)]), #[]⟩
noncomputable def o448_0 (P : Params) : Obj := ⟨(.type "function"), .none, (.func (fn (st 59) (.ofString "octets_of_text") (.ofString "octets_of_text") 3 [] .none .none .none (.str (.ofString "ledgerspeak.reader") 849) .none (.ref 447) .none 0)), #[]⟩
noncomputable def t12 (P : Params) : BT := (.node (boot_o_0 P) (.node (boot_o_1 P) (.node (o3_11 P) (.node (boot_o_7 P) (.node (o15_0 P) (.node (o31_0 P) (.node (o63_0 P) (.node (o127_0 P) (.node (o255_0 P) .nil .nil) (.node (o383_0 P) .nil .nil)) (.node (o191_0 P) (.node (o319_0 P) .nil .nil) (.node (o447_0 P) .nil .nil))) (.node (o95_0 P) (.node (o159_0 P) (.node (o287_0 P) .nil .nil) (.node (o415_0 P) .nil .nil)) (.node (o223_0 P) (.node (o351_0 P) .nil .nil) .nil))) (.node (o47_3 P) (.node (o79_0 P) (.node (o143_0 P) (.node (o271_0 P) .nil .nil) (.node (o399_0 P) .nil .nil)) (.node (o207_0 P) (.node (o335_0 P) .nil .nil) .nil)) (.node (o111_0 P) (.node (o175_0 P) (.node (o303_0 P) .nil .nil) (.node (o431_0 P) .nil .nil)) (.node (o239_0 P) (.node (o367_0 P) .nil .nil) .nil)))) (.node (o23_0 P) (.node (o39_0 P) (.node (o71_0 P) (.node (o135_0 P) (.node (o263_0 P) .nil .nil) (.node (o391_0 P) .nil .nil)) (.node (o199_0 P) (.node (o327_0 P) .nil .nil) .nil)) (.node (o103_0 P) (.node (o167_0 P) (.node (o295_0 P) .nil .nil) (.node (o423_0 P) .nil .nil)) (.node (o231_0 P) (.node (o359_0 P) .nil .nil) .nil))) (.node (o55_0 P) (.node (o87_0 P) (.node (o151_0 P) (.node (o279_0 P) .nil .nil) (.node (o407_0 P) .nil .nil)) (.node (o215_0 P) (.node (o343_0 P) .nil .nil) .nil)) (.node (o119_0 P) (.node (o183_0 P) (.node (o311_0 P) .nil .nil) (.node (o439_0 P) .nil .nil)) (.node (o247_0 P) (.node (o375_0 P) .nil .nil) .nil))))) (.node (o11_0 P) (.node (o19_0 P) (.node (o35_0 P) (.node (o67_0 P) (.node (o131_0 P) (.node (o259_0 P) .nil .nil) (.node (o387_0 P) .nil .nil)) (.node (o195_0 P) (.node (o323_0 P) .nil .nil) .nil)) (.node (o99_0 P) (.node (o163_0 P) (.node (o291_0 P) .nil .nil) (.node (o419_0 P) .nil .nil)) (.node (o227_0 P) (.node (o355_0 P) .nil .nil) .nil))) (.node (o51_0 P) (.node (o83_0 P) (.node (o147_0 P) (.node (o275_0 P) .nil .nil) (.node (o403_0 P) .nil .nil)) (.node (o211_0 P) (.node (o339_0 P) .nil .nil) .nil)) (.node (o115_0 P) (.node (o179_0 P) (.node (o307_0 P) .nil .nil) (.node (o435_0 P) .nil .nil)) (.node (o243_0 P) (.node (o371_0 P) .nil .nil) .nil)))) (.node (o27_0 P) (.node (o43_0 P) (.node (o75_0 P) (.node (o139_0 P) (.node (o267_0 P) .nil .nil) (.node (o395_0 P) .nil .nil)) (.node (o203_0 P) (.node (o331_0 P) .nil .nil) .nil)) (.node (o107_0 P) (.node (o171_0 P) (.node (o299_0 P) .nil .nil) (.node (o427_0 P) .nil .nil)) (.node (o235_0 P) (.node (o363_0 P) .nil .nil) .nil))) (.node (o59_0 P) (.node (o91_0 P) (.node (o155_0 P) (.node (o283_0 P) .nil .nil) (.node (o411_0 P) .nil .nil)) (.node (o219_0 P) (.node (o347_0 P) .nil .nil) .nil)) (.node (o123_0 P) (.node (o187_0 P) (.node (o315_0 P) .nil .nil) (.node (o443_0 P) .nil .nil)) (.node (o251_0 P) (.node (o379_0 P) .nil .nil) .nil)))))) (.node (boot_o_5 P) (.node (boot_o_9 P) (.node (o17_0 P) (.node (o33_0 P) (.node (o65_0 P) (.node (o129_0 P) (.node (o257_0 P) .nil .nil) (.node (o385_0 P) .nil .nil)) (.node (o193_0 P) (.node (o321_0 P) .nil .nil) .nil)) (.node (o97_0 P) (.node (o161_0 P) (.node (o289_0 P) .nil .nil) (.node (o417_0 P) .nil .nil)) (.node (o225_0 P) (.node (o353_0 P) .nil .nil) .nil))) (.node (o49_0 P) (.node (o81_0 P) (.node (o145_0 P) (.node (o273_0 P) .nil .nil) (.node (o401_0 P) .nil .nil)) (.node (o209_0 P) (.node (o337_0 P) .nil .nil) .nil)) (.node (o113_0 P) (.node (o177_0 P) (.node (o305_0 P) .nil .nil) (.node (o433_0 P) .nil .nil)) (.node (o241_0 P) (.node (o369_0 P) .nil .nil) .nil)))) (.node (o25_0 P) (.node (o41_0 P) (.node (o73_0 P) (.node (o137_0 P) (.node (o265_0 P) .nil .nil) (.node (o393_0 P) .nil .nil)) (.node (o201_0 P) (.node (o329_0 P) .nil .nil) .nil)) (.node (o105_0 P) (.node (o169_0 P) (.node (o297_0 P) .nil .nil) (.node (o425_0 P) .nil .nil)) (.node (o233_0 P) (.node (o361_0 P) .nil .nil) .nil))) (.node (o57_0 P) (.node (o89_0 P) (.node (o153_0 P) (.node (o281_0 P) .nil .nil) (.node (o409_0 P) .nil .nil)) (.node (o217_0 P) (.node (o345_0 P) .nil .nil) .nil)) (.node (o121_0 P) (.node (o185_0 P) (.node (o313_0 P) .nil .nil) (.node (o441_0 P) .nil .nil)) (.node (o249_0 P) (.node (o377_0 P) .nil .nil) .nil))))) (.node (o13_0 P) (.node (o21_0 P) (.node (o37_0 P) (.node (o69_0 P) (.node (o133_0 P) (.node (o261_0 P) .nil .nil) (.node (o389_0 P) .nil .nil)) (.node (o197_0 P) (.node (o325_0 P) .nil .nil) .nil)) (.node (o101_0 P) (.node (o165_0 P) (.node (o293_0 P) .nil .nil) (.node (o421_0 P) .nil .nil)) (.node (o229_0 P) (.node (o357_0 P) .nil .nil) .nil))) (.node (o53_0 P) (.node (o85_0 P) (.node (o149_0 P) (.node (o277_0 P) .nil .nil) (.node (o405_0 P) .nil .nil)) (.node (o213_0 P) (.node (o341_0 P) .nil .nil) .nil)) (.node (o117_0 P) (.node (o181_0 P) (.node (o309_0 P) .nil .nil) (.node (o437_0 P) .nil .nil)) (.node (o245_0 P) (.node (o373_0 P) .nil .nil) .nil)))) (.node (o29_0 P) (.node (o45_0 P) (.node (o77_0 P) (.node (o141_0 P) (.node (o269_0 P) .nil .nil) (.node (o397_0 P) .nil .nil)) (.node (o205_0 P) (.node (o333_0 P) .nil .nil) .nil)) (.node (o109_0 P) (.node (o173_0 P) (.node (o301_0 P) .nil .nil) (.node (o429_0 P) .nil .nil)) (.node (o237_0 P) (.node (o365_0 P) .nil .nil) .nil))) (.node (o61_0 P) (.node (o93_0 P) (.node (o157_0 P) (.node (o285_0 P) .nil .nil) (.node (o413_0 P) .nil .nil)) (.node (o221_0 P) (.node (o349_0 P) .nil .nil) .nil)) (.node (o125_0 P) (.node (o189_0 P) (.node (o317_0 P) .nil .nil) (.node (o445_0 P) .nil .nil)) (.node (o253_0 P) (.node (o381_0 P) .nil .nil) .nil))))))) (.node (o2_0 P) (.node (boot_o_4 P) (.node (boot_o_8 P) (.node (o16_0 P) (.node (o32_0 P) (.node (o64_0 P) (.node (o128_0 P) (.node (o256_0 P) .nil .nil) (.node (o384_0 P) .nil .nil)) (.node (o192_0 P) (.node (o320_0 P) .nil .nil) (.node (o448_0 P) .nil .nil))) (.node (o96_0 P) (.node (o160_0 P) (.node (o288_0 P) .nil .nil) (.node (o416_0 P) .nil .nil)) (.node (o224_0 P) (.node (o352_0 P) .nil .nil) .nil))) (.node (o48_0 P) (.node (o80_0 P) (.node (o144_0 P) (.node (o272_0 P) .nil .nil) (.node (o400_0 P) .nil .nil)) (.node (o208_0 P) (.node (o336_0 P) .nil .nil) .nil)) (.node (o112_0 P) (.node (o176_0 P) (.node (o304_0 P) .nil .nil) (.node (o432_0 P) .nil .nil)) (.node (o240_0 P) (.node (o368_0 P) .nil .nil) .nil)))) (.node (o24_0 P) (.node (o40_0 P) (.node (o72_0 P) (.node (o136_0 P) (.node (o264_0 P) .nil .nil) (.node (o392_0 P) .nil .nil)) (.node (o200_0 P) (.node (o328_0 P) .nil .nil) .nil)) (.node (o104_0 P) (.node (o168_0 P) (.node (o296_0 P) .nil .nil) (.node (o424_0 P) .nil .nil)) (.node (o232_0 P) (.node (o360_0 P) .nil .nil) .nil))) (.node (o56_0 P) (.node (o88_0 P) (.node (o152_0 P) (.node (o280_0 P) .nil .nil) (.node (o408_0 P) .nil .nil)) (.node (o216_0 P) (.node (o344_0 P) .nil .nil) .nil)) (.node (o120_0 P) (.node (o184_0 P) (.node (o312_0 P) .nil .nil) (.node (o440_0 P) .nil .nil)) (.node (o248_0 P) (.node (o376_0 P) .nil .nil) .nil))))) (.node (o12_12 P) (.node (o20_0 P) (.node (o36_0 P) (.node (o68_0 P) (.node (o132_0 P) (.node (o260_0 P) .nil .nil) (.node (o388_0 P) .nil .nil)) (.node (o196_0 P) (.node (o324_0 P) .nil .nil) .nil)) (.node (o100_0 P) (.node (o164_0 P) (.node (o292_0 P) .nil .nil) (.node (o420_0 P) .nil .nil)) (.node (o228_0 P) (.node (o356_0 P) .nil .nil) .nil))) (.node (o52_0 P) (.node (o84_0 P) (.node (o148_0 P) (.node (o276_0 P) .nil .nil) (.node (o404_0 P) .nil .nil)) (.node (o212_0 P) (.node (o340_0 P) .nil .nil) .nil)) (.node (o116_0 P) (.node (o180_0 P) (.node (o308_0 P) .nil .nil) (.node (o436_0 P) .nil .nil)) (.node (o244_0 P) (.node (o372_0 P) .nil .nil) .nil)))) (.node (o28_0 P) (.node (o44_0 P) (.node (o76_0 P) (.node (o140_0 P) (.node (o268_0 P) .nil .nil) (.node (o396_0 P) .nil .nil)) (.node (o204_0 P) (.node (o332_0 P) .nil .nil) .nil)) (.node (o108_0 P) (.node (o172_0 P) (.node (o300_0 P) .nil .nil) (.node (o428_0 P) .nil .nil)) (.node (o236_0 P) (.node (o364_0 P) .nil .nil) .nil))) (.node (o60_0 P) (.node (o92_0 P) (.node (o156_0 P) (.node (o284_0 P) .nil .nil) (.node (o412_0 P) .nil .nil)) (.node (o220_0 P) (.node (o348_0 P) .nil .nil) .nil)) (.node (o124_0 P) (.node (o188_0 P) (.node (o316_0 P) .nil .nil) (.node (o444_0 P) .nil .nil)) (.node (o252_0 P) (.node (o380_0 P) .nil .nil) .nil)))))) (.node (boot_o_6 P) (.node (boot_o_10 P) (.node (o18_0 P) (.node (o34_0 P) (.node (o66_0 P) (.node (o130_0 P) (.node (o258_0 P) .nil .nil) (.node (o386_0 P) .nil .nil)) (.node (o194_0 P) (.node (o322_0 P) .nil .nil) .nil)) (.node (o98_0 P) (.node (o162_0 P) (.node (o290_0 P) .nil .nil) (.node (o418_0 P) .nil .nil)) (.node (o226_0 P) (.node (o354_0 P) .nil .nil) .nil))) (.node (o50_0 P) (.node (o82_0 P) (.node (o146_0 P) (.node (o274_0 P) .nil .nil) (.node (o402_0 P) .nil .nil)) (.node (o210_0 P) (.node (o338_0 P) .nil .nil) .nil)) (.node (o114_0 P) (.node (o178_0 P) (.node (o306_0 P) .nil .nil) (.node (o434_0 P) .nil .nil)) (.node (o242_0 P) (.node (o370_0 P) .nil .nil) .nil)))) (.node (o26_0 P) (.node (o42_0 P) (.node (o74_0 P) (.node (o138_0 P) (.node (o266_0 P) .nil .nil) (.node (o394_0 P) .nil .nil)) (.node (o202_0 P) (.node (o330_0 P) .nil .nil) .nil)) (.node (o106_0 P) (.node (o170_0 P) (.node (o298_0 P) .nil .nil) (.node (o426_0 P) .nil .nil)) (.node (o234_0 P) (.node (o362_0 P) .nil .nil) .nil))) (.node (o58_0 P) (.node (o90_0 P) (.node (o154_0 P) (.node (o282_0 P) .nil .nil) (.node (o410_0 P) .nil .nil)) (.node (o218_0 P) (.node (o346_0 P) .nil .nil) .nil)) (.node (o122_0 P) (.node (o186_0 P) (.node (o314_0 P) .nil .nil) (.node (o442_0 P) .nil .nil)) (.node (o250_0 P) (.node (o378_0 P) .nil .nil) .nil))))) (.node (o14_0 P) (.node (o22_0 P) (.node (o38_0 P) (.node (o70_0 P) (.node (o134_0 P) (.node (o262_0 P) .nil .nil) (.node (o390_0 P) .nil .nil)) (.node (o198_0 P) (.node (o326_0 P) .nil .nil) .nil)) (.node (o102_0 P) (.node (o166_0 P) (.node (o294_0 P) .nil .nil) (.node (o422_0 P) .nil .nil)) (.node (o230_0 P) (.node (o358_0 P) .nil .nil) .nil))) (.node (o54_0 P) (.node (o86_0 P) (.node (o150_0 P) (.node (o278_0 P) .nil .nil) (.node (o406_0 P) .nil .nil)) (.node (o214_0 P) (.node (o342_0 P) .nil .nil) .nil)) (.node (o118_0 P) (.node (o182_0 P) (.node (o310_0 P) .nil .nil) (.node (o438_0 P) .nil .nil)) (.node (o246_0 P) (.node (o374_0 P) .nil .nil) .nil)))) (.node (o30_0 P) (.node (o46_0 P) (.node (o78_0 P) (.node (o142_0 P) (.node (o270_0 P) .nil .nil) (.node (o398_0 P) .nil .nil)) (.node (o206_0 P) (.node (o334_0 P) .nil .nil) .nil)) (.node (o110_0 P) (.node (o174_0 P) (.node (o302_0 P) .nil .nil) (.node (o430_0 P) .nil .nil)) (.node (o238_0 P) (.node (o366_0 P) .nil .nil) .nil))) (.node (o62_0 P) (.node (o94_0 P) (.node (o158_0 P) (.node (o286_0 P) .nil .nil) (.node (o414_0 P) .nil .nil)) (.node (o222_0 P) (.node (o350_0 P) .nil .nil) .nil)) (.node (o126_0 P) (.node (o190_0 P) (.node (o318_0 P) .nil .nil) (.node (o446_0 P) .nil .nil)) (.node (o254_0 P) (.node (o382_0 P) .nil .nil) .nil))))))))
noncomputable def S12 (w : World) (os : OsState) : SharedT := ⟨t12 w.params, 449, { }, #[], { }, 868, os⟩
noncomputable def o3_12 (P : Params) : Obj := ⟨(.type "dict"), .none, (.dict #[kk P "__name__" 165 (.str (.ofString "ledgerspeak.reader") 849), kk P "__doc__" 166 .none, kk P "__package__" 167 .none, kk P "__loader__" 168 (.builtin "__main__.__loader__#opaque"), kk P "__spec__" 169 .none, kk P "__annotations__" 170 (.ref 6), kk P "__builtins__" 171 (.ref 4), kk P "__file__" 173 (.str (.ofString "/claim/cut.py") 172), kk P "__cached__" 174 .none, kk P "_wall" 193 (.ref 21), kk P "LedgerError" 235 (.ref 47), kk P "TokenFault" 251 (.ref 60), kk P "DataFault" 267 (.ref 72), kk P "GrammarFault" 283 (.ref 84), kk P "FILLER" 287 (.str (.ofString "FILLER") 286), kk P "RENAMING" 289 (.int 66 288), kk P "ALONE" 291 (.int 77 290), kk P "Occurs" 335 (.ref 113), kk P "Named" 373 (.ref 141), kk P "Item" 451 (.ref 188), kk P "Data" 490 (.ref 214), kk P "MOST_SUBSCRIPTS" 494 (.int 7 493), kk P "FIGURE_NAMES" 528 (.ref 219), kk P "is_part_next" 537 (.ref 226), kk P "read_subscripts" 546 (.ref 233), kk P "read_part" 556 (.ref 240), kk P "read_ref" 568 (.ref 247), kk P "read_all" 576 (.ref 254), kk P "read_figure" 583 (.ref 261), kk P "read_operand" 592 (.ref 268), kk P "NAMING" 596 (.int 88 595), kk P "MOST_LEVEL" 598 (.int 49 597), kk P "MOST_NESTED" 600 (.int 20 599), kk P "USAGE_WORDS" 625 (.ref 269), kk P "no_expression" 632 (.ref 276), kk P "read_literal" 639 (.ref 283), kk P "read_occurs" 645 (.ref 288), kk P "read_sign" 654 (.ref 295), kk P "read_named_clause" 665 (.ref 302), kk P "clause_word" 673 (.ref 309), kk P "read_bare_clause" 683 (.ref 316), kk P "read_clauses" 694 (.ref 323), kk P "read_worths" 704 (.ref 330), kk P "read_renames" 713 (.ref 337), kk P "read_entry" 723 (.ref 344), kk P "is_level_here" 731 (.ref 351), kk P "put_beneath" 740 (.ref 358), kk P "nested" 753 (.ref 365), kk P "read_entries" 761 (.ref 372), kk P "read_file_entry" 773 (.ref 379), kk P "FIGURES" 777 (.str (.ofString "0123456789") 776), kk P "cut_quotient" 785 (.ref 386), kk P "decimal" 794 (.ref 394), kk P "negated" 801 (.ref 401), kk P "units_at" 812 (.ref 408), kk P "is_whole" 819 (.ref 415), kk P "whole_of" 826 (.ref 422), kk P "worth_of" 835 (.ref 429), kk P "read_decimal" 848 (.ref 436), kk P "MOST_OCTET" 852 (.int 255 851), kk P "RESERVED" 854 (.str (.ofString " ACCEPT ACCESS ADD ADVANCING AFTER ALL ALPHABETIC ALPHABETIC-LOWER ALPHABETIC-UPPER ALPHANUMERIC ALPHANUMERIC-EDITED ALSO ALTERNATE AND ANY ARE AREA AREAS ASCENDING ASSIGN AT AUTHOR BEFORE BINARY BLANK BLOCK BY CALL CHARACTER CHARACTERS CLOSE COMP COMP-3 COMPUTATIONAL COMPUTATIONAL-3 COMPUTE CONFIGURATION CONTAINS CONTENT CONTINUE CONVERTING COPY CORR CORRESPONDING COUNT DATA DATE-COMPILED DATE-WRITTEN DELETE DELIMITED DELIMITER DEPENDING DESCENDING DISPLAY DIVIDE DIVISION DOWN DUPLICATES DYNAMIC ELSE END END-ADD END-CALL END-COMPUTE END-DELETE END-DIVIDE END-EVALUATE END-IF END-MULTIPLY END-PERFORM END-READ END-RETURN END-REWRITE END-SEARCH END-START END-STRING END-SUBTRACT END-UNSTRING END-WRITE ENVIRONMENT EQUAL ERROR EVALUATE EXCEPTION EXIT EXTEND EXTERNAL FALSE FD FILE FILE-CONTROL FILLER FIRST FOR FROM GIVING GLOBAL GO GREATER HIGH-VALUE HIGH-VALUES I-O I-O-CONTROL IDENTIFICATION IF IN INDEX INDEXED INITIAL INITIALIZE INPUT INPUT-OUTPUT INSPECT INSTALLATION INTO INVALID IS JUST JUSTIFIED KEY LABEL LEADING LEFT LESS LINE LINES LINKAGE LOCK LOW-VALUE LOW-VALUES MERGE MODE MOVE MULTIPLY NATIVE NEGATIVE NEXT NO NOT NUMERIC NUMERIC-EDITED OBJECT-COMPUTER OCCURS OF OFF OMITTED ON OPEN OPTIONAL OR ORDER ORGANIZATION OTHER OUTPUT OVERFLOW PACKED-DECIMAL PERFORM PIC PICTURE POINTER POSITIVE PROCEDURE PROCEED PROGRAM PROGRAM-ID QUOTE QUOTES RANDOM READ RECORD RECORDS REDEFINES REFERENCE RELATIVE RELEASE REMAINDER RENAMES REPLACE REPLACING RETURN REWRITE RIGHT ROUNDED RUN SAME SD SEARCH SECTION SECURITY SELECT SENTENCE SEPARATE SEQUENTIAL SET SIGN SIZE SORT SORT-MERGE SOURCE-COMPUTER SPACE SPACES SPECIAL-NAMES STANDARD START STATUS STOP STRING SUBTRACT SYNC SYNCHRONIZED TALLYING TEST THAN THEN THROUGH THRU TIMES TO TRAILING TRUE UNSTRING UNTIL UP UPON USAGE USING VALUE VALUES VARYING WHEN WITH WORKING-STORAGE WRITE ZERO ZEROES ZEROS ") 853), kk P "is_reserved" 861 (.ref 443), kk P "octets_of_text" 867 (.ref 448), kk P "Reader" 1074 (.ref 617)] 64), #[]⟩
noncomputable def o12_13 (P : Params) : Obj := ⟨.none, .none, (.fields #[(.int 1 0), (.int 0 0), (.ref 20), (.int 5 0), (.int 0 0), (.ref 27), (.int 14 0), (.int 0 0), (.ref 56), (.int 16 0), (.int 0 0), (.ref 68), (.int 18 0), (.int 0 0), (.ref 80), (.int 24 0), (.int 0 0), (.ref 92), (.int 35 0), (.int 0 0), (.ref 123), (.int 43 0), (.int 0 0), (.ref 151), (.int 81 0), (.int 0 0), (.ref 198), (.int 97 0), (.int 0 0), (.ref 225), (.int 110 0), (.int 0 0), (.ref 232), (.int 118 0), (.int 0 0), (.ref 239), (.int 125 0), (.int 0 0), (.ref 246), (.int 135 0), (.int 0 0), (.ref 253), (.int 142 0), (.int 0 0), (.ref 260), (.int 146 0), (.int 0 0), (.ref 267), (.int 160 0), (.int 0 0), (.ref 275), (.int 162 0), (.int 0 0), (.ref 282), (.int 166 0), (.int 0 0), (.ref 287), (.int 187 0), (.int 0 0), (.ref 294), (.int 192 0), (.int 0 0), (.ref 301), (.int 220 0), (.int 0 0), (.ref 308), (.int 230 0), (.int 0 0), (.ref 315), (.int 245 0), (.int 0 0), (.ref 322), (.int 258 0), (.int 0 0), (.ref 329), (.int 269 0), (.int 0 0), (.ref 336), (.int 275 0), (.int 0 0), (.ref 343), (.int 293 0), (.int 0 0), (.ref 350), (.int 296 0), (.int 0 0), (.ref 357), (.int 308 0), (.int 0 0), (.ref 364), (.int 331 0), (.int 0 0), (.ref 371), (.int 336 0), (.int 0 0), (.ref 378), (.int 351 0), (.int 0 0), (.ref 385), (.int 355 0), (.int 0 0), (.ref 393), (.int 362 0), (.int 0 0), (.ref 400), (.int 364 0), (.int 0 0), (.ref 407), (.int 372 0), (.int 0 0), (.ref 414), (.int 374 0), (.int 0 0), (.ref 421), (.int 376 0), (.int 0 0), (.ref 428), (.int 381 0), (.int 0 0), (.ref 435), (.int 399 0), (.int 0 0), (.ref 442), (.int 401 0), (.int 0 0), (.ref 447), (.int 406 0), (.int 0 0), (.ref 454)]), #[]⟩
noncomputable def o449_0 (P : Params) : Obj := ⟨(.type "tuple"), .none, (.seq #[] 0), #[]⟩
noncomputable def o450_0 (P : Params) : Obj := ⟨(.type "builtin_function_or_method"), .none, (.fields #[(.builtin "type.__prepare__"), (.type "type")]), #[]⟩
noncomputable def o451_0 (P : Params) : Obj := ⟨(.type "dict"), .none, (.dict #[kk P "__module__" 875 (.str (.ofString "ledgerspeak.reader") 849), kk P "__qualname__" 877 (.str (.ofString "Reader") 876), kk P "__firstlineno__" 879 (.int 406 878), kk P "__init__" 889 (.ref 463), kk P "peek" 898 (.ref 471), kk P "is_done" 905 (.ref 478), kk P "fault" 913 (.ref 485), kk P "take" 921 (.ref 492), kk P "is_kind" 932 (.ref 500), kk P "is_word" 942 (.ref 507), kk P "skip" 950 (.ref 514), kk P "need" 958 (.ref 521), kk P "one_of" 967 (.ref 528), kk P "word" 974 (.ref 535), kk P "is_name" 983 (.ref 543), kk P "name" 990 (.ref 550), kk P "names" 998 (.ref 557), kk P "is_sign" 1008 (.ref 565), kk P "skip_sign" 1016 (.ref 572), kk P "need_sign" 1024 (.ref 579), kk P "is_number" 1031 (.ref 586), kk P "signed" 1040 (.ref 593), kk P "whole" 1048 (.ref 600), kk P "literal" 1055 (.ref 607), kk P "octets" 1063 (.ref 614), kk P "__static_attributes__" 1067 (.ref 615)] 26), #[]⟩
noncomputable def o452_0 (P : Params) : Obj := ⟨(.type "tuple"), .none, (.seq #[] 0), #[]⟩
noncomputable def o453_0 (P : Params) : Obj := ⟨.none, .none, (.fields #[(.int 408 0), (.int 4 0), (.ref 462), (.int 413 0), (.int 4 0), (.ref 470), (.int 418 0), (.int 4 0), (.ref 477), (.int 421 0), (.int 4 0), (.ref 484), (.int 426 0), (.int 4 0), (.ref 491), (.int 433 0), (.int 4 0), (.ref 499), (.int 437 0), (.int 4 0), (.ref 506), (.int 445 0), (.int 4 0), (.ref 513), (.int 451 0), (.int 4 0), (.ref 520), (.int 455 0), (.int 4 0), (.ref 527), (.int 461 0), (.int 4 0), (.ref 534), (.int 466 0), (.int 4 0), (.ref 542), (.int 469 0), (.int 4 0), (.ref 549), (.int 474 0), (.int 4 0), (.ref 556), (.int 480 0), (.int 4 0), (.ref 564), (.int 483 0), (.int 4 0), (.ref 571), (.int 489 0), (.int 4 0), (.ref 578), (.int 493 0), (.int 4 0), (.ref 585), (.int 498 0), (.int 4 0), (.ref 592), (.int 507 0), (.int 4 0), (.ref 599), (.int 516 0), (.int 4 0), (.ref 606), (.int 521 0), (.int 4 0), (.ref 613)]), #[]⟩
noncomputable def o454_0 (P : Params) : Obj := ⟨(.type "code"), .none, (.fields #[(.str (.ofString "Reader") 870), (.str (.ofString "Reader") 871), (.str (.ofString "/claim/cut.py") 872), (.int 406 0), (.int 0 0), (.int 0 0), (.int 0 0), (.int 0 0), (.ref 452), (.bool false), (.int 181 0), (.ref 453), .none, .none, .none, .none, (.int 873 0), (.int 406 0), (.str (.ofString "/claim/cut.py") 874)]), #[]⟩
noncomputable def o455_0 (P : Params) : Obj := ⟨(.type "frame"), .none, .plain, #[(.some (.ref 454)), (.some (.ref 3)), (.some (.ref 451)), .none, (.some (.str (.ofString "ledgerspeak.reader") 849)), .none, (.some (.ref 0))]⟩
noncomputable def o456_0 (P : Params) : Obj := ⟨(.type "tuple"), .none, (.seq #[(.int 0 880)] 0), #[]⟩
noncomputable def o457_0 (P : Params) : Obj := ⟨(.type "tuple"), .none, (.seq #[] 0), #[]⟩
noncomputable def o458_0 (P : Params) : Obj := ⟨.none, .none, (.fields #[]), #[]⟩
noncomputable def o459_0 (P : Params) : Obj := ⟨(.type "tuple"), .none, (.seq #[(.str (.ofString "self") 884), (.str (.ofString "tokens") 885), (.str (.ofString "at") 886)] 0), #[]⟩
noncomputable def o460_0 (P : Params) : Obj := ⟨(.type "tuple"), .none, (.seq #[] 0), #[]⟩
noncomputable def o461_0 (P : Params) : Obj := ⟨.none, .none, (.func (fn (sm 60 0) (.ofString "__init__") (.ofString "Reader.__init__") 0 [] .none .none .none .none .none .none .none 0)), #[]⟩
noncomputable def o462_0 (P : Params) : Obj := ⟨(.type "code"), .none, (.fields #[(.str (.ofString "__init__") 881), (.str (.ofString "Reader.__init__") 882), (.str (.ofString "/claim/cut.py") 883), (.int 408 0), (.int 3 0), (.int 0 0), (.int 0 0), (.int 3 0), (.ref 457), (.bool true), (.int 181 0), (.ref 458), .none, (.ref 459), (.ref 460), (.ref 461), (.int 887 0), (.int 408 0), (.str (.ofString "/claim/cut.py") 888)]), #[]⟩
noncomputable def o463_0 (P : Params) : Obj := ⟨(.type "function"), .none, (.func (fn (sm 60 0) (.ofString "__init__") (.ofString "Reader.__init__") 3 [] (.ref 456) .none .none (.str (.ofString "ledgerspeak.reader") 849) .none (.ref 462) .none 0)), #[]⟩
noncomputable def o464_0 (P : Params) : Obj := ⟨(.type "tuple"), .none, (.seq #[(.int 0 890)] 0), #[]⟩
noncomputable def o465_0 (P : Params) : Obj := ⟨(.type "tuple"), .none, (.seq #[] 0), #[]⟩
noncomputable def o466_0 (P : Params) : Obj := ⟨.none, .none, (.fields #[]), #[]⟩
noncomputable def o467_0 (P : Params) : Obj := ⟨(.type "tuple"), .none, (.seq #[(.str (.ofString "self") 894), (.str (.ofString "ahead") 895)] 0), #[]⟩
noncomputable def o468_0 (P : Params) : Obj := ⟨(.type "tuple"), .none, (.seq #[] 0), #[]⟩
noncomputable def o469_0 (P : Params) : Obj := ⟨.none, .none, (.func (fn (sm 60 1) (.ofString "peek") (.ofString "Reader.peek") 0 [] .none .none .none .none .none .none .none 0)), #[]⟩
noncomputable def o470_0 (P : Params) : Obj := ⟨(.type "code"), .none, (.fields #[(.str (.ofString "peek") 891), (.str (.ofString "Reader.peek") 892), (.str (.ofString "/claim/cut.py") 893), (.int 413 0), (.int 2 0), (.int 0 0), (.int 0 0), (.int 3 0), (.ref 465), (.bool true), (.int 181 0), (.ref 466), .none, (.ref 467), (.ref 468), (.ref 469), (.int 896 0), (.int 413 0), (.str (.ofString "/claim/cut.py") 897)]), #[]⟩
noncomputable def o471_0 (P : Params) : Obj := ⟨(.type "function"), .none, (.func (fn (sm 60 1) (.ofString "peek") (.ofString "Reader.peek") 3 [] (.ref 464) .none .none (.str (.ofString "ledgerspeak.reader") 849) .none (.ref 470) .none 0)), #[]⟩
noncomputable def o472_0 (P : Params) : Obj := ⟨(.type "tuple"), .none, (.seq #[] 0), #[]⟩
noncomputable def o473_0 (P : Params) : Obj := ⟨.none, .none, (.fields #[]), #[]⟩
noncomputable def o474_0 (P : Params) : Obj := ⟨(.type "tuple"), .none, (.seq #[(.str (.ofString "self") 902)] 0), #[]⟩
noncomputable def o475_0 (P : Params) : Obj := ⟨(.type "tuple"), .none, (.seq #[] 0), #[]⟩
noncomputable def o476_0 (P : Params) : Obj := ⟨.none, .none, (.func (fn (sm 60 2) (.ofString "is_done") (.ofString "Reader.is_done") 0 [] .none .none .none .none .none .none .none 0)), #[]⟩
noncomputable def o477_0 (P : Params) : Obj := ⟨(.type "code"), .none, (.fields #[(.str (.ofString "is_done") 899), (.str (.ofString "Reader.is_done") 900), (.str (.ofString "/claim/cut.py") 901), (.int 418 0), (.int 1 0), (.int 0 0), (.int 0 0), (.int 3 0), (.ref 472), (.bool true), (.int 181 0), (.ref 473), .none, (.ref 474), (.ref 475), (.ref 476), (.int 903 0), (.int 418 0), (.str (.ofString "/claim/cut.py") 904)]), #[]⟩
noncomputable def o478_0 (P : Params) : Obj := ⟨(.type "function"), .none, (.func (fn (sm 60 2) (.ofString "is_done") (.ofString "Reader.is_done") 3 [] .none .none .none (.str (.ofString "ledgerspeak.reader") 849) .none (.ref 477) .none 0)), #[]⟩
noncomputable def o479_0 (P : Params) : Obj := ⟨(.type "tuple"), .none, (.seq #[] 0), #[]⟩
noncomputable def o480_0 (P : Params) : Obj := ⟨.none, .none, (.fields #[]), #[]⟩
noncomputable def o481_0 (P : Params) : Obj := ⟨(.type "tuple"), .none, (.seq #[(.str (.ofString "self") 909), (.str (.ofString "what") 910)] 0), #[]⟩
noncomputable def o482_0 (P : Params) : Obj := ⟨(.type "tuple"), .none, (.seq #[] 0), #[]⟩
noncomputable def o483_0 (P : Params) : Obj := ⟨.none, .none, (.func (fn (sm 60 3) (.ofString "fault") (.ofString "Reader.fault") 0 [] .none .none .none .none .none .none .none 0)), #[]⟩
noncomputable def o484_0 (P : Params) : Obj := ⟨(.type "code"), .none, (.fields #[(.str (.ofString "fault") 906), (.str (.ofString "Reader.fault") 907), (.str (.ofString "/claim/cut.py") 908), (.int 421 0), (.int 2 0), (.int 0 0), (.int 0 0), (.int 3 0), (.ref 479), (.bool true), (.int 181 0), (.ref 480), .none, (.ref 481), (.ref 482), (.ref 483), (.int 911 0), (.int 421 0), (.str (.ofString "/claim/cut.py") 912)]), #[]⟩
noncomputable def o485_0 (P : Params) : Obj := ⟨(.type "function"), .none, (.func (fn (sm 60 3) (.ofString "fault") (.ofString "Reader.fault") 3 [] .none .none .none (.str (.ofString "ledgerspeak.reader") 849) .none (.ref 484) .none 0)), #[]⟩
noncomputable def o486_0 (P : Params) : Obj := ⟨(.type "tuple"), .none, (.seq #[] 0), #[]⟩
noncomputable def o487_0 (P : Params) : Obj := ⟨.none, .none, (.fields #[]), #[]⟩
noncomputable def o488_0 (P : Params) : Obj := ⟨(.type "tuple"), .none, (.seq #[(.str (.ofString "self") 917), (.str (.ofString "token") 918)] 0), #[]⟩
noncomputable def o489_0 (P : Params) : Obj := ⟨(.type "tuple"), .none, (.seq #[] 0), #[]⟩
noncomputable def o490_0 (P : Params) : Obj := ⟨.none, .none, (.func (fn (sm 60 4) (.ofString "take") (.ofString "Reader.take") 0 [] .none .none .none .none .none .none .none 0)), #[]⟩
noncomputable def o491_0 (P : Params) : Obj := ⟨(.type "code"), .none, (.fields #[(.str (.ofString "take") 914), (.str (.ofString "Reader.take") 915), (.str (.ofString "/claim/cut.py") 916), (.int 426 0), (.int 1 0), (.int 0 0), (.int 0 0), (.int 3 0), (.ref 486), (.bool true), (.int 181 0), (.ref 487), .none, (.ref 488), (.ref 489), (.ref 490), (.int 919 0), (.int 426 0), (.str (.ofString "/claim/cut.py") 920)]), #[]⟩
noncomputable def o492_0 (P : Params) : Obj := ⟨(.type "function"), .none, (.func (fn (sm 60 4) (.ofString "take") (.ofString "Reader.take") 3 [] .none .none .none (.str (.ofString "ledgerspeak.reader") 849) .none (.ref 491) .none 0)), #[]⟩
noncomputable def o493_0 (P : Params) : Obj := ⟨(.type "tuple"), .none, (.seq #[(.int 0 922)] 0), #[]⟩
noncomputable def o494_0 (P : Params) : Obj := ⟨(.type "tuple"), .none, (.seq #[] 0), #[]⟩
noncomputable def o495_0 (P : Params) : Obj := ⟨.none, .none, (.fields #[]), #[]⟩
noncomputable def o496_0 (P : Params) : Obj := ⟨(.type "tuple"), .none, (.seq #[(.str (.ofString "self") 926), (.str (.ofString "kind") 927), (.str (.ofString "ahead") 928), (.str (.ofString "token") 929)] 0), #[]⟩
noncomputable def o497_0 (P : Params) : Obj := ⟨(.type "tuple"), .none, (.seq #[] 0), #[]⟩
noncomputable def o498_0 (P : Params) : Obj := ⟨.none, .none, (.func (fn (sm 60 5) (.ofString "is_kind") (.ofString "Reader.is_kind") 0 [] .none .none .none .none .none .none .none 0)), #[]⟩
noncomputable def o499_0 (P : Params) : Obj := ⟨(.type "code"), .none, (.fields #[(.str (.ofString "is_kind") 923), (.str (.ofString "Reader.is_kind") 924), (.str (.ofString "/claim/cut.py") 925), (.int 433 0), (.int 3 0), (.int 0 0), (.int 0 0), (.int 3 0), (.ref 494), (.bool true), (.int 181 0), (.ref 495), .none, (.ref 496), (.ref 497), (.ref 498), (.int 930 0), (.int 433 0), (.str (.ofString "/claim/cut.py") 931)]), #[]⟩
noncomputable def o500_0 (P : Params) : Obj := ⟨(.type "function"), .none, (.func (fn (sm 60 5) (.ofString "is_kind") (.ofString "Reader.is_kind") 3 [] (.ref 493) .none .none (.str (.ofString "ledgerspeak.reader") 849) .none (.ref 499) .none 0)), #[]⟩
noncomputable def o501_0 (P : Params) : Obj := ⟨(.type "tuple"), .none, (.seq #[] 0), #[]⟩
noncomputable def o502_0 (P : Params) : Obj := ⟨.none, .none, (.fields #[]), #[]⟩
noncomputable def o503_0 (P : Params) : Obj := ⟨(.type "tuple"), .none, (.seq #[(.str (.ofString "self") 936), (.str (.ofString "words") 937), (.str (.ofString "ahead") 938), (.str (.ofString "word") 939)] 0), #[]⟩
noncomputable def o504_0 (P : Params) : Obj := ⟨(.type "tuple"), .none, (.seq #[] 0), #[]⟩
noncomputable def o505_0 (P : Params) : Obj := ⟨.none, .none, (.func (fn (sm 60 6) (.ofString "is_word") (.ofString "Reader.is_word") 0 [] .none .none .none .none .none .none .none 0)), #[]⟩
noncomputable def o506_0 (P : Params) : Obj := ⟨(.type "code"), .none, (.fields #[(.str (.ofString "is_word") 933), (.str (.ofString "Reader.is_word") 934), (.str (.ofString "/claim/cut.py") 935), (.int 437 0), (.int 2 0), (.int 0 0), (.int 0 0), (.int 3 0), (.ref 501), (.bool true), (.int 181 0), (.ref 502), .none, (.ref 503), (.ref 504), (.ref 505), (.int 940 0), (.int 437 0), (.str (.ofString "/claim/cut.py") 941)]), #[]⟩
noncomputable def o507_0 (P : Params) : Obj := ⟨(.type "function"), .none, (.func (fn (sm 60 6) (.ofString "is_word") (.ofString "Reader.is_word") 3 [] .none .none .none (.str (.ofString "ledgerspeak.reader") 849) .none (.ref 506) .none 0)), #[]⟩
noncomputable def o508_0 (P : Params) : Obj := ⟨(.type "tuple"), .none, (.seq #[] 0), #[]⟩
noncomputable def o509_0 (P : Params) : Obj := ⟨.none, .none, (.fields #[]), #[]⟩
noncomputable def o510_0 (P : Params) : Obj := ⟨(.type "tuple"), .none, (.seq #[(.str (.ofString "self") 946), (.str (.ofString "words") 947)] 0), #[]⟩
noncomputable def o511_0 (P : Params) : Obj := ⟨(.type "tuple"), .none, (.seq #[] 0), #[]⟩
noncomputable def o512_0 (P : Params) : Obj := ⟨.none, .none, (.func (fn (sm 60 7) (.ofString "skip") (.ofString "Reader.skip") 0 [] .none .none .none .none .none .none .none 0)), #[]⟩
noncomputable def o513_0 (P : Params) : Obj := ⟨(.type "code"), .none, (.fields #[(.str (.ofString "skip") 943), (.str (.ofString "Reader.skip") 944), (.str (.ofString "/claim/cut.py") 945), (.int 445 0), (.int 2 0), (.int 0 0), (.int 0 0), (.int 3 0), (.ref 508), (.bool true), (.int 181 0), (.ref 509), .none, (.ref 510), (.ref 511), (.ref 512), (.int 948 0), (.int 445 0), (.str (.ofString "/claim/cut.py") 949)]), #[]⟩
noncomputable def o514_0 (P : Params) : Obj := ⟨(.type "function"), .none, (.func (fn (sm 60 7) (.ofString "skip") (.ofString "Reader.skip") 3 [] .none .none .none (.str (.ofString "ledgerspeak.reader") 849) .none (.ref 513) .none 0)), #[]⟩
noncomputable def o515_0 (P : Params) : Obj := ⟨(.type "tuple"), .none, (.seq #[] 0), #[]⟩
noncomputable def o516_0 (P : Params) : Obj := ⟨.none, .none, (.fields #[]), #[]⟩
noncomputable def o517_0 (P : Params) : Obj := ⟨(.type "tuple"), .none, (.seq #[(.str (.ofString "self") 954), (.str (.ofString "words") 955)] 0), #[]⟩
noncomputable def o518_0 (P : Params) : Obj := ⟨(.type "tuple"), .none, (.seq #[] 0), #[]⟩
noncomputable def o519_0 (P : Params) : Obj := ⟨.none, .none, (.func (fn (sm 60 8) (.ofString "need") (.ofString "Reader.need") 0 [] .none .none .none .none .none .none .none 0)), #[]⟩
noncomputable def o520_0 (P : Params) : Obj := ⟨(.type "code"), .none, (.fields #[(.str (.ofString "need") 951), (.str (.ofString "Reader.need") 952), (.str (.ofString "/claim/cut.py") 953), (.int 451 0), (.int 2 0), (.int 0 0), (.int 0 0), (.int 3 0), (.ref 515), (.bool true), (.int 181 0), (.ref 516), .none, (.ref 517), (.ref 518), (.ref 519), (.int 956 0), (.int 451 0), (.str (.ofString "/claim/cut.py") 957)]), #[]⟩
noncomputable def o521_0 (P : Params) : Obj := ⟨(.type "function"), .none, (.func (fn (sm 60 8) (.ofString "need") (.ofString "Reader.need") 3 [] .none .none .none (.str (.ofString "ledgerspeak.reader") 849) .none (.ref 520) .none 0)), #[]⟩
noncomputable def o522_0 (P : Params) : Obj := ⟨(.type "tuple"), .none, (.seq #[] 0), #[]⟩
noncomputable def o523_0 (P : Params) : Obj := ⟨.none, .none, (.fields #[]), #[]⟩
noncomputable def o524_0 (P : Params) : Obj := ⟨(.type "tuple"), .none, (.seq #[(.str (.ofString "self") 962), (.str (.ofString "words") 963), (.str (.ofString "word") 964)] 0), #[]⟩
noncomputable def o525_0 (P : Params) : Obj := ⟨(.type "tuple"), .none, (.seq #[] 0), #[]⟩
noncomputable def o526_0 (P : Params) : Obj := ⟨.none, .none, (.func (fn (sm 60 9) (.ofString "one_of") (.ofString "Reader.one_of") 0 [] .none .none .none .none .none .none .none 0)), #[]⟩
noncomputable def o527_0 (P : Params) : Obj := ⟨(.type "code"), .none, (.fields #[(.str (.ofString "one_of") 959), (.str (.ofString "Reader.one_of") 960), (.str (.ofString "/claim/cut.py") 961), (.int 455 0), (.int 2 0), (.int 0 0), (.int 0 0), (.int 3 0), (.ref 522), (.bool true), (.int 181 0), (.ref 523), .none, (.ref 524), (.ref 525), (.ref 526), (.int 965 0), (.int 455 0), (.str (.ofString "/claim/cut.py") 966)]), #[]⟩
noncomputable def o528_0 (P : Params) : Obj := ⟨(.type "function"), .none, (.func (fn (sm 60 9) (.ofString "one_of") (.ofString "Reader.one_of") 3 [] .none .none .none (.str (.ofString "ledgerspeak.reader") 849) .none (.ref 527) .none 0)), #[]⟩
noncomputable def o529_0 (P : Params) : Obj := ⟨(.type "tuple"), .none, (.seq #[] 0), #[]⟩
noncomputable def o530_0 (P : Params) : Obj := ⟨.none, .none, (.fields #[]), #[]⟩
noncomputable def o531_0 (P : Params) : Obj := ⟨(.type "tuple"), .none, (.seq #[(.str (.ofString "self") 971)] 0), #[]⟩
noncomputable def o532_0 (P : Params) : Obj := ⟨(.type "tuple"), .none, (.seq #[] 0), #[]⟩
noncomputable def o533_0 (P : Params) : Obj := ⟨.none, .none, (.func (fn (sm 60 10) (.ofString "word") (.ofString "Reader.word") 0 [] .none .none .none .none .none .none .none 0)), #[]⟩
noncomputable def o534_0 (P : Params) : Obj := ⟨(.type "code"), .none, (.fields #[(.str (.ofString "word") 968), (.str (.ofString "Reader.word") 969), (.str (.ofString "/claim/cut.py") 970), (.int 461 0), (.int 1 0), (.int 0 0), (.int 0 0), (.int 3 0), (.ref 529), (.bool true), (.int 181 0), (.ref 530), .none, (.ref 531), (.ref 532), (.ref 533), (.int 972 0), (.int 461 0), (.str (.ofString "/claim/cut.py") 973)]), #[]⟩
noncomputable def o535_0 (P : Params) : Obj := ⟨(.type "function"), .none, (.func (fn (sm 60 10) (.ofString "word") (.ofString "Reader.word") 3 [] .none .none .none (.str (.ofString "ledgerspeak.reader") 849) .none (.ref 534) .none 0)), #[]⟩
noncomputable def o536_0 (P : Params) : Obj := ⟨(.type "tuple"), .none, (.seq #[(.int 0 975)] 0), #[]⟩
noncomputable def o537_0 (P : Params) : Obj := ⟨(.type "tuple"), .none, (.seq #[] 0), #[]⟩
noncomputable def o538_0 (P : Params) : Obj := ⟨.none, .none, (.fields #[]), #[]⟩
noncomputable def o539_0 (P : Params) : Obj := ⟨(.type "tuple"), .none, (.seq #[(.str (.ofString "self") 979), (.str (.ofString "ahead") 980)] 0), #[]⟩
noncomputable def o540_0 (P : Params) : Obj := ⟨(.type "tuple"), .none, (.seq #[] 0), #[]⟩
noncomputable def o541_0 (P : Params) : Obj := ⟨.none, .none, (.func (fn (sm 60 11) (.ofString "is_name") (.ofString "Reader.is_name") 0 [] .none .none .none .none .none .none .none 0)), #[]⟩
noncomputable def o542_0 (P : Params) : Obj := ⟨(.type "code"), .none, (.fields #[(.str (.ofString "is_name") 976), (.str (.ofString "Reader.is_name") 977), (.str (.ofString "/claim/cut.py") 978), (.int 466 0), (.int 2 0), (.int 0 0), (.int 0 0), (.int 3 0), (.ref 537), (.bool true), (.int 181 0), (.ref 538), .none, (.ref 539), (.ref 540), (.ref 541), (.int 981 0), (.int 466 0), (.str (.ofString "/claim/cut.py") 982)]), #[]⟩
noncomputable def o543_0 (P : Params) : Obj := ⟨(.type "function"), .none, (.func (fn (sm 60 11) (.ofString "is_name") (.ofString "Reader.is_name") 3 [] (.ref 536) .none .none (.str (.ofString "ledgerspeak.reader") 849) .none (.ref 542) .none 0)), #[]⟩
noncomputable def o544_0 (P : Params) : Obj := ⟨(.type "tuple"), .none, (.seq #[] 0), #[]⟩
noncomputable def o545_0 (P : Params) : Obj := ⟨.none, .none, (.fields #[]), #[]⟩
noncomputable def o546_0 (P : Params) : Obj := ⟨(.type "tuple"), .none, (.seq #[(.str (.ofString "self") 987)] 0), #[]⟩
noncomputable def o547_0 (P : Params) : Obj := ⟨(.type "tuple"), .none, (.seq #[] 0), #[]⟩
noncomputable def o548_0 (P : Params) : Obj := ⟨.none, .none, (.func (fn (sm 60 12) (.ofString "name") (.ofString "Reader.name") 0 [] .none .none .none .none .none .none .none 0)), #[]⟩
noncomputable def o549_0 (P : Params) : Obj := ⟨(.type "code"), .none, (.fields #[(.str (.ofString "name") 984), (.str (.ofString "Reader.name") 985), (.str (.ofString "/claim/cut.py") 986), (.int 469 0), (.int 1 0), (.int 0 0), (.int 0 0), (.int 3 0), (.ref 544), (.bool true), (.int 181 0), (.ref 545), .none, (.ref 546), (.ref 547), (.ref 548), (.int 988 0), (.int 469 0), (.str (.ofString "/claim/cut.py") 989)]), #[]⟩
noncomputable def o550_0 (P : Params) : Obj := ⟨(.type "function"), .none, (.func (fn (sm 60 12) (.ofString "name") (.ofString "Reader.name") 3 [] .none .none .none (.str (.ofString "ledgerspeak.reader") 849) .none (.ref 549) .none 0)), #[]⟩
noncomputable def o551_0 (P : Params) : Obj := ⟨(.type "tuple"), .none, (.seq #[] 0), #[]⟩
noncomputable def o552_0 (P : Params) : Obj := ⟨.none, .none, (.fields #[]), #[]⟩
noncomputable def o553_0 (P : Params) : Obj := ⟨(.type "tuple"), .none, (.seq #[(.str (.ofString "self") 994), (.str (.ofString "found") 995)] 0), #[]⟩
noncomputable def o554_0 (P : Params) : Obj := ⟨(.type "tuple"), .none, (.seq #[] 0), #[]⟩
noncomputable def o555_0 (P : Params) : Obj := ⟨.none, .none, (.func (fn (sm 60 13) (.ofString "names") (.ofString "Reader.names") 0 [] .none .none .none .none .none .none .none 0)), #[]⟩
noncomputable def o556_0 (P : Params) : Obj := ⟨(.type "code"), .none, (.fields #[(.str (.ofString "names") 991), (.str (.ofString "Reader.names") 992), (.str (.ofString "/claim/cut.py") 993), (.int 474 0), (.int 1 0), (.int 0 0), (.int 0 0), (.int 3 0), (.ref 551), (.bool true), (.int 181 0), (.ref 552), .none, (.ref 553), (.ref 554), (.ref 555), (.int 996 0), (.int 474 0), (.str (.ofString "/claim/cut.py") 997)]), #[]⟩
noncomputable def o557_0 (P : Params) : Obj := ⟨(.type "function"), .none, (.func (fn (sm 60 13) (.ofString "names") (.ofString "Reader.names") 3 [] .none .none .none (.str (.ofString "ledgerspeak.reader") 849) .none (.ref 556) .none 0)), #[]⟩
noncomputable def o558_0 (P : Params) : Obj := ⟨(.type "tuple"), .none, (.seq #[(.int 0 999)] 0), #[]⟩
noncomputable def o559_0 (P : Params) : Obj := ⟨(.type "tuple"), .none, (.seq #[] 0), #[]⟩
noncomputable def o560_0 (P : Params) : Obj := ⟨.none, .none, (.fields #[]), #[]⟩
noncomputable def o561_0 (P : Params) : Obj := ⟨(.type "tuple"), .none, (.seq #[(.str (.ofString "self") 1003), (.str (.ofString "sign") 1004), (.str (.ofString "ahead") 1005)] 0), #[]⟩
noncomputable def o562_0 (P : Params) : Obj := ⟨(.type "tuple"), .none, (.seq #[] 0), #[]⟩
noncomputable def o563_0 (P : Params) : Obj := ⟨.none, .none, (.func (fn (sm 60 14) (.ofString "is_sign") (.ofString "Reader.is_sign") 0 [] .none .none .none .none .none .none .none 0)), #[]⟩
noncomputable def o564_0 (P : Params) : Obj := ⟨(.type "code"), .none, (.fields #[(.str (.ofString "is_sign") 1000), (.str (.ofString "Reader.is_sign") 1001), (.str (.ofString "/claim/cut.py") 1002), (.int 480 0), (.int 3 0), (.int 0 0), (.int 0 0), (.int 3 0), (.ref 559), (.bool true), (.int 181 0), (.ref 560), .none, (.ref 561), (.ref 562), (.ref 563), (.int 1006 0), (.int 480 0), (.str (.ofString "/claim/cut.py") 1007)]), #[]⟩
noncomputable def o565_0 (P : Params) : Obj := ⟨(.type "function"), .none, (.func (fn (sm 60 14) (.ofString "is_sign") (.ofString "Reader.is_sign") 3 [] (.ref 558) .none .none (.str (.ofString "ledgerspeak.reader") 849) .none (.ref 564) .none 0)), #[]⟩
noncomputable def o566_0 (P : Params) : Obj := ⟨(.type "tuple"), .none, (.seq #[] 0), #[]⟩
noncomputable def o567_0 (P : Params) : Obj := ⟨.none, .none, (.fields #[]), #[]⟩
noncomputable def o568_0 (P : Params) : Obj := ⟨(.type "tuple"), .none, (.seq #[(.str (.ofString "self") 1012), (.str (.ofString "sign") 1013)] 0), #[]⟩
noncomputable def o569_0 (P : Params) : Obj := ⟨(.type "tuple"), .none, (.seq #[] 0), #[]⟩
noncomputable def o570_0 (P : Params) : Obj := ⟨.none, .none, (.func (fn (sm 60 15) (.ofString "skip_sign") (.ofString "Reader.skip_sign") 0 [] .none .none .none .none .none .none .none 0)), #[]⟩
noncomputable def o571_0 (P : Params) : Obj := ⟨(.type "code"), .none, (.fields #[(.str (.ofString "skip_sign") 1009), (.str (.ofString "Reader.skip_sign") 1010), (.str (.ofString "/claim/cut.py") 1011), (.int 483 0), (.int 2 0), (.int 0 0), (.int 0 0), (.int 3 0), (.ref 566), (.bool true), (.int 181 0), (.ref 567), .none, (.ref 568), (.ref 569), (.ref 570), (.int 1014 0), (.int 483 0), (.str (.ofString "/claim/cut.py") 1015)]), #[]⟩
noncomputable def o572_0 (P : Params) : Obj := ⟨(.type "function"), .none, (.func (fn (sm 60 15) (.ofString "skip_sign") (.ofString "Reader.skip_sign") 3 [] .none .none .none (.str (.ofString "ledgerspeak.reader") 849) .none (.ref 571) .none 0)), #[]⟩
noncomputable def o573_0 (P : Params) : Obj := ⟨(.type "tuple"), .none, (.seq #[] 0), #[]⟩
noncomputable def o574_0 (P : Params) : Obj := ⟨.none, .none, (.fields #[]), #[]⟩
noncomputable def o575_0 (P : Params) : Obj := ⟨(.type "tuple"), .none, (.seq #[(.str (.ofString "self") 1020), (.str (.ofString "sign") 1021)] 0), #[]⟩
noncomputable def o576_0 (P : Params) : Obj := ⟨(.type "tuple"), .none, (.seq #[] 0), #[]⟩
noncomputable def o577_0 (P : Params) : Obj := ⟨.none, .none, (.func (fn (sm 60 16) (.ofString "need_sign") (.ofString "Reader.need_sign") 0 [] .none .none .none .none .none .none .none 0)), #[]⟩
noncomputable def o578_0 (P : Params) : Obj := ⟨(.type "code"), .none, (.fields #[(.str (.ofString "need_sign") 1017), (.str (.ofString "Reader.need_sign") 1018), (.str (.ofString "/claim/cut.py") 1019), (.int 489 0), (.int 2 0), (.int 0 0), (.int 0 0), (.int 3 0), (.ref 573), (.bool true), (.int 181 0), (.ref 574), .none, (.ref 575), (.ref 576), (.ref 577), (.int 1022 0), (.int 489 0), (.str (.ofString "/claim/cut.py") 1023)]), #[]⟩
noncomputable def o579_0 (P : Params) : Obj := ⟨(.type "function"), .none, (.func (fn (sm 60 16) (.ofString "need_sign") (.ofString "Reader.need_sign") 3 [] .none .none .none (.str (.ofString "ledgerspeak.reader") 849) .none (.ref 578) .none 0)), #[]⟩
noncomputable def o580_0 (P : Params) : Obj := ⟨(.type "tuple"), .none, (.seq #[] 0), #[]⟩
noncomputable def o581_0 (P : Params) : Obj := ⟨.none, .none, (.fields #[]), #[]⟩
noncomputable def o582_0 (P : Params) : Obj := ⟨(.type "tuple"), .none, (.seq #[(.str (.ofString "self") 1028)] 0), #[]⟩
noncomputable def o583_0 (P : Params) : Obj := ⟨(.type "tuple"), .none, (.seq #[] 0), #[]⟩
noncomputable def o584_0 (P : Params) : Obj := ⟨.none, .none, (.func (fn (sm 60 17) (.ofString "is_number") (.ofString "Reader.is_number") 0 [] .none .none .none .none .none .none .none 0)), #[]⟩
noncomputable def o585_0 (P : Params) : Obj := ⟨(.type "code"), .none, (.fields #[(.str (.ofString "is_number") 1025), (.str (.ofString "Reader.is_number") 1026), (.str (.ofString "/claim/cut.py") 1027), (.int 493 0), (.int 1 0), (.int 0 0), (.int 0 0), (.int 3 0), (.ref 580), (.bool true), (.int 181 0), (.ref 581), .none, (.ref 582), (.ref 583), (.ref 584), (.int 1029 0), (.int 493 0), (.str (.ofString "/claim/cut.py") 1030)]), #[]⟩
noncomputable def o586_0 (P : Params) : Obj := ⟨(.type "function"), .none, (.func (fn (sm 60 17) (.ofString "is_number") (.ofString "Reader.is_number") 3 [] .none .none .none (.str (.ofString "ledgerspeak.reader") 849) .none (.ref 585) .none 0)), #[]⟩
noncomputable def o587_0 (P : Params) : Obj := ⟨(.type "tuple"), .none, (.seq #[] 0), #[]⟩
noncomputable def o588_0 (P : Params) : Obj := ⟨.none, .none, (.fields #[]), #[]⟩
noncomputable def o589_0 (P : Params) : Obj := ⟨(.type "tuple"), .none, (.seq #[(.str (.ofString "self") 1035), (.str (.ofString "is_below") 1036), (.str (.ofString "found") 1037)] 0), #[]⟩
noncomputable def o590_0 (P : Params) : Obj := ⟨(.type "tuple"), .none, (.seq #[] 0), #[]⟩
noncomputable def o591_0 (P : Params) : Obj := ⟨.none, .none, (.func (fn (sm 60 18) (.ofString "signed") (.ofString "Reader.signed") 0 [] .none .none .none .none .none .none .none 0)), #[]⟩
noncomputable def o592_0 (P : Params) : Obj := ⟨(.type "code"), .none, (.fields #[(.str (.ofString "signed") 1032), (.str (.ofString "Reader.signed") 1033), (.str (.ofString "/claim/cut.py") 1034), (.int 498 0), (.int 1 0), (.int 0 0), (.int 0 0), (.int 3 0), (.ref 587), (.bool true), (.int 181 0), (.ref 588), .none, (.ref 589), (.ref 590), (.ref 591), (.int 1038 0), (.int 498 0), (.str (.ofString "/claim/cut.py") 1039)]), #[]⟩
noncomputable def o593_0 (P : Params) : Obj := ⟨(.type "function"), .none, (.func (fn (sm 60 18) (.ofString "signed") (.ofString "Reader.signed") 3 [] .none .none .none (.str (.ofString "ledgerspeak.reader") 849) .none (.ref 592) .none 0)), #[]⟩
noncomputable def o594_0 (P : Params) : Obj := ⟨(.type "tuple"), .none, (.seq #[] 0), #[]⟩
noncomputable def o595_0 (P : Params) : Obj := ⟨.none, .none, (.fields #[]), #[]⟩
noncomputable def o596_0 (P : Params) : Obj := ⟨(.type "tuple"), .none, (.seq #[(.str (.ofString "self") 1044), (.str (.ofString "found") 1045)] 0), #[]⟩
noncomputable def o597_0 (P : Params) : Obj := ⟨(.type "tuple"), .none, (.seq #[] 0), #[]⟩
noncomputable def o598_0 (P : Params) : Obj := ⟨.none, .none, (.func (fn (sm 60 19) (.ofString "whole") (.ofString "Reader.whole") 0 [] .none .none .none .none .none .none .none 0)), #[]⟩
noncomputable def o599_0 (P : Params) : Obj := ⟨(.type "code"), .none, (.fields #[(.str (.ofString "whole") 1041), (.str (.ofString "Reader.whole") 1042), (.str (.ofString "/claim/cut.py") 1043), (.int 507 0), (.int 1 0), (.int 0 0), (.int 0 0), (.int 3 0), (.ref 594), (.bool true), (.int 181 0), (.ref 595), .none, (.ref 596), (.ref 597), (.ref 598), (.int 1046 0), (.int 507 0), (.str (.ofString "/claim/cut.py") 1047)]), #[]⟩
noncomputable def o600_0 (P : Params) : Obj := ⟨(.type "function"), .none, (.func (fn (sm 60 19) (.ofString "whole") (.ofString "Reader.whole") 3 [] .none .none .none (.str (.ofString "ledgerspeak.reader") 849) .none (.ref 599) .none 0)), #[]⟩
noncomputable def o601_0 (P : Params) : Obj := ⟨(.type "tuple"), .none, (.seq #[] 0), #[]⟩
noncomputable def o602_0 (P : Params) : Obj := ⟨.none, .none, (.fields #[]), #[]⟩
noncomputable def o603_0 (P : Params) : Obj := ⟨(.type "tuple"), .none, (.seq #[(.str (.ofString "self") 1052)] 0), #[]⟩
noncomputable def o604_0 (P : Params) : Obj := ⟨(.type "tuple"), .none, (.seq #[] 0), #[]⟩
noncomputable def o605_0 (P : Params) : Obj := ⟨.none, .none, (.func (fn (sm 60 20) (.ofString "literal") (.ofString "Reader.literal") 0 [] .none .none .none .none .none .none .none 0)), #[]⟩
noncomputable def o606_0 (P : Params) : Obj := ⟨(.type "code"), .none, (.fields #[(.str (.ofString "literal") 1049), (.str (.ofString "Reader.literal") 1050), (.str (.ofString "/claim/cut.py") 1051), (.int 516 0), (.int 1 0), (.int 0 0), (.int 0 0), (.int 3 0), (.ref 601), (.bool true), (.int 181 0), (.ref 602), .none, (.ref 603), (.ref 604), (.ref 605), (.int 1053 0), (.int 516 0), (.str (.ofString "/claim/cut.py") 1054)]), #[]⟩
noncomputable def o607_0 (P : Params) : Obj := ⟨(.type "function"), .none, (.func (fn (sm 60 20) (.ofString "literal") (.ofString "Reader.literal") 3 [] .none .none .none (.str (.ofString "ledgerspeak.reader") 849) .none (.ref 606) .none 0)), #[]⟩
noncomputable def o608_0 (P : Params) : Obj := ⟨(.type "tuple"), .none, (.seq #[] 0), #[]⟩
noncomputable def o609_0 (P : Params) : Obj := ⟨.none, .none, (.fields #[]), #[]⟩
noncomputable def o610_0 (P : Params) : Obj := ⟨(.type "tuple"), .none, (.seq #[(.str (.ofString "self") 1059), (.str (.ofString "found") 1060)] 0), #[]⟩
noncomputable def o611_0 (P : Params) : Obj := ⟨(.type "tuple"), .none, (.seq #[] 0), #[]⟩
noncomputable def o612_0 (P : Params) : Obj := ⟨.none, .none, (.func (fn (sm 60 21) (.ofString "octets") (.ofString "Reader.octets") 0 [] .none .none .none .none .none .none .none 0)), #[]⟩
noncomputable def o613_0 (P : Params) : Obj := ⟨(.type "code"), .none, (.fields #[(.str (.ofString "octets") 1056), (.str (.ofString "Reader.octets") 1057), (.str (.ofString "/claim/cut.py") 1058), (.int 521 0), (.int 1 0), (.int 0 0), (.int 0 0), (.int 3 0), (.ref 608), (.bool true), (.int 181 0), (.ref 609), .none, (.ref 610), (.ref 611), (.ref 612), (.int 1061 0), (.int 521 0), (.str (.ofString "/claim/cut.py") 1062)]), #[]⟩
noncomputable def o614_0 (P : Params) : Obj := ⟨(.type "function"), .none, (.func (fn (sm 60 21) (.ofString "octets") (.ofString "Reader.octets") 3 [] .none .none .none (.str (.ofString "ledgerspeak.reader") 849) .none (.ref 613) .none 0)), #[]⟩
noncomputable def o615_0 (P : Params) : Obj := ⟨(.type "tuple"), .none, (.seq #[(.str (.ofString "at") 1064), (.str (.ofString "named") 1065), (.str (.ofString "tokens") 1066)] 0), #[]⟩
noncomputable def o616_0 (P : Params) : Obj := ⟨(.type "dict"), .none, (.dict #[kk P "__module__" 875 (.str (.ofString "ledgerspeak.reader") 849), kk P "__firstlineno__" 879 (.int 406 878), kk P "__init__" 889 (.ref 463), kk P "peek" 898 (.ref 471), kk P "is_done" 905 (.ref 478), kk P "fault" 913 (.ref 485), kk P "take" 921 (.ref 492), kk P "is_kind" 932 (.ref 500), kk P "is_word" 942 (.ref 507), kk P "skip" 950 (.ref 514), kk P "need" 958 (.ref 521), kk P "one_of" 967 (.ref 528), kk P "word" 974 (.ref 535), kk P "is_name" 983 (.ref 543), kk P "name" 990 (.ref 550), kk P "names" 998 (.ref 557), kk P "is_sign" 1008 (.ref 565), kk P "skip_sign" 1016 (.ref 572), kk P "need_sign" 1024 (.ref 579), kk P "is_number" 1031 (.ref 586), kk P "signed" 1040 (.ref 593), kk P "whole" 1048 (.ref 600), kk P "literal" 1055 (.ref 607), kk P "octets" 1063 (.ref 614), kk P "__static_attributes__" 1067 (.ref 615), kk P "__dict__" 1069 (.ref 618), kk P "__weakref__" 1071 (.ref 619), kk P "__doc__" 1072 .none] 4), #[]⟩
noncomputable def o617_0 (P : Params) : Obj := ⟨(.type "type"), .none, (.cls ⟨.ofString "Reader", [(.type "object")], [(.ref 617), (.type "object")], 616, .ofString "Reader", true, [], [], false, .none, false⟩), #[.none, .none, (.some (.str (.ofString "Reader") 868)), (.some (.str (.ofString "Reader") 876)), (.some (.builtin "object.__new__")), (.some (.bool true))]⟩
noncomputable def o618_0 (P : Params) : Obj := ⟨(.type "getset_descriptor"), .none, (.fields #[(.str (.ofString "__dict__") 1068), (.ref 617), (.builtin "function.__dict__"), (.builtin "function.__dict__#set")]), #[]⟩
noncomputable def o619_0 (P : Params) : Obj := ⟨(.type "getset_descriptor"), .none, (.fields #[(.str (.ofString "__weakref__") 1070), (.ref 617), (.builtin "ExceptionGroup.__weakref__"), .none]), #[]⟩
noncomputable def o620_0 (P : Params) : Obj := ⟨(.type "super"), .none, (.fields #[(.ref 617), (.ref 617), (.ref 617)]), #[]⟩
noncomputable def o621_0 (P : Params) : Obj := ⟨(.type "builtin_function_or_method"), .none, (.fields #[(.builtin "object.__init_subclass__"), (.ref 617)]), #[]⟩
noncomputable def t13 (P : Params) : BT := (.node (boot_o_0 P) (.node (boot_o_1 P) (.node (o3_12 P) (.node (boot_o_7 P) (.node (o15_0 P) (.node (o31_0 P) (.node (o63_0 P) (.node (o127_0 P) (.node (o255_0 P) (.node (o511_0 P) .nil .nil) .nil) (.node (o383_0 P) .nil .nil)) (.node (o191_0 P) (.node (o319_0 P) (.node (o575_0 P) .nil .nil) .nil) (.node (o447_0 P) .nil .nil))) (.node (o95_0 P) (.node (o159_0 P) (.node (o287_0 P) (.node (o543_0 P) .nil .nil) .nil) (.node (o415_0 P) .nil .nil)) (.node (o223_0 P) (.node (o351_0 P) (.node (o607_0 P) .nil .nil) .nil) (.node (o479_0 P) .nil .nil)))) (.node (o47_3 P) (.node (o79_0 P) (.node (o143_0 P) (.node (o271_0 P) (.node (o527_0 P) .nil .nil) .nil) (.node (o399_0 P) .nil .nil)) (.node (o207_0 P) (.node (o335_0 P) (.node (o591_0 P) .nil .nil) .nil) (.node (o463_0 P) .nil .nil))) (.node (o111_0 P) (.node (o175_0 P) (.node (o303_0 P) (.node (o559_0 P) .nil .nil) .nil) (.node (o431_0 P) .nil .nil)) (.node (o239_0 P) (.node (o367_0 P) .nil .nil) (.node (o495_0 P) .nil .nil))))) (.node (o23_0 P) (.node (o39_0 P) (.node (o71_0 P) (.node (o135_0 P) (.node (o263_0 P) (.node (o519_0 P) .nil .nil) .nil) (.node (o391_0 P) .nil .nil)) (.node (o199_0 P) (.node (o327_0 P) (.node (o583_0 P) .nil .nil) .nil) (.node (o455_0 P) .nil .nil))) (.node (o103_0 P) (.node (o167_0 P) (.node (o295_0 P) (.node (o551_0 P) .nil .nil) .nil) (.node (o423_0 P) .nil .nil)) (.node (o231_0 P) (.node (o359_0 P) (.node (o615_0 P) .nil .nil) .nil) (.node (o487_0 P) .nil .nil)))) (.node (o55_0 P) (.node (o87_0 P) (.node (o151_0 P) (.node (o279_0 P) (.node (o535_0 P) .nil .nil) .nil) (.node (o407_0 P) .nil .nil)) (.node (o215_0 P) (.node (o343_0 P) (.node (o599_0 P) .nil .nil) .nil) (.node (o471_0 P) .nil .nil))) (.node (o119_0 P) (.node (o183_0 P) (.node (o311_0 P) (.node (o567_0 P) .nil .nil) .nil) (.node (o439_0 P) .nil .nil)) (.node (o247_0 P) (.node (o375_0 P) .nil .nil) (.node (o503_0 P) .nil .nil)))))) (.node (o11_0 P) (.node (o19_0 P) (.node (o35_0 P) (.node (o67_0 P) (.node (o131_0 P) (.node (o259_0 P) (.node (o515_0 P) .nil .nil) .nil) (.node (o387_0 P) .nil .nil)) (.node (o195_0 P) (.node (o323_0 P) (.node (o579_0 P) .nil .nil) .nil) (.node (o451_0 P) .nil .nil))) (.node (o99_0 P) (.node (o163_0 P) (.node (o291_0 P) (.node (o547_0 P) .nil .nil) .nil) (.node (o419_0 P) .nil .nil)) (.node (o227_0 P) (.node (o355_0 P) (.node (o611_0 P) .nil .nil) .nil) (.node (o483_0 P) .nil .nil)))) (.node (o51_0 P) (.node (o83_0 P) (.node (o147_0 P) (.node (o275_0 P) (.node (o531_0 P) .nil .nil) .nil) (.node (o403_0 P) .nil .nil)) (.node (o211_0 P) (.node (o339_0 P) (.node (o595_0 P) .nil .nil) .nil) (.node (o467_0 P) .nil .nil))) (.node (o115_0 P) (.node (o179_0 P) (.node (o307_0 P) (.node (o563_0 P) .nil .nil) .nil) (.node (o435_0 P) .nil .nil)) (.node (o243_0 P) (.node (o371_0 P) .nil .nil) (.node (o499_0 P) .nil .nil))))) (.node (o27_0 P) (.node (o43_0 P) (.node (o75_0 P) (.node (o139_0 P) (.node (o267_0 P) (.node (o523_0 P) .nil .nil) .nil) (.node (o395_0 P) .nil .nil)) (.node (o203_0 P) (.node (o331_0 P) (.node (o587_0 P) .nil .nil) .nil) (.node (o459_0 P) .nil .nil))) (.node (o107_0 P) (.node (o171_0 P) (.node (o299_0 P) (.node (o555_0 P) .nil .nil) .nil) (.node (o427_0 P) .nil .nil)) (.node (o235_0 P) (.node (o363_0 P) (.node (o619_0 P) .nil .nil) .nil) (.node (o491_0 P) .nil .nil)))) (.node (o59_0 P) (.node (o91_0 P) (.node (o155_0 P) (.node (o283_0 P) (.node (o539_0 P) .nil .nil) .nil) (.node (o411_0 P) .nil .nil)) (.node (o219_0 P) (.node (o347_0 P) (.node (o603_0 P) .nil .nil) .nil) (.node (o475_0 P) .nil .nil))) (.node (o123_0 P) (.node (o187_0 P) (.node (o315_0 P) (.node (o571_0 P) .nil .nil) .nil) (.node (o443_0 P) .nil .nil)) (.node (o251_0 P) (.node (o379_0 P) .nil .nil) (.node (o507_0 P) .nil .nil))))))) (.node (boot_o_5 P) (.node (boot_o_9 P) (.node (o17_0 P) (.node (o33_0 P) (.node (o65_0 P) (.node (o129_0 P) (.node (o257_0 P) (.node (o513_0 P) .nil .nil) .nil) (.node (o385_0 P) .nil .nil)) (.node (o193_0 P) (.node (o321_0 P) (.node (o577_0 P) .nil .nil) .nil) (.node (o449_0 P) .nil .nil))) (.node (o97_0 P) (.node (o161_0 P) (.node (o289_0 P) (.node (o545_0 P) .nil .nil) .nil) (.node (o417_0 P) .nil .nil)) (.node (o225_0 P) (.node (o353_0 P) (.node (o609_0 P) .nil .nil) .nil) (.node (o481_0 P) .nil .nil)))) (.node (o49_0 P) (.node (o81_0 P) (.node (o145_0 P) (.node (o273_0 P) (.node (o529_0 P) .nil .nil) .nil) (.node (o401_0 P) .nil .nil)) (.node (o209_0 P) (.node (o337_0 P) (.node (o593_0 P) .nil .nil) .nil) (.node (o465_0 P) .nil .nil))) (.node (o113_0 P) (.node (o177_0 P) (.node (o305_0 P) (.node (o561_0 P) .nil .nil) .nil) (.node (o433_0 P) .nil .nil)) (.node (o241_0 P) (.node (o369_0 P) .nil .nil) (.node (o497_0 P) .nil .nil))))) (.node (o25_0 P) (.node (o41_0 P) (.node (o73_0 P) (.node (o137_0 P) (.node (o265_0 P) (.node (o521_0 P) .nil .nil) .nil) (.node (o393_0 P) .nil .nil)) (.node (o201_0 P) (.node (o329_0 P) (.node (o585_0 P) .nil .nil) .nil) (.node (o457_0 P) .nil .nil))) (.node (o105_0 P) (.node (o169_0 P) (.node (o297_0 P) (.node (o553_0 P) .nil .nil) .nil) (.node (o425_0 P) .nil .nil)) (.node (o233_0 P) (.node (o361_0 P) (.node (o617_0 P) .nil .nil) .nil) (.node (o489_0 P) .nil .nil)))) (.node (o57_0 P) (.node (o89_0 P) (.node (o153_0 P) (.node (o281_0 P) (.node (o537_0 P) .nil .nil) .nil) (.node (o409_0 P) .nil .nil)) (.node (o217_0 P) (.node (o345_0 P) (.node (o601_0 P) .nil .nil) .nil) (.node (o473_0 P) .nil .nil))) (.node (o121_0 P) (.node (o185_0 P) (.node (o313_0 P) (.node (o569_0 P) .nil .nil) .nil) (.node (o441_0 P) .nil .nil)) (.node (o249_0 P) (.node (o377_0 P) .nil .nil) (.node (o505_0 P) .nil .nil)))))) (.node (o13_0 P) (.node (o21_0 P) (.node (o37_0 P) (.node (o69_0 P) (.node (o133_0 P) (.node (o261_0 P) (.node (o517_0 P) .nil .nil) .nil) (.node (o389_0 P) .nil .nil)) (.node (o197_0 P) (.node (o325_0 P) (.node (o581_0 P) .nil .nil) .nil) (.node (o453_0 P) .nil .nil))) (.node (o101_0 P) (.node (o165_0 P) (.node (o293_0 P) (.node (o549_0 P) .nil .nil) .nil) (.node (o421_0 P) .nil .nil)) (.node (o229_0 P) (.node (o357_0 P) (.node (o613_0 P) .nil .nil) .nil) (.node (o485_0 P) .nil .nil)))) (.node (o53_0 P) (.node (o85_0 P) (.node (o149_0 P) (.node (o277_0 P) (.node (o533_0 P) .nil .nil) .nil) (.node (o405_0 P) .nil .nil)) (.node (o213_0 P) (.node (o341_0 P) (.node (o597_0 P) .nil .nil) .nil) (.node (o469_0 P) .nil .nil))) (.node (o117_0 P) (.node (o181_0 P) (.node (o309_0 P) (.node (o565_0 P) .nil .nil) .nil) (.node (o437_0 P) .nil .nil)) (.node (o245_0 P) (.node (o373_0 P) .nil .nil) (.node (o501_0 P) .nil .nil))))) (.node (o29_0 P) (.node (o45_0 P) (.node (o77_0 P) (.node (o141_0 P) (.node (o269_0 P) (.node (o525_0 P) .nil .nil) .nil) (.node (o397_0 P) .nil .nil)) (.node (o205_0 P) (.node (o333_0 P) (.node (o589_0 P) .nil .nil) .nil) (.node (o461_0 P) .nil .nil))) (.node (o109_0 P) (.node (o173_0 P) (.node (o301_0 P) (.node (o557_0 P) .nil .nil) .nil) (.node (o429_0 P) .nil .nil)) (.node (o237_0 P) (.node (o365_0 P) (.node (o621_0 P) .nil .nil) .nil) (.node (o493_0 P) .nil .nil)))) (.node (o61_0 P) (.node (o93_0 P) (.node (o157_0 P) (.node (o285_0 P) (.node (o541_0 P) .nil .nil) .nil) (.node (o413_0 P) .nil .nil)) (.node (o221_0 P) (.node (o349_0 P) (.node (o605_0 P) .nil .nil) .nil) (.node (o477_0 P) .nil .nil))) (.node (o125_0 P) (.node (o189_0 P) (.node (o317_0 P) (.node (o573_0 P) .nil .nil) .nil) (.node (o445_0 P) .nil .nil)) (.node (o253_0 P) (.node (o381_0 P) .nil .nil) (.node (o509_0 P) .nil .nil)))))))) (.node (o2_0 P) (.node (boot_o_4 P) (.node (boot_o_8 P) (.node (o16_0 P) (.node (o32_0 P) (.node (o64_0 P) (.node (o128_0 P) (.node (o256_0 P) (.node (o512_0 P) .nil .nil) .nil) (.node (o384_0 P) .nil .nil)) (.node (o192_0 P) (.node (o320_0 P) (.node (o576_0 P) .nil .nil) .nil) (.node (o448_0 P) .nil .nil))) (.node (o96_0 P) (.node (o160_0 P) (.node (o288_0 P) (.node (o544_0 P) .nil .nil) .nil) (.node (o416_0 P) .nil .nil)) (.node (o224_0 P) (.node (o352_0 P) (.node (o608_0 P) .nil .nil) .nil) (.node (o480_0 P) .nil .nil)))) (.node (o48_0 P) (.node (o80_0 P) (.node (o144_0 P) (.node (o272_0 P) (.node (o528_0 P) .nil .nil) .nil) (.node (o400_0 P) .nil .nil)) (.node (o208_0 P) (.node (o336_0 P) (.node (o592_0 P) .nil .nil) .nil) (.node (o464_0 P) .nil .nil))) (.node (o112_0 P) (.node (o176_0 P) (.node (o304_0 P) (.node (o560_0 P) .nil .nil) .nil) (.node (o432_0 P) .nil .nil)) (.node (o240_0 P) (.node (o368_0 P) .nil .nil) (.node (o496_0 P) .nil .nil))))) (.node (o24_0 P) (.node (o40_0 P) (.node (o72_0 P) (.node (o136_0 P) (.node (o264_0 P) (.node (o520_0 P) .nil .nil) .nil) (.node (o392_0 P) .nil .nil)) (.node (o200_0 P) (.node (o328_0 P) (.node (o584_0 P) .nil .nil) .nil) (.node (o456_0 P) .nil .nil))) (.node (o104_0 P) (.node (o168_0 P) (.node (o296_0 P) (.node (o552_0 P) .nil .nil) .nil) (.node (o424_0 P) .nil .nil)) (.node (o232_0 P) (.node (o360_0 P) (.node (o616_0 P) .nil .nil) .nil) (.node (o488_0 P) .nil .nil)))) (.node (o56_0 P) (.node (o88_0 P) (.node (o152_0 P) (.node (o280_0 P) (.node (o536_0 P) .nil .nil) .nil) (.node (o408_0 P) .nil .nil)) (.node (o216_0 P) (.node (o344_0 P) (.node (o600_0 P) .nil .nil) .nil) (.node (o472_0 P) .nil .nil))) (.node (o120_0 P) (.node (o184_0 P) (.node (o312_0 P) (.node (o568_0 P) .nil .nil) .nil) (.node (o440_0 P) .nil .nil)) (.node (o248_0 P) (.node (o376_0 P) .nil .nil) (.node (o504_0 P) .nil .nil)))))) (.node (o12_13 P) (.node (o20_0 P) (.node (o36_0 P) (.node (o68_0 P) (.node (o132_0 P) (.node (o260_0 P) (.node (o516_0 P) .nil .nil) .nil) (.node (o388_0 P) .nil .nil)) (.node (o196_0 P) (.node (o324_0 P) (.node (o580_0 P) .nil .nil) .nil) (.node (o452_0 P) .nil .nil))) (.node (o100_0 P) (.node (o164_0 P) (.node (o292_0 P) (.node (o548_0 P) .nil .nil) .nil) (.node (o420_0 P) .nil .nil)) (.node (o228_0 P) (.node (o356_0 P) (.node (o612_0 P) .nil .nil) .nil) (.node (o484_0 P) .nil .nil)))) (.node (o52_0 P) (.node (o84_0 P) (.node (o148_0 P) (.node (o276_0 P) (.node (o532_0 P) .nil .nil) .nil) (.node (o404_0 P) .nil .nil)) (.node (o212_0 P) (.node (o340_0 P) (.node (o596_0 P) .nil .nil) .nil) (.node (o468_0 P) .nil .nil))) (.node (o116_0 P) (.node (o180_0 P) (.node (o308_0 P) (.node (o564_0 P) .nil .nil) .nil) (.node (o436_0 P) .nil .nil)) (.node (o244_0 P) (.node (o372_0 P) .nil .nil) (.node (o500_0 P) .nil .nil))))) (.node (o28_0 P) (.node (o44_0 P) (.node (o76_0 P) (.node (o140_0 P) (.node (o268_0 P) (.node (o524_0 P) .nil .nil) .nil) (.node (o396_0 P) .nil .nil)) (.node (o204_0 P) (.node (o332_0 P) (.node (o588_0 P) .nil .nil) .nil) (.node (o460_0 P) .nil .nil))) (.node (o108_0 P) (.node (o172_0 P) (.node (o300_0 P) (.node (o556_0 P) .nil .nil) .nil) (.node (o428_0 P) .nil .nil)) (.node (o236_0 P) (.node (o364_0 P) (.node (o620_0 P) .nil .nil) .nil) (.node (o492_0 P) .nil .nil)))) (.node (o60_0 P) (.node (o92_0 P) (.node (o156_0 P) (.node (o284_0 P) (.node (o540_0 P) .nil .nil) .nil) (.node (o412_0 P) .nil .nil)) (.node (o220_0 P) (.node (o348_0 P) (.node (o604_0 P) .nil .nil) .nil) (.node (o476_0 P) .nil .nil))) (.node (o124_0 P) (.node (o188_0 P) (.node (o316_0 P) (.node (o572_0 P) .nil .nil) .nil) (.node (o444_0 P) .nil .nil)) (.node (o252_0 P) (.node (o380_0 P) .nil .nil) (.node (o508_0 P) .nil .nil))))))) (.node (boot_o_6 P) (.node (boot_o_10 P) (.node (o18_0 P) (.node (o34_0 P) (.node (o66_0 P) (.node (o130_0 P) (.node (o258_0 P) (.node (o514_0 P) .nil .nil) .nil) (.node (o386_0 P) .nil .nil)) (.node (o194_0 P) (.node (o322_0 P) (.node (o578_0 P) .nil .nil) .nil) (.node (o450_0 P) .nil .nil))) (.node (o98_0 P) (.node (o162_0 P) (.node (o290_0 P) (.node (o546_0 P) .nil .nil) .nil) (.node (o418_0 P) .nil .nil)) (.node (o226_0 P) (.node (o354_0 P) (.node (o610_0 P) .nil .nil) .nil) (.node (o482_0 P) .nil .nil)))) (.node (o50_0 P) (.node (o82_0 P) (.node (o146_0 P) (.node (o274_0 P) (.node (o530_0 P) .nil .nil) .nil) (.node (o402_0 P) .nil .nil)) (.node (o210_0 P) (.node (o338_0 P) (.node (o594_0 P) .nil .nil) .nil) (.node (o466_0 P) .nil .nil))) (.node (o114_0 P) (.node (o178_0 P) (.node (o306_0 P) (.node (o562_0 P) .nil .nil) .nil) (.node (o434_0 P) .nil .nil)) (.node (o242_0 P) (.node (o370_0 P) .nil .nil) (.node (o498_0 P) .nil .nil))))) (.node (o26_0 P) (.node (o42_0 P) (.node (o74_0 P) (.node (o138_0 P) (.node (o266_0 P) (.node (o522_0 P) .nil .nil) .nil) (.node (o394_0 P) .nil .nil)) (.node (o202_0 P) (.node (o330_0 P) (.node (o586_0 P) .nil .nil) .nil) (.node (o458_0 P) .nil .nil))) (.node (o106_0 P) (.node (o170_0 P) (.node (o298_0 P) (.node (o554_0 P) .nil .nil) .nil) (.node (o426_0 P) .nil .nil)) (.node (o234_0 P) (.node (o362_0 P) (.node (o618_0 P) .nil .nil) .nil) (.node (o490_0 P) .nil .nil)))) (.node (o58_0 P) (.node (o90_0 P) (.node (o154_0 P) (.node (o282_0 P) (.node (o538_0 P) .nil .nil) .nil) (.node (o410_0 P) .nil .nil)) (.node (o218_0 P) (.node (o346_0 P) (.node (o602_0 P) .nil .nil) .nil) (.node (o474_0 P) .nil .nil))) (.node (o122_0 P) (.node (o186_0 P) (.node (o314_0 P) (.node (o570_0 P) .nil .nil) .nil) (.node (o442_0 P) .nil .nil)) (.node (o250_0 P) (.node (o378_0 P) .nil .nil) (.node (o506_0 P) .nil .nil)))))) (.node (o14_0 P) (.node (o22_0 P) (.node (o38_0 P) (.node (o70_0 P) (.node (o134_0 P) (.node (o262_0 P) (.node (o518_0 P) .nil .nil) .nil) (.node (o390_0 P) .nil .nil)) (.node (o198_0 P) (.node (o326_0 P) (.node (o582_0 P) .nil .nil) .nil) (.node (o454_0 P) .nil .nil))) (.node (o102_0 P) (.node (o166_0 P) (.node (o294_0 P) (.node (o550_0 P) .nil .nil) .nil) (.node (o422_0 P) .nil .nil)) (.node (o230_0 P) (.node (o358_0 P) (.node (o614_0 P) .nil .nil) .nil) (.node (o486_0 P) .nil .nil)))) (.node (o54_0 P) (.node (o86_0 P) (.node (o150_0 P) (.node (o278_0 P) (.node (o534_0 P) .nil .nil) .nil) (.node (o406_0 P) .nil .nil)) (.node (o214_0 P) (.node (o342_0 P) (.node (o598_0 P) .nil .nil) .nil) (.node (o470_0 P) .nil .nil))) (.node (o118_0 P) (.node (o182_0 P) (.node (o310_0 P) (.node (o566_0 P) .nil .nil) .nil) (.node (o438_0 P) .nil .nil)) (.node (o246_0 P) (.node (o374_0 P) .nil .nil) (.node (o502_0 P) .nil .nil))))) (.node (o30_0 P) (.node (o46_0 P) (.node (o78_0 P) (.node (o142_0 P) (.node (o270_0 P) (.node (o526_0 P) .nil .nil) .nil) (.node (o398_0 P) .nil .nil)) (.node (o206_0 P) (.node (o334_0 P) (.node (o590_0 P) .nil .nil) .nil) (.node (o462_0 P) .nil .nil))) (.node (o110_0 P) (.node (o174_0 P) (.node (o302_0 P) (.node (o558_0 P) .nil .nil) .nil) (.node (o430_0 P) .nil .nil)) (.node (o238_0 P) (.node (o366_0 P) .nil .nil) (.node (o494_0 P) .nil .nil)))) (.node (o62_0 P) (.node (o94_0 P) (.node (o158_0 P) (.node (o286_0 P) (.node (o542_0 P) .nil .nil) .nil) (.node (o414_0 P) .nil .nil)) (.node (o222_0 P) (.node (o350_0 P) (.node (o606_0 P) .nil .nil) .nil) (.node (o478_0 P) .nil .nil))) (.node (o126_0 P) (.node (o190_0 P) (.node (o318_0 P) (.node (o574_0 P) .nil .nil) .nil) (.node (o446_0 P) .nil .nil)) (.node (o254_0 P) (.node (o382_0 P) .nil .nil) (.node (o510_0 P) .nil .nil)))))))))
noncomputable def S13 (w : World) (os : OsState) : SharedT := ⟨t13 w.params, 622, { }, #[], { }, 1075, os⟩
noncomputable def o3_13 (P : Params) : Obj := ⟨(.type "dict"), .none, (.dict #[kk P "__name__" 165 (.str (.ofString "law_pb0279_01") 1121), kk P "__doc__" 166 .none, kk P "__package__" 167 .none, kk P "__loader__" 168 (.builtin "__main__.__loader__#opaque"), kk P "__spec__" 169 .none, kk P "__annotations__" 170 (.ref 6), kk P "__builtins__" 171 (.ref 4), kk P "__file__" 173 (.str (.ofString "/claim/cut.py") 172), kk P "__cached__" 174 .none, kk P "_wall" 193 (.ref 21), kk P "LedgerError" 235 (.ref 47), kk P "TokenFault" 251 (.ref 60), kk P "DataFault" 267 (.ref 72), kk P "GrammarFault" 283 (.ref 84), kk P "FILLER" 287 (.str (.ofString "FILLER") 286), kk P "RENAMING" 289 (.int 66 288), kk P "ALONE" 291 (.int 77 290), kk P "Occurs" 335 (.ref 113), kk P "Named" 373 (.ref 141), kk P "Item" 451 (.ref 188), kk P "Data" 490 (.ref 214), kk P "MOST_SUBSCRIPTS" 494 (.int 7 493), kk P "FIGURE_NAMES" 528 (.ref 219), kk P "is_part_next" 537 (.ref 226), kk P "read_subscripts" 546 (.ref 233), kk P "read_part" 556 (.ref 240), kk P "read_ref" 568 (.ref 247), kk P "read_all" 576 (.ref 254), kk P "read_figure" 583 (.ref 261), kk P "read_operand" 592 (.ref 268), kk P "NAMING" 596 (.int 88 595), kk P "MOST_LEVEL" 598 (.int 49 597), kk P "MOST_NESTED" 600 (.int 20 599), kk P "USAGE_WORDS" 625 (.ref 269), kk P "no_expression" 632 (.ref 276), kk P "read_literal" 639 (.ref 283), kk P "read_occurs" 645 (.ref 288), kk P "read_sign" 654 (.ref 295), kk P "read_named_clause" 665 (.ref 302), kk P "clause_word" 673 (.ref 309), kk P "read_bare_clause" 683 (.ref 316), kk P "read_clauses" 694 (.ref 323), kk P "read_worths" 704 (.ref 330), kk P "read_renames" 713 (.ref 337), kk P "read_entry" 723 (.ref 344), kk P "is_level_here" 731 (.ref 351), kk P "put_beneath" 740 (.ref 358), kk P "nested" 753 (.ref 365), kk P "read_entries" 761 (.ref 372), kk P "read_file_entry" 773 (.ref 379), kk P "FIGURES" 777 (.str (.ofString "0123456789") 776), kk P "cut_quotient" 785 (.ref 386), kk P "decimal" 794 (.ref 394), kk P "negated" 801 (.ref 401), kk P "units_at" 812 (.ref 408), kk P "is_whole" 819 (.ref 415), kk P "whole_of" 826 (.ref 422), kk P "worth_of" 835 (.ref 429), kk P "read_decimal" 848 (.ref 436), kk P "MOST_OCTET" 852 (.int 255 851), kk P "RESERVED" 854 (.str (.ofString " ACCEPT ACCESS ADD ADVANCING AFTER ALL ALPHABETIC ALPHABETIC-LOWER ALPHABETIC-UPPER ALPHANUMERIC ALPHANUMERIC-EDITED ALSO ALTERNATE AND ANY ARE AREA AREAS ASCENDING ASSIGN AT AUTHOR BEFORE BINARY BLANK BLOCK BY CALL CHARACTER CHARACTERS CLOSE COMP COMP-3 COMPUTATIONAL COMPUTATIONAL-3 COMPUTE CONFIGURATION CONTAINS CONTENT CONTINUE CONVERTING COPY CORR CORRESPONDING COUNT DATA DATE-COMPILED DATE-WRITTEN DELETE DELIMITED DELIMITER DEPENDING DESCENDING DISPLAY DIVIDE DIVISION DOWN DUPLICATES DYNAMIC ELSE END END-ADD END-CALL END-COMPUTE END-DELETE END-DIVIDE END-EVALUATE END-IF END-MULTIPLY END-PERFORM END-READ END-RETURN END-REWRITE END-SEARCH END-START END-STRING END-SUBTRACT END-UNSTRING END-WRITE ENVIRONMENT EQUAL ERROR EVALUATE EXCEPTION EXIT EXTEND EXTERNAL FALSE FD FILE FILE-CONTROL FILLER FIRST FOR FROM GIVING GLOBAL GO GREATER HIGH-VALUE HIGH-VALUES I-O I-O-CONTROL IDENTIFICATION IF IN INDEX INDEXED INITIAL INITIALIZE INPUT INPUT-OUTPUT INSPECT INSTALLATION INTO INVALID IS JUST JUSTIFIED KEY LABEL LEADING LEFT LESS LINE LINES LINKAGE LOCK LOW-VALUE LOW-VALUES MERGE MODE MOVE MULTIPLY NATIVE NEGATIVE NEXT NO NOT NUMERIC NUMERIC-EDITED OBJECT-COMPUTER OCCURS OF OFF OMITTED ON OPEN OPTIONAL OR ORDER ORGANIZATION OTHER OUTPUT OVERFLOW PACKED-DECIMAL PERFORM PIC PICTURE POINTER POSITIVE PROCEDURE PROCEED PROGRAM PROGRAM-ID QUOTE QUOTES RANDOM READ RECORD RECORDS REDEFINES REFERENCE RELATIVE RELEASE REMAINDER RENAMES REPLACE REPLACING RETURN REWRITE RIGHT ROUNDED RUN SAME SD SEARCH SECTION SECURITY SELECT SENTENCE SEPARATE SEQUENTIAL SET SIGN SIZE SORT SORT-MERGE SOURCE-COMPUTER SPACE SPACES SPECIAL-NAMES STANDARD START STATUS STOP STRING SUBTRACT SYNC SYNCHRONIZED TALLYING TEST THAN THEN THROUGH THRU TIMES TO TRAILING TRUE UNSTRING UNTIL UP UPON USAGE USING VALUE VALUES VARYING WHEN WITH WORKING-STORAGE WRITE ZERO ZEROES ZEROS ") 853), kk P "is_reserved" 861 (.ref 443), kk P "octets_of_text" 867 (.ref 448), kk P "Reader" 1074 (.ref 617), kk P "Token" 1120 (.ref 647), kk P "_law_remarks" 1135 (.ref 658), kk P "_law_draw" 1145 (.ref 665), kk P "_law_heard" 1151 (.ref 670), kk P "_law_seen" 1157 (.ref 675)] 69), #[]⟩
noncomputable def o12_14 (P : Params) : Obj := ⟨.none, .none, (.fields #[(.int 1 0), (.int 0 0), (.ref 20), (.int 5 0), (.int 0 0), (.ref 27), (.int 14 0), (.int 0 0), (.ref 56), (.int 16 0), (.int 0 0), (.ref 68), (.int 18 0), (.int 0 0), (.ref 80), (.int 24 0), (.int 0 0), (.ref 92), (.int 35 0), (.int 0 0), (.ref 123), (.int 43 0), (.int 0 0), (.ref 151), (.int 81 0), (.int 0 0), (.ref 198), (.int 97 0), (.int 0 0), (.ref 225), (.int 110 0), (.int 0 0), (.ref 232), (.int 118 0), (.int 0 0), (.ref 239), (.int 125 0), (.int 0 0), (.ref 246), (.int 135 0), (.int 0 0), (.ref 253), (.int 142 0), (.int 0 0), (.ref 260), (.int 146 0), (.int 0 0), (.ref 267), (.int 160 0), (.int 0 0), (.ref 275), (.int 162 0), (.int 0 0), (.ref 282), (.int 166 0), (.int 0 0), (.ref 287), (.int 187 0), (.int 0 0), (.ref 294), (.int 192 0), (.int 0 0), (.ref 301), (.int 220 0), (.int 0 0), (.ref 308), (.int 230 0), (.int 0 0), (.ref 315), (.int 245 0), (.int 0 0), (.ref 322), (.int 258 0), (.int 0 0), (.ref 329), (.int 269 0), (.int 0 0), (.ref 336), (.int 275 0), (.int 0 0), (.ref 343), (.int 293 0), (.int 0 0), (.ref 350), (.int 296 0), (.int 0 0), (.ref 357), (.int 308 0), (.int 0 0), (.ref 364), (.int 331 0), (.int 0 0), (.ref 371), (.int 336 0), (.int 0 0), (.ref 378), (.int 351 0), (.int 0 0), (.ref 385), (.int 355 0), (.int 0 0), (.ref 393), (.int 362 0), (.int 0 0), (.ref 400), (.int 364 0), (.int 0 0), (.ref 407), (.int 372 0), (.int 0 0), (.ref 414), (.int 374 0), (.int 0 0), (.ref 421), (.int 376 0), (.int 0 0), (.ref 428), (.int 381 0), (.int 0 0), (.ref 435), (.int 399 0), (.int 0 0), (.ref 442), (.int 401 0), (.int 0 0), (.ref 447), (.int 406 0), (.int 0 0), (.ref 454), (.int 530 0), (.int 0 0), (.ref 627), (.int 542 0), (.int 0 0), (.ref 664), (.int 546 0), (.int 0 0), (.ref 669), (.int 553 0), (.int 0 0), (.ref 674)]), #[]⟩
noncomputable def o622_0 (P : Params) : Obj := ⟨(.type "tuple"), .none, (.seq #[] 0), #[]⟩
noncomputable def o623_0 (P : Params) : Obj := ⟨(.type "builtin_function_or_method"), .none, (.fields #[(.builtin "type.__prepare__"), (.type "type")]), #[]⟩
noncomputable def o624_0 (P : Params) : Obj := ⟨(.type "dict"), .none, (.dict #[kk P "__module__" 1084 (.str (.ofString "ledgerspeak.tokens") 1075), kk P "__qualname__" 1086 (.str (.ofString "Token") 1085), kk P "__firstlineno__" 1088 (.int 530 1087), kk P "__init__" 1101 (.ref 637), kk P "told" 1108 (.ref 644), kk P "__static_attributes__" 1113 (.ref 645)] 6), #[]⟩
noncomputable def o625_0 (P : Params) : Obj := ⟨(.type "tuple"), .none, (.seq #[] 0), #[]⟩
noncomputable def o626_0 (P : Params) : Obj := ⟨.none, .none, (.fields #[(.int 532 0), (.int 4 0), (.ref 636), (.int 538 0), (.int 4 0), (.ref 643)]), #[]⟩
noncomputable def o627_0 (P : Params) : Obj := ⟨(.type "code"), .none, (.fields #[(.str (.ofString "Token") 1079), (.str (.ofString "Token") 1080), (.str (.ofString "/claim/cut.py") 1081), (.int 530 0), (.int 0 0), (.int 0 0), (.int 0 0), (.int 0 0), (.ref 625), (.bool false), (.int 181 0), (.ref 626), .none, .none, .none, .none, (.int 1082 0), (.int 530 0), (.str (.ofString "/claim/cut.py") 1083)]), #[]⟩
noncomputable def o628_0 (P : Params) : Obj := ⟨(.type "frame"), .none, .plain, #[(.some (.ref 627)), (.some (.ref 3)), (.some (.ref 624)), .none, (.some (.str (.ofString "ledgerspeak.tokens") 1075)), .none, (.some (.ref 0))]⟩
noncomputable def o629_0 (P : Params) : Obj := ⟨(.type "tuple"), .none, (.seq #[(.int 0 1089), (.int 0 1090)] 0), #[]⟩
noncomputable def o630_0 (P : Params) : Obj := ⟨(.type "tuple"), .none, (.seq #[(.ref 629), (.bool false)] 0), #[]⟩
noncomputable def o631_0 (P : Params) : Obj := ⟨(.type "tuple"), .none, (.seq #[] 0), #[]⟩
noncomputable def o632_0 (P : Params) : Obj := ⟨.none, .none, (.fields #[]), #[]⟩
noncomputable def o633_0 (P : Params) : Obj := ⟨(.type "tuple"), .none, (.seq #[(.str (.ofString "self") 1094), (.str (.ofString "kind") 1095), (.str (.ofString "worth") 1096), (.str (.ofString "at") 1097), (.str (.ofString "is_in_a") 1098)] 0), #[]⟩
noncomputable def o634_0 (P : Params) : Obj := ⟨(.type "tuple"), .none, (.seq #[] 0), #[]⟩
noncomputable def o635_0 (P : Params) : Obj := ⟨.none, .none, (.func (fn (sm 62 0) (.ofString "__init__") (.ofString "Token.__init__") 0 [] .none .none .none .none .none .none .none 0)), #[]⟩
noncomputable def o636_0 (P : Params) : Obj := ⟨(.type "code"), .none, (.fields #[(.str (.ofString "__init__") 1091), (.str (.ofString "Token.__init__") 1092), (.str (.ofString "/claim/cut.py") 1093), (.int 532 0), (.int 5 0), (.int 0 0), (.int 0 0), (.int 3 0), (.ref 631), (.bool true), (.int 181 0), (.ref 632), .none, (.ref 633), (.ref 634), (.ref 635), (.int 1099 0), (.int 532 0), (.str (.ofString "/claim/cut.py") 1100)]), #[]⟩
noncomputable def o637_0 (P : Params) : Obj := ⟨(.type "function"), .none, (.func (fn (sm 62 0) (.ofString "__init__") (.ofString "Token.__init__") 3 [] (.ref 630) .none .none (.str (.ofString "ledgerspeak.tokens") 1075) .none (.ref 636) .none 0)), #[]⟩
noncomputable def o638_0 (P : Params) : Obj := ⟨(.type "tuple"), .none, (.seq #[] 0), #[]⟩
noncomputable def o639_0 (P : Params) : Obj := ⟨.none, .none, (.fields #[]), #[]⟩
noncomputable def o640_0 (P : Params) : Obj := ⟨(.type "tuple"), .none, (.seq #[(.str (.ofString "self") 1105)] 0), #[]⟩
noncomputable def o641_0 (P : Params) : Obj := ⟨(.type "tuple"), .none, (.seq #[] 0), #[]⟩
noncomputable def o642_0 (P : Params) : Obj := ⟨.none, .none, (.func (fn (sm 62 1) (.ofString "told") (.ofString "Token.told") 0 [] .none .none .none .none .none .none .none 0)), #[]⟩
noncomputable def o643_0 (P : Params) : Obj := ⟨(.type "code"), .none, (.fields #[(.str (.ofString "told") 1102), (.str (.ofString "Token.told") 1103), (.str (.ofString "/claim/cut.py") 1104), (.int 538 0), (.int 1 0), (.int 0 0), (.int 0 0), (.int 3 0), (.ref 638), (.bool true), (.int 181 0), (.ref 639), .none, (.ref 640), (.ref 641), (.ref 642), (.int 1106 0), (.int 538 0), (.str (.ofString "/claim/cut.py") 1107)]), #[]⟩
noncomputable def o644_0 (P : Params) : Obj := ⟨(.type "function"), .none, (.func (fn (sm 62 1) (.ofString "told") (.ofString "Token.told") 3 [] .none .none .none (.str (.ofString "ledgerspeak.tokens") 1075) .none (.ref 643) .none 0)), #[]⟩
noncomputable def o645_0 (P : Params) : Obj := ⟨(.type "tuple"), .none, (.seq #[(.str (.ofString "at") 1109), (.str (.ofString "is_in_a") 1110), (.str (.ofString "kind") 1111), (.str (.ofString "worth") 1112)] 0), #[]⟩
noncomputable def o646_0 (P : Params) : Obj := ⟨(.type "dict"), .none, (.dict #[kk P "__module__" 1084 (.str (.ofString "ledgerspeak.tokens") 1075), kk P "__firstlineno__" 1088 (.int 530 1087), kk P "__init__" 1101 (.ref 637), kk P "told" 1108 (.ref 644), kk P "__static_attributes__" 1113 (.ref 645), kk P "__dict__" 1115 (.ref 648), kk P "__weakref__" 1117 (.ref 649), kk P "__doc__" 1118 .none] 4), #[]⟩
noncomputable def o647_0 (P : Params) : Obj := ⟨(.type "type"), .none, (.cls ⟨.ofString "Token", [(.type "object")], [(.ref 647), (.type "object")], 646, .ofString "Token", true, [], [], false, .none, false⟩), #[.none, .none, (.some (.str (.ofString "Token") 1077)), (.some (.str (.ofString "Token") 1085)), (.some (.builtin "object.__new__")), (.some (.bool true))]⟩
noncomputable def o648_0 (P : Params) : Obj := ⟨(.type "getset_descriptor"), .none, (.fields #[(.str (.ofString "__dict__") 1114), (.ref 647), (.builtin "function.__dict__"), (.builtin "function.__dict__#set")]), #[]⟩
noncomputable def o649_0 (P : Params) : Obj := ⟨(.type "getset_descriptor"), .none, (.fields #[(.str (.ofString "__weakref__") 1116), (.ref 647), (.builtin "ExceptionGroup.__weakref__"), .none]), #[]⟩
noncomputable def o650_0 (P : Params) : Obj := ⟨(.type "super"), .none, (.fields #[(.ref 647), (.ref 647), (.ref 647)]), #[]⟩
noncomputable def o651_0 (P : Params) : Obj := ⟨(.type "builtin_function_or_method"), .none, (.fields #[(.builtin "object.__init_subclass__"), (.ref 647)]), #[]⟩
noncomputable def o652_0 (P : Params) : Obj := ⟨(.type "tuple"), .none, (.seq #[(.str (.ofString "word") 1123), (.str (.ofString "BLOCK") 1124)] 0), #[]⟩
noncomputable def o653_0 (P : Params) : Obj := ⟨(.type "tuple"), .none, (.seq #[(.str (.ofString "number") 1125), (.str (.ofString "5") 1126)] 0), #[]⟩
noncomputable def o654_0 (P : Params) : Obj := ⟨(.type "tuple"), .none, (.seq #[(.str (.ofString "word") 1127), (.str (.ofString "RECORDS") 1128)] 0), #[]⟩
noncomputable def o655_0 (P : Params) : Obj := ⟨(.type "tuple"), .none, (.seq #[(.str (.ofString "literal") 1129), (.str (.ofString "x") 1130)] 0), #[]⟩
noncomputable def o656_0 (P : Params) : Obj := ⟨(.type "tuple"), .none, (.seq #[(.str (.ofString "word") 1131), (.str (.ofString "Q") 1132)] 0), #[]⟩
noncomputable def o657_0 (P : Params) : Obj := ⟨(.type "tuple"), .none, (.seq #[(.str (.ofString "sign") 1133), (.str (.ofString "-") 1134)] 0), #[]⟩
noncomputable def o658_0 (P : Params) : Obj := ⟨(.type "tuple"), .none, (.seq #[(.ref 652), (.ref 653), (.ref 654), (.ref 655), (.ref 656), (.ref 657)] 0), #[]⟩
noncomputable def o659_0 (P : Params) : Obj := ⟨(.type "tuple"), .none, (.seq #[] 0), #[]⟩
noncomputable def o660_0 (P : Params) : Obj := ⟨.none, .none, (.fields #[]), #[]⟩
noncomputable def o661_0 (P : Params) : Obj := ⟨(.type "tuple"), .none, (.seq #[(.str (.ofString "tape") 1139), (.str (.ofString "many") 1140), (.str (.ofString "cells") 1141), (.str (.ofString "at") 1142)] 0), #[]⟩
noncomputable def o662_0 (P : Params) : Obj := ⟨(.type "tuple"), .none, (.seq #[] 0), #[]⟩
noncomputable def o663_0 (P : Params) : Obj := ⟨.none, .none, (.func (fn (st 65) (.ofString "_law_draw") (.ofString "_law_draw") 0 [] .none .none .none .none .none .none .none 0)), #[]⟩
noncomputable def o664_0 (P : Params) : Obj := ⟨(.type "code"), .none, (.fields #[(.str (.ofString "_law_draw") 1136), (.str (.ofString "_law_draw") 1137), (.str (.ofString "/claim/cut.py") 1138), (.int 542 0), (.int 2 0), (.int 0 0), (.int 0 0), (.int 3 0), (.ref 659), (.bool true), (.int 181 0), (.ref 660), .none, (.ref 661), (.ref 662), (.ref 663), (.int 1143 0), (.int 542 0), (.str (.ofString "/claim/cut.py") 1144)]), #[]⟩
noncomputable def o665_0 (P : Params) : Obj := ⟨(.type "function"), .none, (.func (fn (st 65) (.ofString "_law_draw") (.ofString "_law_draw") 3 [] .none .none .none (.str (.ofString "law_pb0279_01") 1121) .none (.ref 664) .none 0)), #[]⟩
noncomputable def o666_0 (P : Params) : Obj := ⟨(.type "tuple"), .none, (.seq #[] 0), #[]⟩
noncomputable def o667_0 (P : Params) : Obj := ⟨.none, .none, (.fields #[]), #[]⟩
noncomputable def o668_0 (P : Params) : Obj := ⟨.none, .none, (.func (fn (st 66) (.ofString "_law_heard") (.ofString "_law_heard") 0 [] .none .none .none .none .none .none .none 0)), #[]⟩
noncomputable def o669_0 (P : Params) : Obj := ⟨(.type "code"), .none, (.fields #[(.str (.ofString "_law_heard") 1146), (.str (.ofString "_law_heard") 1147), (.str (.ofString "/claim/cut.py") 1148), (.int 546 0), (.int 3 0), (.int 0 0), (.int 0 0), (.int 3 0), (.ref 666), (.bool true), (.int 181 0), (.ref 667), .none, .none, .none, (.ref 668), (.int 1149 0), (.int 546 0), (.str (.ofString "/claim/cut.py") 1150)]), #[]⟩
noncomputable def o670_0 (P : Params) : Obj := ⟨(.type "function"), .none, (.func (fn (st 66) (.ofString "_law_heard") (.ofString "_law_heard") 3 [] .none .none .none (.str (.ofString "law_pb0279_01") 1121) .none (.ref 669) .none 0)), #[]⟩
noncomputable def o671_0 (P : Params) : Obj := ⟨(.type "tuple"), .none, (.seq #[] 0), #[]⟩
noncomputable def o672_0 (P : Params) : Obj := ⟨.none, .none, (.fields #[]), #[]⟩
noncomputable def o673_0 (P : Params) : Obj := ⟨.none, .none, (.func (fn (st 67) (.ofString "_law_seen") (.ofString "_law_seen") 0 [] .none .none .none .none .none .none .none 0)), #[]⟩
noncomputable def o674_0 (P : Params) : Obj := ⟨(.type "code"), .none, (.fields #[(.str (.ofString "_law_seen") 1152), (.str (.ofString "_law_seen") 1153), (.str (.ofString "/claim/cut.py") 1154), (.int 553 0), (.int 1 0), (.int 0 0), (.int 0 0), (.int 3 0), (.ref 671), (.bool true), (.int 181 0), (.ref 672), .none, .none, .none, (.ref 673), (.int 1155 0), (.int 553 0), (.str (.ofString "/claim/cut.py") 1156)]), #[]⟩
noncomputable def o675_0 (P : Params) : Obj := ⟨(.type "function"), .none, (.func (fn (st 67) (.ofString "_law_seen") (.ofString "_law_seen") 3 [] .none .none .none (.str (.ofString "law_pb0279_01") 1121) .none (.ref 674) .none 0)), #[]⟩
noncomputable def t14 (P : Params) : BT := (.node (boot_o_0 P) (.node (boot_o_1 P) (.node (o3_13 P) (.node (boot_o_7 P) (.node (o15_0 P) (.node (o31_0 P) (.node (o63_0 P) (.node (o127_0 P) (.node (o255_0 P) (.node (o511_0 P) .nil .nil) .nil) (.node (o383_0 P) (.node (o639_0 P) .nil .nil) .nil)) (.node (o191_0 P) (.node (o319_0 P) (.node (o575_0 P) .nil .nil) .nil) (.node (o447_0 P) .nil .nil))) (.node (o95_0 P) (.node (o159_0 P) (.node (o287_0 P) (.node (o543_0 P) .nil .nil) .nil) (.node (o415_0 P) (.node (o671_0 P) .nil .nil) .nil)) (.node (o223_0 P) (.node (o351_0 P) (.node (o607_0 P) .nil .nil) .nil) (.node (o479_0 P) .nil .nil)))) (.node (o47_3 P) (.node (o79_0 P) (.node (o143_0 P) (.node (o271_0 P) (.node (o527_0 P) .nil .nil) .nil) (.node (o399_0 P) (.node (o655_0 P) .nil .nil) .nil)) (.node (o207_0 P) (.node (o335_0 P) (.node (o591_0 P) .nil .nil) .nil) (.node (o463_0 P) .nil .nil))) (.node (o111_0 P) (.node (o175_0 P) (.node (o303_0 P) (.node (o559_0 P) .nil .nil) .nil) (.node (o431_0 P) .nil .nil)) (.node (o239_0 P) (.node (o367_0 P) (.node (o623_0 P) .nil .nil) .nil) (.node (o495_0 P) .nil .nil))))) (.node (o23_0 P) (.node (o39_0 P) (.node (o71_0 P) (.node (o135_0 P) (.node (o263_0 P) (.node (o519_0 P) .nil .nil) .nil) (.node (o391_0 P) (.node (o647_0 P) .nil .nil) .nil)) (.node (o199_0 P) (.node (o327_0 P) (.node (o583_0 P) .nil .nil) .nil) (.node (o455_0 P) .nil .nil))) (.node (o103_0 P) (.node (o167_0 P) (.node (o295_0 P) (.node (o551_0 P) .nil .nil) .nil) (.node (o423_0 P) .nil .nil)) (.node (o231_0 P) (.node (o359_0 P) (.node (o615_0 P) .nil .nil) .nil) (.node (o487_0 P) .nil .nil)))) (.node (o55_0 P) (.node (o87_0 P) (.node (o151_0 P) (.node (o279_0 P) (.node (o535_0 P) .nil .nil) .nil) (.node (o407_0 P) (.node (o663_0 P) .nil .nil) .nil)) (.node (o215_0 P) (.node (o343_0 P) (.node (o599_0 P) .nil .nil) .nil) (.node (o471_0 P) .nil .nil))) (.node (o119_0 P) (.node (o183_0 P) (.node (o311_0 P) (.node (o567_0 P) .nil .nil) .nil) (.node (o439_0 P) .nil .nil)) (.node (o247_0 P) (.node (o375_0 P) (.node (o631_0 P) .nil .nil) .nil) (.node (o503_0 P) .nil .nil)))))) (.node (o11_0 P) (.node (o19_0 P) (.node (o35_0 P) (.node (o67_0 P) (.node (o131_0 P) (.node (o259_0 P) (.node (o515_0 P) .nil .nil) .nil) (.node (o387_0 P) (.node (o643_0 P) .nil .nil) .nil)) (.node (o195_0 P) (.node (o323_0 P) (.node (o579_0 P) .nil .nil) .nil) (.node (o451_0 P) .nil .nil))) (.node (o99_0 P) (.node (o163_0 P) (.node (o291_0 P) (.node (o547_0 P) .nil .nil) .nil) (.node (o419_0 P) (.node (o675_0 P) .nil .nil) .nil)) (.node (o227_0 P) (.node (o355_0 P) (.node (o611_0 P) .nil .nil) .nil) (.node (o483_0 P) .nil .nil)))) (.node (o51_0 P) (.node (o83_0 P) (.node (o147_0 P) (.node (o275_0 P) (.node (o531_0 P) .nil .nil) .nil) (.node (o403_0 P) (.node (o659_0 P) .nil .nil) .nil)) (.node (o211_0 P) (.node (o339_0 P) (.node (o595_0 P) .nil .nil) .nil) (.node (o467_0 P) .nil .nil))) (.node (o115_0 P) (.node (o179_0 P) (.node (o307_0 P) (.node (o563_0 P) .nil .nil) .nil) (.node (o435_0 P) .nil .nil)) (.node (o243_0 P) (.node (o371_0 P) (.node (o627_0 P) .nil .nil) .nil) (.node (o499_0 P) .nil .nil))))) (.node (o27_0 P) (.node (o43_0 P) (.node (o75_0 P) (.node (o139_0 P) (.node (o267_0 P) (.node (o523_0 P) .nil .nil) .nil) (.node (o395_0 P) (.node (o651_0 P) .nil .nil) .nil)) (.node (o203_0 P) (.node (o331_0 P) (.node (o587_0 P) .nil .nil) .nil) (.node (o459_0 P) .nil .nil))) (.node (o107_0 P) (.node (o171_0 P) (.node (o299_0 P) (.node (o555_0 P) .nil .nil) .nil) (.node (o427_0 P) .nil .nil)) (.node (o235_0 P) (.node (o363_0 P) (.node (o619_0 P) .nil .nil) .nil) (.node (o491_0 P) .nil .nil)))) (.node (o59_0 P) (.node (o91_0 P) (.node (o155_0 P) (.node (o283_0 P) (.node (o539_0 P) .nil .nil) .nil) (.node (o411_0 P) (.node (o667_0 P) .nil .nil) .nil)) (.node (o219_0 P) (.node (o347_0 P) (.node (o603_0 P) .nil .nil) .nil) (.node (o475_0 P) .nil .nil))) (.node (o123_0 P) (.node (o187_0 P) (.node (o315_0 P) (.node (o571_0 P) .nil .nil) .nil) (.node (o443_0 P) .nil .nil)) (.node (o251_0 P) (.node (o379_0 P) (.node (o635_0 P) .nil .nil) .nil) (.node (o507_0 P) .nil .nil))))))) (.node (boot_o_5 P) (.node (boot_o_9 P) (.node (o17_0 P) (.node (o33_0 P) (.node (o65_0 P) (.node (o129_0 P) (.node (o257_0 P) (.node (o513_0 P) .nil .nil) .nil) (.node (o385_0 P) (.node (o641_0 P) .nil .nil) .nil)) (.node (o193_0 P) (.node (o321_0 P) (.node (o577_0 P) .nil .nil) .nil) (.node (o449_0 P) .nil .nil))) (.node (o97_0 P) (.node (o161_0 P) (.node (o289_0 P) (.node (o545_0 P) .nil .nil) .nil) (.node (o417_0 P) (.node (o673_0 P) .nil .nil) .nil)) (.node (o225_0 P) (.node (o353_0 P) (.node (o609_0 P) .nil .nil) .nil) (.node (o481_0 P) .nil .nil)))) (.node (o49_0 P) (.node (o81_0 P) (.node (o145_0 P) (.node (o273_0 P) (.node (o529_0 P) .nil .nil) .nil) (.node (o401_0 P) (.node (o657_0 P) .nil .nil) .nil)) (.node (o209_0 P) (.node (o337_0 P) (.node (o593_0 P) .nil .nil) .nil) (.node (o465_0 P) .nil .nil))) (.node (o113_0 P) (.node (o177_0 P) (.node (o305_0 P) (.node (o561_0 P) .nil .nil) .nil) (.node (o433_0 P) .nil .nil)) (.node (o241_0 P) (.node (o369_0 P) (.node (o625_0 P) .nil .nil) .nil) (.node (o497_0 P) .nil .nil))))) (.node (o25_0 P) (.node (o41_0 P) (.node (o73_0 P) (.node (o137_0 P) (.node (o265_0 P) (.node (o521_0 P) .nil .nil) .nil) (.node (o393_0 P) (.node (o649_0 P) .nil .nil) .nil)) (.node (o201_0 P) (.node (o329_0 P) (.node (o585_0 P) .nil .nil) .nil) (.node (o457_0 P) .nil .nil))) (.node (o105_0 P) (.node (o169_0 P) (.node (o297_0 P) (.node (o553_0 P) .nil .nil) .nil) (.node (o425_0 P) .nil .nil)) (.node (o233_0 P) (.node (o361_0 P) (.node (o617_0 P) .nil .nil) .nil) (.node (o489_0 P) .nil .nil)))) (.node (o57_0 P) (.node (o89_0 P) (.node (o153_0 P) (.node (o281_0 P) (.node (o537_0 P) .nil .nil) .nil) (.node (o409_0 P) (.node (o665_0 P) .nil .nil) .nil)) (.node (o217_0 P) (.node (o345_0 P) (.node (o601_0 P) .nil .nil) .nil) (.node (o473_0 P) .nil .nil))) (.node (o121_0 P) (.node (o185_0 P) (.node (o313_0 P) (.node (o569_0 P) .nil .nil) .nil) (.node (o441_0 P) .nil .nil)) (.node (o249_0 P) (.node (o377_0 P) (.node (o633_0 P) .nil .nil) .nil) (.node (o505_0 P) .nil .nil)))))) (.node (o13_0 P) (.node (o21_0 P) (.node (o37_0 P) (.node (o69_0 P) (.node (o133_0 P) (.node (o261_0 P) (.node (o517_0 P) .nil .nil) .nil) (.node (o389_0 P) (.node (o645_0 P) .nil .nil) .nil)) (.node (o197_0 P) (.node (o325_0 P) (.node (o581_0 P) .nil .nil) .nil) (.node (o453_0 P) .nil .nil))) (.node (o101_0 P) (.node (o165_0 P) (.node (o293_0 P) (.node (o549_0 P) .nil .nil) .nil) (.node (o421_0 P) .nil .nil)) (.node (o229_0 P) (.node (o357_0 P) (.node (o613_0 P) .nil .nil) .nil) (.node (o485_0 P) .nil .nil)))) (.node (o53_0 P) (.node (o85_0 P) (.node (o149_0 P) (.node (o277_0 P) (.node (o533_0 P) .nil .nil) .nil) (.node (o405_0 P) (.node (o661_0 P) .nil .nil) .nil)) (.node (o213_0 P) (.node (o341_0 P) (.node (o597_0 P) .nil .nil) .nil) (.node (o469_0 P) .nil .nil))) (.node (o117_0 P) (.node (o181_0 P) (.node (o309_0 P) (.node (o565_0 P) .nil .nil) .nil) (.node (o437_0 P) .nil .nil)) (.node (o245_0 P) (.node (o373_0 P) (.node (o629_0 P) .nil .nil) .nil) (.node (o501_0 P) .nil .nil))))) (.node (o29_0 P) (.node (o45_0 P) (.node (o77_0 P) (.node (o141_0 P) (.node (o269_0 P) (.node (o525_0 P) .nil .nil) .nil) (.node (o397_0 P) (.node (o653_0 P) .nil .nil) .nil)) (.node (o205_0 P) (.node (o333_0 P) (.node (o589_0 P) .nil .nil) .nil) (.node (o461_0 P) .nil .nil))) (.node (o109_0 P) (.node (o173_0 P) (.node (o301_0 P) (.node (o557_0 P) .nil .nil) .nil) (.node (o429_0 P) .nil .nil)) (.node (o237_0 P) (.node (o365_0 P) (.node (o621_0 P) .nil .nil) .nil) (.node (o493_0 P) .nil .nil)))) (.node (o61_0 P) (.node (o93_0 P) (.node (o157_0 P) (.node (o285_0 P) (.node (o541_0 P) .nil .nil) .nil) (.node (o413_0 P) (.node (o669_0 P) .nil .nil) .nil)) (.node (o221_0 P) (.node (o349_0 P) (.node (o605_0 P) .nil .nil) .nil) (.node (o477_0 P) .nil .nil))) (.node (o125_0 P) (.node (o189_0 P) (.node (o317_0 P) (.node (o573_0 P) .nil .nil) .nil) (.node (o445_0 P) .nil .nil)) (.node (o253_0 P) (.node (o381_0 P) (.node (o637_0 P) .nil .nil) .nil) (.node (o509_0 P) .nil .nil)))))))) (.node (o2_0 P) (.node (boot_o_4 P) (.node (boot_o_8 P) (.node (o16_0 P) (.node (o32_0 P) (.node (o64_0 P) (.node (o128_0 P) (.node (o256_0 P) (.node (o512_0 P) .nil .nil) .nil) (.node (o384_0 P) (.node (o640_0 P) .nil .nil) .nil)) (.node (o192_0 P) (.node (o320_0 P) (.node (o576_0 P) .nil .nil) .nil) (.node (o448_0 P) .nil .nil))) (.node (o96_0 P) (.node (o160_0 P) (.node (o288_0 P) (.node (o544_0 P) .nil .nil) .nil) (.node (o416_0 P) (.node (o672_0 P) .nil .nil) .nil)) (.node (o224_0 P) (.node (o352_0 P) (.node (o608_0 P) .nil .nil) .nil) (.node (o480_0 P) .nil .nil)))) (.node (o48_0 P) (.node (o80_0 P) (.node (o144_0 P) (.node (o272_0 P) (.node (o528_0 P) .nil .nil) .nil) (.node (o400_0 P) (.node (o656_0 P) .nil .nil) .nil)) (.node (o208_0 P) (.node (o336_0 P) (.node (o592_0 P) .nil .nil) .nil) (.node (o464_0 P) .nil .nil))) (.node (o112_0 P) (.node (o176_0 P) (.node (o304_0 P) (.node (o560_0 P) .nil .nil) .nil) (.node (o432_0 P) .nil .nil)) (.node (o240_0 P) (.node (o368_0 P) (.node (o624_0 P) .nil .nil) .nil) (.node (o496_0 P) .nil .nil))))) (.node (o24_0 P) (.node (o40_0 P) (.node (o72_0 P) (.node (o136_0 P) (.node (o264_0 P) (.node (o520_0 P) .nil .nil) .nil) (.node (o392_0 P) (.node (o648_0 P) .nil .nil) .nil)) (.node (o200_0 P) (.node (o328_0 P) (.node (o584_0 P) .nil .nil) .nil) (.node (o456_0 P) .nil .nil))) (.node (o104_0 P) (.node (o168_0 P) (.node (o296_0 P) (.node (o552_0 P) .nil .nil) .nil) (.node (o424_0 P) .nil .nil)) (.node (o232_0 P) (.node (o360_0 P) (.node (o616_0 P) .nil .nil) .nil) (.node (o488_0 P) .nil .nil)))) (.node (o56_0 P) (.node (o88_0 P) (.node (o152_0 P) (.node (o280_0 P) (.node (o536_0 P) .nil .nil) .nil) (.node (o408_0 P) (.node (o664_0 P) .nil .nil) .nil)) (.node (o216_0 P) (.node (o344_0 P) (.node (o600_0 P) .nil .nil) .nil) (.node (o472_0 P) .nil .nil))) (.node (o120_0 P) (.node (o184_0 P) (.node (o312_0 P) (.node (o568_0 P) .nil .nil) .nil) (.node (o440_0 P) .nil .nil)) (.node (o248_0 P) (.node (o376_0 P) (.node (o632_0 P) .nil .nil) .nil) (.node (o504_0 P) .nil .nil)))))) (.node (o12_14 P) (.node (o20_0 P) (.node (o36_0 P) (.node (o68_0 P) (.node (o132_0 P) (.node (o260_0 P) (.node (o516_0 P) .nil .nil) .nil) (.node (o388_0 P) (.node (o644_0 P) .nil .nil) .nil)) (.node (o196_0 P) (.node (o324_0 P) (.node (o580_0 P) .nil .nil) .nil) (.node (o452_0 P) .nil .nil))) (.node (o100_0 P) (.node (o164_0 P) (.node (o292_0 P) (.node (o548_0 P) .nil .nil) .nil) (.node (o420_0 P) .nil .nil)) (.node (o228_0 P) (.node (o356_0 P) (.node (o612_0 P) .nil .nil) .nil) (.node (o484_0 P) .nil .nil)))) (.node (o52_0 P) (.node (o84_0 P) (.node (o148_0 P) (.node (o276_0 P) (.node (o532_0 P) .nil .nil) .nil) (.node (o404_0 P) (.node (o660_0 P) .nil .nil) .nil)) (.node (o212_0 P) (.node (o340_0 P) (.node (o596_0 P) .nil .nil) .nil) (.node (o468_0 P) .nil .nil))) (.node (o116_0 P) (.node (o180_0 P) (.node (o308_0 P) (.node (o564_0 P) .nil .nil) .nil) (.node (o436_0 P) .nil .nil)) (.node (o244_0 P) (.node (o372_0 P) (.node (o628_0 P) .nil .nil) .nil) (.node (o500_0 P) .nil .nil))))) (.node (o28_0 P) (.node (o44_0 P) (.node (o76_0 P) (.node (o140_0 P) (.node (o268_0 P) (.node (o524_0 P) .nil .nil) .nil) (.node (o396_0 P) (.node (o652_0 P) .nil .nil) .nil)) (.node (o204_0 P) (.node (o332_0 P) (.node (o588_0 P) .nil .nil) .nil) (.node (o460_0 P) .nil .nil))) (.node (o108_0 P) (.node (o172_0 P) (.node (o300_0 P) (.node (o556_0 P) .nil .nil) .nil) (.node (o428_0 P) .nil .nil)) (.node (o236_0 P) (.node (o364_0 P) (.node (o620_0 P) .nil .nil) .nil) (.node (o492_0 P) .nil .nil)))) (.node (o60_0 P) (.node (o92_0 P) (.node (o156_0 P) (.node (o284_0 P) (.node (o540_0 P) .nil .nil) .nil) (.node (o412_0 P) (.node (o668_0 P) .nil .nil) .nil)) (.node (o220_0 P) (.node (o348_0 P) (.node (o604_0 P) .nil .nil) .nil) (.node (o476_0 P) .nil .nil))) (.node (o124_0 P) (.node (o188_0 P) (.node (o316_0 P) (.node (o572_0 P) .nil .nil) .nil) (.node (o444_0 P) .nil .nil)) (.node (o252_0 P) (.node (o380_0 P) (.node (o636_0 P) .nil .nil) .nil) (.node (o508_0 P) .nil .nil))))))) (.node (boot_o_6 P) (.node (boot_o_10 P) (.node (o18_0 P) (.node (o34_0 P) (.node (o66_0 P) (.node (o130_0 P) (.node (o258_0 P) (.node (o514_0 P) .nil .nil) .nil) (.node (o386_0 P) (.node (o642_0 P) .nil .nil) .nil)) (.node (o194_0 P) (.node (o322_0 P) (.node (o578_0 P) .nil .nil) .nil) (.node (o450_0 P) .nil .nil))) (.node (o98_0 P) (.node (o162_0 P) (.node (o290_0 P) (.node (o546_0 P) .nil .nil) .nil) (.node (o418_0 P) (.node (o674_0 P) .nil .nil) .nil)) (.node (o226_0 P) (.node (o354_0 P) (.node (o610_0 P) .nil .nil) .nil) (.node (o482_0 P) .nil .nil)))) (.node (o50_0 P) (.node (o82_0 P) (.node (o146_0 P) (.node (o274_0 P) (.node (o530_0 P) .nil .nil) .nil) (.node (o402_0 P) (.node (o658_0 P) .nil .nil) .nil)) (.node (o210_0 P) (.node (o338_0 P) (.node (o594_0 P) .nil .nil) .nil) (.node (o466_0 P) .nil .nil))) (.node (o114_0 P) (.node (o178_0 P) (.node (o306_0 P) (.node (o562_0 P) .nil .nil) .nil) (.node (o434_0 P) .nil .nil)) (.node (o242_0 P) (.node (o370_0 P) (.node (o626_0 P) .nil .nil) .nil) (.node (o498_0 P) .nil .nil))))) (.node (o26_0 P) (.node (o42_0 P) (.node (o74_0 P) (.node (o138_0 P) (.node (o266_0 P) (.node (o522_0 P) .nil .nil) .nil) (.node (o394_0 P) (.node (o650_0 P) .nil .nil) .nil)) (.node (o202_0 P) (.node (o330_0 P) (.node (o586_0 P) .nil .nil) .nil) (.node (o458_0 P) .nil .nil))) (.node (o106_0 P) (.node (o170_0 P) (.node (o298_0 P) (.node (o554_0 P) .nil .nil) .nil) (.node (o426_0 P) .nil .nil)) (.node (o234_0 P) (.node (o362_0 P) (.node (o618_0 P) .nil .nil) .nil) (.node (o490_0 P) .nil .nil)))) (.node (o58_0 P) (.node (o90_0 P) (.node (o154_0 P) (.node (o282_0 P) (.node (o538_0 P) .nil .nil) .nil) (.node (o410_0 P) (.node (o666_0 P) .nil .nil) .nil)) (.node (o218_0 P) (.node (o346_0 P) (.node (o602_0 P) .nil .nil) .nil) (.node (o474_0 P) .nil .nil))) (.node (o122_0 P) (.node (o186_0 P) (.node (o314_0 P) (.node (o570_0 P) .nil .nil) .nil) (.node (o442_0 P) .nil .nil)) (.node (o250_0 P) (.node (o378_0 P) (.node (o634_0 P) .nil .nil) .nil) (.node (o506_0 P) .nil .nil)))))) (.node (o14_0 P) (.node (o22_0 P) (.node (o38_0 P) (.node (o70_0 P) (.node (o134_0 P) (.node (o262_0 P) (.node (o518_0 P) .nil .nil) .nil) (.node (o390_0 P) (.node (o646_0 P) .nil .nil) .nil)) (.node (o198_0 P) (.node (o326_0 P) (.node (o582_0 P) .nil .nil) .nil) (.node (o454_0 P) .nil .nil))) (.node (o102_0 P) (.node (o166_0 P) (.node (o294_0 P) (.node (o550_0 P) .nil .nil) .nil) (.node (o422_0 P) .nil .nil)) (.node (o230_0 P) (.node (o358_0 P) (.node (o614_0 P) .nil .nil) .nil) (.node (o486_0 P) .nil .nil)))) (.node (o54_0 P) (.node (o86_0 P) (.node (o150_0 P) (.node (o278_0 P) (.node (o534_0 P) .nil .nil) .nil) (.node (o406_0 P) (.node (o662_0 P) .nil .nil) .nil)) (.node (o214_0 P) (.node (o342_0 P) (.node (o598_0 P) .nil .nil) .nil) (.node (o470_0 P) .nil .nil))) (.node (o118_0 P) (.node (o182_0 P) (.node (o310_0 P) (.node (o566_0 P) .nil .nil) .nil) (.node (o438_0 P) .nil .nil)) (.node (o246_0 P) (.node (o374_0 P) (.node (o630_0 P) .nil .nil) .nil) (.node (o502_0 P) .nil .nil))))) (.node (o30_0 P) (.node (o46_0 P) (.node (o78_0 P) (.node (o142_0 P) (.node (o270_0 P) (.node (o526_0 P) .nil .nil) .nil) (.node (o398_0 P) (.node (o654_0 P) .nil .nil) .nil)) (.node (o206_0 P) (.node (o334_0 P) (.node (o590_0 P) .nil .nil) .nil) (.node (o462_0 P) .nil .nil))) (.node (o110_0 P) (.node (o174_0 P) (.node (o302_0 P) (.node (o558_0 P) .nil .nil) .nil) (.node (o430_0 P) .nil .nil)) (.node (o238_0 P) (.node (o366_0 P) (.node (o622_0 P) .nil .nil) .nil) (.node (o494_0 P) .nil .nil)))) (.node (o62_0 P) (.node (o94_0 P) (.node (o158_0 P) (.node (o286_0 P) (.node (o542_0 P) .nil .nil) .nil) (.node (o414_0 P) (.node (o670_0 P) .nil .nil) .nil)) (.node (o222_0 P) (.node (o350_0 P) (.node (o606_0 P) .nil .nil) .nil) (.node (o478_0 P) .nil .nil))) (.node (o126_0 P) (.node (o190_0 P) (.node (o318_0 P) (.node (o574_0 P) .nil .nil) .nil) (.node (o446_0 P) .nil .nil)) (.node (o254_0 P) (.node (o382_0 P) (.node (o638_0 P) .nil .nil) .nil) (.node (o510_0 P) .nil .nil)))))))))
noncomputable def S14 (w : World) (os : OsState) : SharedT := ⟨t14 w.params, 676, { }, #[], { }, 1158, os⟩
noncomputable def o3_14 (P : Params) : Obj := ⟨(.type "dict"), .none, (.dict #[kk P "__name__" 165 (.str (.ofString "law_pb0279_01") 1121), kk P "__doc__" 166 .none, kk P "__package__" 167 .none, kk P "__loader__" 168 (.builtin "__main__.__loader__#opaque"), kk P "__spec__" 169 .none, kk P "__annotations__" 170 (.ref 6), kk P "__builtins__" 171 (.ref 4), kk P "__file__" 173 (.str (.ofString "/claim/cut.py") 172), kk P "__cached__" 174 .none, kk P "_wall" 193 (.ref 21), kk P "LedgerError" 235 (.ref 47), kk P "TokenFault" 251 (.ref 60), kk P "DataFault" 267 (.ref 72), kk P "GrammarFault" 283 (.ref 84), kk P "FILLER" 287 (.str (.ofString "FILLER") 286), kk P "RENAMING" 289 (.int 66 288), kk P "ALONE" 291 (.int 77 290), kk P "Occurs" 335 (.ref 113), kk P "Named" 373 (.ref 141), kk P "Item" 451 (.ref 188), kk P "Data" 490 (.ref 214), kk P "MOST_SUBSCRIPTS" 494 (.int 7 493), kk P "FIGURE_NAMES" 528 (.ref 219), kk P "is_part_next" 537 (.ref 226), kk P "read_subscripts" 546 (.ref 233), kk P "read_part" 556 (.ref 240), kk P "read_ref" 568 (.ref 247), kk P "read_all" 576 (.ref 254), kk P "read_figure" 583 (.ref 261), kk P "read_operand" 592 (.ref 268), kk P "NAMING" 596 (.int 88 595), kk P "MOST_LEVEL" 598 (.int 49 597), kk P "MOST_NESTED" 600 (.int 20 599), kk P "USAGE_WORDS" 625 (.ref 269), kk P "no_expression" 632 (.ref 276), kk P "read_literal" 639 (.ref 283), kk P "read_occurs" 645 (.ref 288), kk P "read_sign" 654 (.ref 295), kk P "read_named_clause" 665 (.ref 302), kk P "clause_word" 673 (.ref 309), kk P "read_bare_clause" 683 (.ref 316), kk P "read_clauses" 694 (.ref 323), kk P "read_worths" 704 (.ref 330), kk P "read_renames" 713 (.ref 337), kk P "read_entry" 723 (.ref 344), kk P "is_level_here" 731 (.ref 351), kk P "put_beneath" 740 (.ref 358), kk P "nested" 753 (.ref 365), kk P "read_entries" 761 (.ref 372), kk P "read_file_entry" 773 (.ref 379), kk P "FIGURES" 777 (.str (.ofString "0123456789") 776), kk P "cut_quotient" 785 (.ref 386), kk P "decimal" 794 (.ref 394), kk P "negated" 801 (.ref 401), kk P "units_at" 812 (.ref 408), kk P "is_whole" 819 (.ref 415), kk P "whole_of" 826 (.ref 422), kk P "worth_of" 835 (.ref 429), kk P "read_decimal" 848 (.ref 436), kk P "MOST_OCTET" 852 (.int 255 851), kk P "RESERVED" 854 (.str (.ofString " ACCEPT ACCESS ADD ADVANCING AFTER ALL ALPHABETIC ALPHABETIC-LOWER ALPHABETIC-UPPER ALPHANUMERIC ALPHANUMERIC-EDITED ALSO ALTERNATE AND ANY ARE AREA AREAS ASCENDING ASSIGN AT AUTHOR BEFORE BINARY BLANK BLOCK BY CALL CHARACTER CHARACTERS CLOSE COMP COMP-3 COMPUTATIONAL COMPUTATIONAL-3 COMPUTE CONFIGURATION CONTAINS CONTENT CONTINUE CONVERTING COPY CORR CORRESPONDING COUNT DATA DATE-COMPILED DATE-WRITTEN DELETE DELIMITED DELIMITER DEPENDING DESCENDING DISPLAY DIVIDE DIVISION DOWN DUPLICATES DYNAMIC ELSE END END-ADD END-CALL END-COMPUTE END-DELETE END-DIVIDE END-EVALUATE END-IF END-MULTIPLY END-PERFORM END-READ END-RETURN END-REWRITE END-SEARCH END-START END-STRING END-SUBTRACT END-UNSTRING END-WRITE ENVIRONMENT EQUAL ERROR EVALUATE EXCEPTION EXIT EXTEND EXTERNAL FALSE FD FILE FILE-CONTROL FILLER FIRST FOR FROM GIVING GLOBAL GO GREATER HIGH-VALUE HIGH-VALUES I-O I-O-CONTROL IDENTIFICATION IF IN INDEX INDEXED INITIAL INITIALIZE INPUT INPUT-OUTPUT INSPECT INSTALLATION INTO INVALID IS JUST JUSTIFIED KEY LABEL LEADING LEFT LESS LINE LINES LINKAGE LOCK LOW-VALUE LOW-VALUES MERGE MODE MOVE MULTIPLY NATIVE NEGATIVE NEXT NO NOT NUMERIC NUMERIC-EDITED OBJECT-COMPUTER OCCURS OF OFF OMITTED ON OPEN OPTIONAL OR ORDER ORGANIZATION OTHER OUTPUT OVERFLOW PACKED-DECIMAL PERFORM PIC PICTURE POINTER POSITIVE PROCEDURE PROCEED PROGRAM PROGRAM-ID QUOTE QUOTES RANDOM READ RECORD RECORDS REDEFINES REFERENCE RELATIVE RELEASE REMAINDER RENAMES REPLACE REPLACING RETURN REWRITE RIGHT ROUNDED RUN SAME SD SEARCH SECTION SECURITY SELECT SENTENCE SEPARATE SEQUENTIAL SET SIGN SIZE SORT SORT-MERGE SOURCE-COMPUTER SPACE SPACES SPECIAL-NAMES STANDARD START STATUS STOP STRING SUBTRACT SYNC SYNCHRONIZED TALLYING TEST THAN THEN THROUGH THRU TIMES TO TRAILING TRUE UNSTRING UNTIL UP UPON USAGE USING VALUE VALUES VARYING WHEN WITH WORKING-STORAGE WRITE ZERO ZEROES ZEROS ") 853), kk P "is_reserved" 861 (.ref 443), kk P "octets_of_text" 867 (.ref 448), kk P "Reader" 1074 (.ref 617), kk P "Token" 1120 (.ref 647), kk P "_law_remarks" 1135 (.ref 658), kk P "_law_draw" 1145 (.ref 665), kk P "_law_heard" 1151 (.ref 670), kk P "_law_seen" 1157 (.ref 675), kk P "law" 1163 (.ref 680)] 70), #[]⟩
noncomputable def o12_15 (P : Params) : Obj := ⟨.none, .none, (.fields #[(.int 1 0), (.int 0 0), (.ref 20), (.int 5 0), (.int 0 0), (.ref 27), (.int 14 0), (.int 0 0), (.ref 56), (.int 16 0), (.int 0 0), (.ref 68), (.int 18 0), (.int 0 0), (.ref 80), (.int 24 0), (.int 0 0), (.ref 92), (.int 35 0), (.int 0 0), (.ref 123), (.int 43 0), (.int 0 0), (.ref 151), (.int 81 0), (.int 0 0), (.ref 198), (.int 97 0), (.int 0 0), (.ref 225), (.int 110 0), (.int 0 0), (.ref 232), (.int 118 0), (.int 0 0), (.ref 239), (.int 125 0), (.int 0 0), (.ref 246), (.int 135 0), (.int 0 0), (.ref 253), (.int 142 0), (.int 0 0), (.ref 260), (.int 146 0), (.int 0 0), (.ref 267), (.int 160 0), (.int 0 0), (.ref 275), (.int 162 0), (.int 0 0), (.ref 282), (.int 166 0), (.int 0 0), (.ref 287), (.int 187 0), (.int 0 0), (.ref 294), (.int 192 0), (.int 0 0), (.ref 301), (.int 220 0), (.int 0 0), (.ref 308), (.int 230 0), (.int 0 0), (.ref 315), (.int 245 0), (.int 0 0), (.ref 322), (.int 258 0), (.int 0 0), (.ref 329), (.int 269 0), (.int 0 0), (.ref 336), (.int 275 0), (.int 0 0), (.ref 343), (.int 293 0), (.int 0 0), (.ref 350), (.int 296 0), (.int 0 0), (.ref 357), (.int 308 0), (.int 0 0), (.ref 364), (.int 331 0), (.int 0 0), (.ref 371), (.int 336 0), (.int 0 0), (.ref 378), (.int 351 0), (.int 0 0), (.ref 385), (.int 355 0), (.int 0 0), (.ref 393), (.int 362 0), (.int 0 0), (.ref 400), (.int 364 0), (.int 0 0), (.ref 407), (.int 372 0), (.int 0 0), (.ref 414), (.int 374 0), (.int 0 0), (.ref 421), (.int 376 0), (.int 0 0), (.ref 428), (.int 381 0), (.int 0 0), (.ref 435), (.int 399 0), (.int 0 0), (.ref 442), (.int 401 0), (.int 0 0), (.ref 447), (.int 406 0), (.int 0 0), (.ref 454), (.int 530 0), (.int 0 0), (.ref 627), (.int 542 0), (.int 0 0), (.ref 664), (.int 546 0), (.int 0 0), (.ref 669), (.int 553 0), (.int 0 0), (.ref 674), (.int 555 0), (.int 0 0), (.ref 679)]), #[]⟩
noncomputable def o676_0 (P : Params) : Obj := ⟨(.type "tuple"), .none, (.seq #[] 0), #[]⟩
noncomputable def o677_0 (P : Params) : Obj := ⟨.none, .none, (.fields #[]), #[]⟩
noncomputable def o678_0 (P : Params) : Obj := ⟨.none, .none, (.func (fn (st 68) (.ofString "law") (.ofString "law") 0 [] .none .none .none .none .none .none .none 0)), #[]⟩
noncomputable def o679_0 (P : Params) : Obj := ⟨(.type "code"), .none, (.fields #[(.str (.ofString "law") 1158), (.str (.ofString "law") 1159), (.str (.ofString "/claim/cut.py") 1160), (.int 555 0), (.int 1 0), (.int 0 0), (.int 0 0), (.int 3 0), (.ref 676), (.bool true), (.int 181 0), (.ref 677), .none, .none, .none, (.ref 678), (.int 1161 0), (.int 555 0), (.str (.ofString "/claim/cut.py") 1162)]), #[]⟩
noncomputable def o680_0 (P : Params) : Obj := ⟨(.type "function"), .none, (.func (fn (st 68) (.ofString "law") (.ofString "law") 3 [] .none .none .none (.str (.ofString "law_pb0279_01") 1121) .none (.ref 679) .none 0)), #[]⟩
noncomputable def t15 (P : Params) : BT := (.node (boot_o_0 P) (.node (boot_o_1 P) (.node (o3_14 P) (.node (boot_o_7 P) (.node (o15_0 P) (.node (o31_0 P) (.node (o63_0 P) (.node (o127_0 P) (.node (o255_0 P) (.node (o511_0 P) .nil .nil) .nil) (.node (o383_0 P) (.node (o639_0 P) .nil .nil) .nil)) (.node (o191_0 P) (.node (o319_0 P) (.node (o575_0 P) .nil .nil) .nil) (.node (o447_0 P) .nil .nil))) (.node (o95_0 P) (.node (o159_0 P) (.node (o287_0 P) (.node (o543_0 P) .nil .nil) .nil) (.node (o415_0 P) (.node (o671_0 P) .nil .nil) .nil)) (.node (o223_0 P) (.node (o351_0 P) (.node (o607_0 P) .nil .nil) .nil) (.node (o479_0 P) .nil .nil)))) (.node (o47_3 P) (.node (o79_0 P) (.node (o143_0 P) (.node (o271_0 P) (.node (o527_0 P) .nil .nil) .nil) (.node (o399_0 P) (.node (o655_0 P) .nil .nil) .nil)) (.node (o207_0 P) (.node (o335_0 P) (.node (o591_0 P) .nil .nil) .nil) (.node (o463_0 P) .nil .nil))) (.node (o111_0 P) (.node (o175_0 P) (.node (o303_0 P) (.node (o559_0 P) .nil .nil) .nil) (.node (o431_0 P) .nil .nil)) (.node (o239_0 P) (.node (o367_0 P) (.node (o623_0 P) .nil .nil) .nil) (.node (o495_0 P) .nil .nil))))) (.node (o23_0 P) (.node (o39_0 P) (.node (o71_0 P) (.node (o135_0 P) (.node (o263_0 P) (.node (o519_0 P) .nil .nil) .nil) (.node (o391_0 P) (.node (o647_0 P) .nil .nil) .nil)) (.node (o199_0 P) (.node (o327_0 P) (.node (o583_0 P) .nil .nil) .nil) (.node (o455_0 P) .nil .nil))) (.node (o103_0 P) (.node (o167_0 P) (.node (o295_0 P) (.node (o551_0 P) .nil .nil) .nil) (.node (o423_0 P) (.node (o679_0 P) .nil .nil) .nil)) (.node (o231_0 P) (.node (o359_0 P) (.node (o615_0 P) .nil .nil) .nil) (.node (o487_0 P) .nil .nil)))) (.node (o55_0 P) (.node (o87_0 P) (.node (o151_0 P) (.node (o279_0 P) (.node (o535_0 P) .nil .nil) .nil) (.node (o407_0 P) (.node (o663_0 P) .nil .nil) .nil)) (.node (o215_0 P) (.node (o343_0 P) (.node (o599_0 P) .nil .nil) .nil) (.node (o471_0 P) .nil .nil))) (.node (o119_0 P) (.node (o183_0 P) (.node (o311_0 P) (.node (o567_0 P) .nil .nil) .nil) (.node (o439_0 P) .nil .nil)) (.node (o247_0 P) (.node (o375_0 P) (.node (o631_0 P) .nil .nil) .nil) (.node (o503_0 P) .nil .nil)))))) (.node (o11_0 P) (.node (o19_0 P) (.node (o35_0 P) (.node (o67_0 P) (.node (o131_0 P) (.node (o259_0 P) (.node (o515_0 P) .nil .nil) .nil) (.node (o387_0 P) (.node (o643_0 P) .nil .nil) .nil)) (.node (o195_0 P) (.node (o323_0 P) (.node (o579_0 P) .nil .nil) .nil) (.node (o451_0 P) .nil .nil))) (.node (o99_0 P) (.node (o163_0 P) (.node (o291_0 P) (.node (o547_0 P) .nil .nil) .nil) (.node (o419_0 P) (.node (o675_0 P) .nil .nil) .nil)) (.node (o227_0 P) (.node (o355_0 P) (.node (o611_0 P) .nil .nil) .nil) (.node (o483_0 P) .nil .nil)))) (.node (o51_0 P) (.node (o83_0 P) (.node (o147_0 P) (.node (o275_0 P) (.node (o531_0 P) .nil .nil) .nil) (.node (o403_0 P) (.node (o659_0 P) .nil .nil) .nil)) (.node (o211_0 P) (.node (o339_0 P) (.node (o595_0 P) .nil .nil) .nil) (.node (o467_0 P) .nil .nil))) (.node (o115_0 P) (.node (o179_0 P) (.node (o307_0 P) (.node (o563_0 P) .nil .nil) .nil) (.node (o435_0 P) .nil .nil)) (.node (o243_0 P) (.node (o371_0 P) (.node (o627_0 P) .nil .nil) .nil) (.node (o499_0 P) .nil .nil))))) (.node (o27_0 P) (.node (o43_0 P) (.node (o75_0 P) (.node (o139_0 P) (.node (o267_0 P) (.node (o523_0 P) .nil .nil) .nil) (.node (o395_0 P) (.node (o651_0 P) .nil .nil) .nil)) (.node (o203_0 P) (.node (o331_0 P) (.node (o587_0 P) .nil .nil) .nil) (.node (o459_0 P) .nil .nil))) (.node (o107_0 P) (.node (o171_0 P) (.node (o299_0 P) (.node (o555_0 P) .nil .nil) .nil) (.node (o427_0 P) .nil .nil)) (.node (o235_0 P) (.node (o363_0 P) (.node (o619_0 P) .nil .nil) .nil) (.node (o491_0 P) .nil .nil)))) (.node (o59_0 P) (.node (o91_0 P) (.node (o155_0 P) (.node (o283_0 P) (.node (o539_0 P) .nil .nil) .nil) (.node (o411_0 P) (.node (o667_0 P) .nil .nil) .nil)) (.node (o219_0 P) (.node (o347_0 P) (.node (o603_0 P) .nil .nil) .nil) (.node (o475_0 P) .nil .nil))) (.node (o123_0 P) (.node (o187_0 P) (.node (o315_0 P) (.node (o571_0 P) .nil .nil) .nil) (.node (o443_0 P) .nil .nil)) (.node (o251_0 P) (.node (o379_0 P) (.node (o635_0 P) .nil .nil) .nil) (.node (o507_0 P) .nil .nil))))))) (.node (boot_o_5 P) (.node (boot_o_9 P) (.node (o17_0 P) (.node (o33_0 P) (.node (o65_0 P) (.node (o129_0 P) (.node (o257_0 P) (.node (o513_0 P) .nil .nil) .nil) (.node (o385_0 P) (.node (o641_0 P) .nil .nil) .nil)) (.node (o193_0 P) (.node (o321_0 P) (.node (o577_0 P) .nil .nil) .nil) (.node (o449_0 P) .nil .nil))) (.node (o97_0 P) (.node (o161_0 P) (.node (o289_0 P) (.node (o545_0 P) .nil .nil) .nil) (.node (o417_0 P) (.node (o673_0 P) .nil .nil) .nil)) (.node (o225_0 P) (.node (o353_0 P) (.node (o609_0 P) .nil .nil) .nil) (.node (o481_0 P) .nil .nil)))) (.node (o49_0 P) (.node (o81_0 P) (.node (o145_0 P) (.node (o273_0 P) (.node (o529_0 P) .nil .nil) .nil) (.node (o401_0 P) (.node (o657_0 P) .nil .nil) .nil)) (.node (o209_0 P) (.node (o337_0 P) (.node (o593_0 P) .nil .nil) .nil) (.node (o465_0 P) .nil .nil))) (.node (o113_0 P) (.node (o177_0 P) (.node (o305_0 P) (.node (o561_0 P) .nil .nil) .nil) (.node (o433_0 P) .nil .nil)) (.node (o241_0 P) (.node (o369_0 P) (.node (o625_0 P) .nil .nil) .nil) (.node (o497_0 P) .nil .nil))))) (.node (o25_0 P) (.node (o41_0 P) (.node (o73_0 P) (.node (o137_0 P) (.node (o265_0 P) (.node (o521_0 P) .nil .nil) .nil) (.node (o393_0 P) (.node (o649_0 P) .nil .nil) .nil)) (.node (o201_0 P) (.node (o329_0 P) (.node (o585_0 P) .nil .nil) .nil) (.node (o457_0 P) .nil .nil))) (.node (o105_0 P) (.node (o169_0 P) (.node (o297_0 P) (.node (o553_0 P) .nil .nil) .nil) (.node (o425_0 P) .nil .nil)) (.node (o233_0 P) (.node (o361_0 P) (.node (o617_0 P) .nil .nil) .nil) (.node (o489_0 P) .nil .nil)))) (.node (o57_0 P) (.node (o89_0 P) (.node (o153_0 P) (.node (o281_0 P) (.node (o537_0 P) .nil .nil) .nil) (.node (o409_0 P) (.node (o665_0 P) .nil .nil) .nil)) (.node (o217_0 P) (.node (o345_0 P) (.node (o601_0 P) .nil .nil) .nil) (.node (o473_0 P) .nil .nil))) (.node (o121_0 P) (.node (o185_0 P) (.node (o313_0 P) (.node (o569_0 P) .nil .nil) .nil) (.node (o441_0 P) .nil .nil)) (.node (o249_0 P) (.node (o377_0 P) (.node (o633_0 P) .nil .nil) .nil) (.node (o505_0 P) .nil .nil)))))) (.node (o13_0 P) (.node (o21_0 P) (.node (o37_0 P) (.node (o69_0 P) (.node (o133_0 P) (.node (o261_0 P) (.node (o517_0 P) .nil .nil) .nil) (.node (o389_0 P) (.node (o645_0 P) .nil .nil) .nil)) (.node (o197_0 P) (.node (o325_0 P) (.node (o581_0 P) .nil .nil) .nil) (.node (o453_0 P) .nil .nil))) (.node (o101_0 P) (.node (o165_0 P) (.node (o293_0 P) (.node (o549_0 P) .nil .nil) .nil) (.node (o421_0 P) (.node (o677_0 P) .nil .nil) .nil)) (.node (o229_0 P) (.node (o357_0 P) (.node (o613_0 P) .nil .nil) .nil) (.node (o485_0 P) .nil .nil)))) (.node (o53_0 P) (.node (o85_0 P) (.node (o149_0 P) (.node (o277_0 P) (.node (o533_0 P) .nil .nil) .nil) (.node (o405_0 P) (.node (o661_0 P) .nil .nil) .nil)) (.node (o213_0 P) (.node (o341_0 P) (.node (o597_0 P) .nil .nil) .nil) (.node (o469_0 P) .nil .nil))) (.node (o117_0 P) (.node (o181_0 P) (.node (o309_0 P) (.node (o565_0 P) .nil .nil) .nil) (.node (o437_0 P) .nil .nil)) (.node (o245_0 P) (.node (o373_0 P) (.node (o629_0 P) .nil .nil) .nil) (.node (o501_0 P) .nil .nil))))) (.node (o29_0 P) (.node (o45_0 P) (.node (o77_0 P) (.node (o141_0 P) (.node (o269_0 P) (.node (o525_0 P) .nil .nil) .nil) (.node (o397_0 P) (.node (o653_0 P) .nil .nil) .nil)) (.node (o205_0 P) (.node (o333_0 P) (.node (o589_0 P) .nil .nil) .nil) (.node (o461_0 P) .nil .nil))) (.node (o109_0 P) (.node (o173_0 P) (.node (o301_0 P) (.node (o557_0 P) .nil .nil) .nil) (.node (o429_0 P) .nil .nil)) (.node (o237_0 P) (.node (o365_0 P) (.node (o621_0 P) .nil .nil) .nil) (.node (o493_0 P) .nil .nil)))) (.node (o61_0 P) (.node (o93_0 P) (.node (o157_0 P) (.node (o285_0 P) (.node (o541_0 P) .nil .nil) .nil) (.node (o413_0 P) (.node (o669_0 P) .nil .nil) .nil)) (.node (o221_0 P) (.node (o349_0 P) (.node (o605_0 P) .nil .nil) .nil) (.node (o477_0 P) .nil .nil))) (.node (o125_0 P) (.node (o189_0 P) (.node (o317_0 P) (.node (o573_0 P) .nil .nil) .nil) (.node (o445_0 P) .nil .nil)) (.node (o253_0 P) (.node (o381_0 P) (.node (o637_0 P) .nil .nil) .nil) (.node (o509_0 P) .nil .nil)))))))) (.node (o2_0 P) (.node (boot_o_4 P) (.node (boot_o_8 P) (.node (o16_0 P) (.node (o32_0 P) (.node (o64_0 P) (.node (o128_0 P) (.node (o256_0 P) (.node (o512_0 P) .nil .nil) .nil) (.node (o384_0 P) (.node (o640_0 P) .nil .nil) .nil)) (.node (o192_0 P) (.node (o320_0 P) (.node (o576_0 P) .nil .nil) .nil) (.node (o448_0 P) .nil .nil))) (.node (o96_0 P) (.node (o160_0 P) (.node (o288_0 P) (.node (o544_0 P) .nil .nil) .nil) (.node (o416_0 P) (.node (o672_0 P) .nil .nil) .nil)) (.node (o224_0 P) (.node (o352_0 P) (.node (o608_0 P) .nil .nil) .nil) (.node (o480_0 P) .nil .nil)))) (.node (o48_0 P) (.node (o80_0 P) (.node (o144_0 P) (.node (o272_0 P) (.node (o528_0 P) .nil .nil) .nil) (.node (o400_0 P) (.node (o656_0 P) .nil .nil) .nil)) (.node (o208_0 P) (.node (o336_0 P) (.node (o592_0 P) .nil .nil) .nil) (.node (o464_0 P) .nil .nil))) (.node (o112_0 P) (.node (o176_0 P) (.node (o304_0 P) (.node (o560_0 P) .nil .nil) .nil) (.node (o432_0 P) .nil .nil)) (.node (o240_0 P) (.node (o368_0 P) (.node (o624_0 P) .nil .nil) .nil) (.node (o496_0 P) .nil .nil))))) (.node (o24_0 P) (.node (o40_0 P) (.node (o72_0 P) (.node (o136_0 P) (.node (o264_0 P) (.node (o520_0 P) .nil .nil) .nil) (.node (o392_0 P) (.node (o648_0 P) .nil .nil) .nil)) (.node (o200_0 P) (.node (o328_0 P) (.node (o584_0 P) .nil .nil) .nil) (.node (o456_0 P) .nil .nil))) (.node (o104_0 P) (.node (o168_0 P) (.node (o296_0 P) (.node (o552_0 P) .nil .nil) .nil) (.node (o424_0 P) (.node (o680_0 P) .nil .nil) .nil)) (.node (o232_0 P) (.node (o360_0 P) (.node (o616_0 P) .nil .nil) .nil) (.node (o488_0 P) .nil .nil)))) (.node (o56_0 P) (.node (o88_0 P) (.node (o152_0 P) (.node (o280_0 P) (.node (o536_0 P) .nil .nil) .nil) (.node (o408_0 P) (.node (o664_0 P) .nil .nil) .nil)) (.node (o216_0 P) (.node (o344_0 P) (.node (o600_0 P) .nil .nil) .nil) (.node (o472_0 P) .nil .nil))) (.node (o120_0 P) (.node (o184_0 P) (.node (o312_0 P) (.node (o568_0 P) .nil .nil) .nil) (.node (o440_0 P) .nil .nil)) (.node (o248_0 P) (.node (o376_0 P) (.node (o632_0 P) .nil .nil) .nil) (.node (o504_0 P) .nil .nil)))))) (.node (o12_15 P) (.node (o20_0 P) (.node (o36_0 P) (.node (o68_0 P) (.node (o132_0 P) (.node (o260_0 P) (.node (o516_0 P) .nil .nil) .nil) (.node (o388_0 P) (.node (o644_0 P) .nil .nil) .nil)) (.node (o196_0 P) (.node (o324_0 P) (.node (o580_0 P) .nil .nil) .nil) (.node (o452_0 P) .nil .nil))) (.node (o100_0 P) (.node (o164_0 P) (.node (o292_0 P) (.node (o548_0 P) .nil .nil) .nil) (.node (o420_0 P) (.node (o676_0 P) .nil .nil) .nil)) (.node (o228_0 P) (.node (o356_0 P) (.node (o612_0 P) .nil .nil) .nil) (.node (o484_0 P) .nil .nil)))) (.node (o52_0 P) (.node (o84_0 P) (.node (o148_0 P) (.node (o276_0 P) (.node (o532_0 P) .nil .nil) .nil) (.node (o404_0 P) (.node (o660_0 P) .nil .nil) .nil)) (.node (o212_0 P) (.node (o340_0 P) (.node (o596_0 P) .nil .nil) .nil) (.node (o468_0 P) .nil .nil))) (.node (o116_0 P) (.node (o180_0 P) (.node (o308_0 P) (.node (o564_0 P) .nil .nil) .nil) (.node (o436_0 P) .nil .nil)) (.node (o244_0 P) (.node (o372_0 P) (.node (o628_0 P) .nil .nil) .nil) (.node (o500_0 P) .nil .nil))))) (.node (o28_0 P) (.node (o44_0 P) (.node (o76_0 P) (.node (o140_0 P) (.node (o268_0 P) (.node (o524_0 P) .nil .nil) .nil) (.node (o396_0 P) (.node (o652_0 P) .nil .nil) .nil)) (.node (o204_0 P) (.node (o332_0 P) (.node (o588_0 P) .nil .nil) .nil) (.node (o460_0 P) .nil .nil))) (.node (o108_0 P) (.node (o172_0 P) (.node (o300_0 P) (.node (o556_0 P) .nil .nil) .nil) (.node (o428_0 P) .nil .nil)) (.node (o236_0 P) (.node (o364_0 P) (.node (o620_0 P) .nil .nil) .nil) (.node (o492_0 P) .nil .nil)))) (.node (o60_0 P) (.node (o92_0 P) (.node (o156_0 P) (.node (o284_0 P) (.node (o540_0 P) .nil .nil) .nil) (.node (o412_0 P) (.node (o668_0 P) .nil .nil) .nil)) (.node (o220_0 P) (.node (o348_0 P) (.node (o604_0 P) .nil .nil) .nil) (.node (o476_0 P) .nil .nil))) (.node (o124_0 P) (.node (o188_0 P) (.node (o316_0 P) (.node (o572_0 P) .nil .nil) .nil) (.node (o444_0 P) .nil .nil)) (.node (o252_0 P) (.node (o380_0 P) (.node (o636_0 P) .nil .nil) .nil) (.node (o508_0 P) .nil .nil))))))) (.node (boot_o_6 P) (.node (boot_o_10 P) (.node (o18_0 P) (.node (o34_0 P) (.node (o66_0 P) (.node (o130_0 P) (.node (o258_0 P) (.node (o514_0 P) .nil .nil) .nil) (.node (o386_0 P) (.node (o642_0 P) .nil .nil) .nil)) (.node (o194_0 P) (.node (o322_0 P) (.node (o578_0 P) .nil .nil) .nil) (.node (o450_0 P) .nil .nil))) (.node (o98_0 P) (.node (o162_0 P) (.node (o290_0 P) (.node (o546_0 P) .nil .nil) .nil) (.node (o418_0 P) (.node (o674_0 P) .nil .nil) .nil)) (.node (o226_0 P) (.node (o354_0 P) (.node (o610_0 P) .nil .nil) .nil) (.node (o482_0 P) .nil .nil)))) (.node (o50_0 P) (.node (o82_0 P) (.node (o146_0 P) (.node (o274_0 P) (.node (o530_0 P) .nil .nil) .nil) (.node (o402_0 P) (.node (o658_0 P) .nil .nil) .nil)) (.node (o210_0 P) (.node (o338_0 P) (.node (o594_0 P) .nil .nil) .nil) (.node (o466_0 P) .nil .nil))) (.node (o114_0 P) (.node (o178_0 P) (.node (o306_0 P) (.node (o562_0 P) .nil .nil) .nil) (.node (o434_0 P) .nil .nil)) (.node (o242_0 P) (.node (o370_0 P) (.node (o626_0 P) .nil .nil) .nil) (.node (o498_0 P) .nil .nil))))) (.node (o26_0 P) (.node (o42_0 P) (.node (o74_0 P) (.node (o138_0 P) (.node (o266_0 P) (.node (o522_0 P) .nil .nil) .nil) (.node (o394_0 P) (.node (o650_0 P) .nil .nil) .nil)) (.node (o202_0 P) (.node (o330_0 P) (.node (o586_0 P) .nil .nil) .nil) (.node (o458_0 P) .nil .nil))) (.node (o106_0 P) (.node (o170_0 P) (.node (o298_0 P) (.node (o554_0 P) .nil .nil) .nil) (.node (o426_0 P) .nil .nil)) (.node (o234_0 P) (.node (o362_0 P) (.node (o618_0 P) .nil .nil) .nil) (.node (o490_0 P) .nil .nil)))) (.node (o58_0 P) (.node (o90_0 P) (.node (o154_0 P) (.node (o282_0 P) (.node (o538_0 P) .nil .nil) .nil) (.node (o410_0 P) (.node (o666_0 P) .nil .nil) .nil)) (.node (o218_0 P) (.node (o346_0 P) (.node (o602_0 P) .nil .nil) .nil) (.node (o474_0 P) .nil .nil))) (.node (o122_0 P) (.node (o186_0 P) (.node (o314_0 P) (.node (o570_0 P) .nil .nil) .nil) (.node (o442_0 P) .nil .nil)) (.node (o250_0 P) (.node (o378_0 P) (.node (o634_0 P) .nil .nil) .nil) (.node (o506_0 P) .nil .nil)))))) (.node (o14_0 P) (.node (o22_0 P) (.node (o38_0 P) (.node (o70_0 P) (.node (o134_0 P) (.node (o262_0 P) (.node (o518_0 P) .nil .nil) .nil) (.node (o390_0 P) (.node (o646_0 P) .nil .nil) .nil)) (.node (o198_0 P) (.node (o326_0 P) (.node (o582_0 P) .nil .nil) .nil) (.node (o454_0 P) .nil .nil))) (.node (o102_0 P) (.node (o166_0 P) (.node (o294_0 P) (.node (o550_0 P) .nil .nil) .nil) (.node (o422_0 P) (.node (o678_0 P) .nil .nil) .nil)) (.node (o230_0 P) (.node (o358_0 P) (.node (o614_0 P) .nil .nil) .nil) (.node (o486_0 P) .nil .nil)))) (.node (o54_0 P) (.node (o86_0 P) (.node (o150_0 P) (.node (o278_0 P) (.node (o534_0 P) .nil .nil) .nil) (.node (o406_0 P) (.node (o662_0 P) .nil .nil) .nil)) (.node (o214_0 P) (.node (o342_0 P) (.node (o598_0 P) .nil .nil) .nil) (.node (o470_0 P) .nil .nil))) (.node (o118_0 P) (.node (o182_0 P) (.node (o310_0 P) (.node (o566_0 P) .nil .nil) .nil) (.node (o438_0 P) .nil .nil)) (.node (o246_0 P) (.node (o374_0 P) (.node (o630_0 P) .nil .nil) .nil) (.node (o502_0 P) .nil .nil))))) (.node (o30_0 P) (.node (o46_0 P) (.node (o78_0 P) (.node (o142_0 P) (.node (o270_0 P) (.node (o526_0 P) .nil .nil) .nil) (.node (o398_0 P) (.node (o654_0 P) .nil .nil) .nil)) (.node (o206_0 P) (.node (o334_0 P) (.node (o590_0 P) .nil .nil) .nil) (.node (o462_0 P) .nil .nil))) (.node (o110_0 P) (.node (o174_0 P) (.node (o302_0 P) (.node (o558_0 P) .nil .nil) .nil) (.node (o430_0 P) .nil .nil)) (.node (o238_0 P) (.node (o366_0 P) (.node (o622_0 P) .nil .nil) .nil) (.node (o494_0 P) .nil .nil)))) (.node (o62_0 P) (.node (o94_0 P) (.node (o158_0 P) (.node (o286_0 P) (.node (o542_0 P) .nil .nil) .nil) (.node (o414_0 P) (.node (o670_0 P) .nil .nil) .nil)) (.node (o222_0 P) (.node (o350_0 P) (.node (o606_0 P) .nil .nil) .nil) (.node (o478_0 P) .nil .nil))) (.node (o126_0 P) (.node (o190_0 P) (.node (o318_0 P) (.node (o574_0 P) .nil .nil) .nil) (.node (o446_0 P) .nil .nil)) (.node (o254_0 P) (.node (o382_0 P) (.node (o638_0 P) .nil .nil) .nil) (.node (o510_0 P) .nil .nil)))))))))
noncomputable def S15 (w : World) (os : OsState) : SharedT := ⟨t15 w.params, 681, { }, #[], { }, 1164, os⟩
noncomputable def hF (P : Params) : Heap := ⟨#[boot_o_0 P, boot_o_1 P, o2_0 P, o3_14 P, boot_o_4 P, boot_o_5 P, boot_o_6 P, boot_o_7 P, boot_o_8 P, boot_o_9 P, boot_o_10 P, o11_0 P, o12_15 P, o13_0 P, o14_0 P, o15_0 P, o16_0 P, o17_0 P, o18_0 P, o19_0 P, o20_0 P, o21_0 P, o22_0 P, o23_0 P, o24_0 P, o25_0 P, o26_0 P, o27_0 P, o28_0 P, o29_0 P, o30_0 P, o31_0 P, o32_0 P, o33_0 P, o34_0 P, o35_0 P, o36_0 P, o37_0 P, o38_0 P, o39_0 P, o40_0 P, o41_0 P, o42_0 P, o43_0 P, o44_0 P, o45_0 P, o46_0 P, o47_3 P, o48_0 P, o49_0 P, o50_0 P, o51_0 P, o52_0 P, o53_0 P, o54_0 P, o55_0 P, o56_0 P, o57_0 P, o58_0 P, o59_0 P, o60_0 P, o61_0 P, o62_0 P, o63_0 P, o64_0 P, o65_0 P, o66_0 P, o67_0 P, o68_0 P, o69_0 P, o70_0 P, o71_0 P, o72_0 P, o73_0 P, o74_0 P, o75_0 P, o76_0 P, o77_0 P, o78_0 P, o79_0 P, o80_0 P, o81_0 P, o82_0 P, o83_0 P, o84_0 P, o85_0 P, o86_0 P, o87_0 P, o88_0 P, o89_0 P, o90_0 P, o91_0 P, o92_0 P, o93_0 P, o94_0 P, o95_0 P, o96_0 P, o97_0 P, o98_0 P, o99_0 P, o100_0 P, o101_0 P, o102_0 P, o103_0 P, o104_0 P, o105_0 P, o106_0 P, o107_0 P, o108_0 P, o109_0 P, o110_0 P, o111_0 P, o112_0 P, o113_0 P, o114_0 P, o115_0 P, o116_0 P, o117_0 P, o118_0 P, o119_0 P, o120_0 P, o121_0 P, o122_0 P, o123_0 P, o124_0 P, o125_0 P, o126_0 P, o127_0 P, o128_0 P, o129_0 P, o130_0 P, o131_0 P, o132_0 P, o133_0 P, o134_0 P, o135_0 P, o136_0 P, o137_0 P, o138_0 P, o139_0 P, o140_0 P, o141_0 P, o142_0 P, o143_0 P, o144_0 P, o145_0 P, o146_0 P, o147_0 P, o148_0 P, o149_0 P, o150_0 P, o151_0 P, o152_0 P, o153_0 P, o154_0 P, o155_0 P, o156_0 P, o157_0 P, o158_0 P, o159_0 P, o160_0 P, o161_0 P, o162_0 P, o163_0 P, o164_0 P, o165_0 P, o166_0 P, o167_0 P, o168_0 P, o169_0 P, o170_0 P, o171_0 P, o172_0 P, o173_0 P, o174_0 P, o175_0 P, o176_0 P, o177_0 P, o178_0 P, o179_0 P, o180_0 P, o181_0 P, o182_0 P, o183_0 P, o184_0 P, o185_0 P, o186_0 P, o187_0 P, o188_0 P, o189_0 P, o190_0 P, o191_0 P, o192_0 P, o193_0 P, o194_0 P, o195_0 P, o196_0 P, o197_0 P, o198_0 P, o199_0 P, o200_0 P, o201_0 P, o202_0 P, o203_0 P, o204_0 P, o205_0 P, o206_0 P, o207_0 P, o208_0 P, o209_0 P, o210_0 P, o211_0 P, o212_0 P, o213_0 P, o214_0 P, o215_0 P, o216_0 P, o217_0 P, o218_0 P, o219_0 P, o220_0 P, o221_0 P, o222_0 P, o223_0 P, o224_0 P, o225_0 P, o226_0 P, o227_0 P, o228_0 P, o229_0 P, o230_0 P, o231_0 P, o232_0 P, o233_0 P, o234_0 P, o235_0 P, o236_0 P, o237_0 P, o238_0 P, o239_0 P, o240_0 P, o241_0 P, o242_0 P, o243_0 P, o244_0 P, o245_0 P, o246_0 P, o247_0 P, o248_0 P, o249_0 P, o250_0 P, o251_0 P, o252_0 P, o253_0 P, o254_0 P, o255_0 P, o256_0 P, o257_0 P, o258_0 P, o259_0 P, o260_0 P, o261_0 P, o262_0 P, o263_0 P, o264_0 P, o265_0 P, o266_0 P, o267_0 P, o268_0 P, o269_0 P, o270_0 P, o271_0 P, o272_0 P, o273_0 P, o274_0 P, o275_0 P, o276_0 P, o277_0 P, o278_0 P, o279_0 P, o280_0 P, o281_0 P, o282_0 P, o283_0 P, o284_0 P, o285_0 P, o286_0 P, o287_0 P, o288_0 P, o289_0 P, o290_0 P, o291_0 P, o292_0 P, o293_0 P, o294_0 P, o295_0 P, o296_0 P, o297_0 P, o298_0 P, o299_0 P, o300_0 P, o301_0 P, o302_0 P, o303_0 P, o304_0 P, o305_0 P, o306_0 P, o307_0 P, o308_0 P, o309_0 P, o310_0 P, o311_0 P, o312_0 P, o313_0 P, o314_0 P, o315_0 P, o316_0 P, o317_0 P, o318_0 P, o319_0 P, o320_0 P, o321_0 P, o322_0 P, o323_0 P, o324_0 P, o325_0 P, o326_0 P, o327_0 P, o328_0 P, o329_0 P, o330_0 P, o331_0 P, o332_0 P, o333_0 P, o334_0 P, o335_0 P, o336_0 P, o337_0 P, o338_0 P, o339_0 P, o340_0 P, o341_0 P, o342_0 P, o343_0 P, o344_0 P, o345_0 P, o346_0 P, o347_0 P, o348_0 P, o349_0 P, o350_0 P, o351_0 P, o352_0 P, o353_0 P, o354_0 P, o355_0 P, o356_0 P, o357_0 P, o358_0 P, o359_0 P, o360_0 P, o361_0 P, o362_0 P, o363_0 P, o364_0 P, o365_0 P, o366_0 P, o367_0 P, o368_0 P, o369_0 P, o370_0 P, o371_0 P, o372_0 P, o373_0 P, o374_0 P, o375_0 P, o376_0 P, o377_0 P, o378_0 P, o379_0 P, o380_0 P, o381_0 P, o382_0 P, o383_0 P, o384_0 P, o385_0 P, o386_0 P, o387_0 P, o388_0 P, o389_0 P, o390_0 P, o391_0 P, o392_0 P, o393_0 P, o394_0 P, o395_0 P, o396_0 P, o397_0 P, o398_0 P, o399_0 P, o400_0 P, o401_0 P, o402_0 P, o403_0 P, o404_0 P, o405_0 P, o406_0 P, o407_0 P, o408_0 P, o409_0 P, o410_0 P, o411_0 P, o412_0 P, o413_0 P, o414_0 P, o415_0 P, o416_0 P, o417_0 P, o418_0 P, o419_0 P, o420_0 P, o421_0 P, o422_0 P, o423_0 P, o424_0 P, o425_0 P, o426_0 P, o427_0 P, o428_0 P, o429_0 P, o430_0 P, o431_0 P, o432_0 P, o433_0 P, o434_0 P, o435_0 P, o436_0 P, o437_0 P, o438_0 P, o439_0 P, o440_0 P, o441_0 P, o442_0 P, o443_0 P, o444_0 P, o445_0 P, o446_0 P, o447_0 P, o448_0 P, o449_0 P, o450_0 P, o451_0 P, o452_0 P, o453_0 P, o454_0 P, o455_0 P, o456_0 P, o457_0 P, o458_0 P, o459_0 P, o460_0 P, o461_0 P, o462_0 P, o463_0 P, o464_0 P, o465_0 P, o466_0 P, o467_0 P, o468_0 P, o469_0 P, o470_0 P, o471_0 P, o472_0 P, o473_0 P, o474_0 P, o475_0 P, o476_0 P, o477_0 P, o478_0 P, o479_0 P, o480_0 P, o481_0 P, o482_0 P, o483_0 P, o484_0 P, o485_0 P, o486_0 P, o487_0 P, o488_0 P, o489_0 P, o490_0 P, o491_0 P, o492_0 P, o493_0 P, o494_0 P, o495_0 P, o496_0 P, o497_0 P, o498_0 P, o499_0 P, o500_0 P, o501_0 P, o502_0 P, o503_0 P, o504_0 P, o505_0 P, o506_0 P, o507_0 P, o508_0 P, o509_0 P, o510_0 P, o511_0 P, o512_0 P, o513_0 P, o514_0 P, o515_0 P, o516_0 P, o517_0 P, o518_0 P, o519_0 P, o520_0 P, o521_0 P, o522_0 P, o523_0 P, o524_0 P, o525_0 P, o526_0 P, o527_0 P, o528_0 P, o529_0 P, o530_0 P, o531_0 P, o532_0 P, o533_0 P, o534_0 P, o535_0 P, o536_0 P, o537_0 P, o538_0 P, o539_0 P, o540_0 P, o541_0 P, o542_0 P, o543_0 P, o544_0 P, o545_0 P, o546_0 P, o547_0 P, o548_0 P, o549_0 P, o550_0 P, o551_0 P, o552_0 P, o553_0 P, o554_0 P, o555_0 P, o556_0 P, o557_0 P, o558_0 P, o559_0 P, o560_0 P, o561_0 P, o562_0 P, o563_0 P, o564_0 P, o565_0 P, o566_0 P, o567_0 P, o568_0 P, o569_0 P, o570_0 P, o571_0 P, o572_0 P, o573_0 P, o574_0 P, o575_0 P, o576_0 P, o577_0 P, o578_0 P, o579_0 P, o580_0 P, o581_0 P, o582_0 P, o583_0 P, o584_0 P, o585_0 P, o586_0 P, o587_0 P, o588_0 P, o589_0 P, o590_0 P, o591_0 P, o592_0 P, o593_0 P, o594_0 P, o595_0 P, o596_0 P, o597_0 P, o598_0 P, o599_0 P, o600_0 P, o601_0 P, o602_0 P, o603_0 P, o604_0 P, o605_0 P, o606_0 P, o607_0 P, o608_0 P, o609_0 P, o610_0 P, o611_0 P, o612_0 P, o613_0 P, o614_0 P, o615_0 P, o616_0 P, o617_0 P, o618_0 P, o619_0 P, o620_0 P, o621_0 P, o622_0 P, o623_0 P, o624_0 P, o625_0 P, o626_0 P, o627_0 P, o628_0 P, o629_0 P, o630_0 P, o631_0 P, o632_0 P, o633_0 P, o634_0 P, o635_0 P, o636_0 P, o637_0 P, o638_0 P, o639_0 P, o640_0 P, o641_0 P, o642_0 P, o643_0 P, o644_0 P, o645_0 P, o646_0 P, o647_0 P, o648_0 P, o649_0 P, o650_0 P, o651_0 P, o652_0 P, o653_0 P, o654_0 P, o655_0 P, o656_0 P, o657_0 P, o658_0 P, o659_0 P, o660_0 P, o661_0 P, o662_0 P, o663_0 P, o664_0 P, o665_0 P, o666_0 P, o667_0 P, o668_0 P, o669_0 P, o670_0 P, o671_0 P, o672_0 P, o673_0 P, o674_0 P, o675_0 P, o676_0 P, o677_0 P, o678_0 P, o679_0 P, o680_0 P], { }⟩
abbrev bE : List Stmt := behindTheImports PG
noncomputable def env1 : Env := { scope := PG.main.scope, locals := mainNs, globals := mainNs, cells := [], code := .ref 13, frame := some 14 }
noncomputable abbrev cE : Code := .body bE env1
abbrev q0 : Pos := ⟨0, 0, 0, 0⟩
abbrev an0 : Option Value := some (.ref 6)
theorem gpre (w : World) : (fun os => topGo treeTable PG w 11 an0 12 ⟨boot_heap w.params, Array.mk [], boot_drawn, boot_toks, os⟩ (topStub PG)) = fun os => some (⟨hA w.params, #[], {}, 187, os⟩, ⟨denote treeTable cE, cE, q0, [topFrame q0]⟩) := by
  rw [PySem.W.Fast.te15667345088766844465, PySem.W.Fast.te11892475500146522536, PySem.W.Fast.te14364793385576792824]; kernel_rfl
theorem gblock (w : World) : (fun os => segRun treeTable PG w 11 an0 1 1 ⟨hA w.params, #[], {}, 187, os⟩ (blockOf bE env1 cE q0 [topFrame q0])) = fun os => some (Flow.next, (S0 w os).abs, cE, q0) := by
  rw [PySem.W.Fast.te14374325043358763698, PySem.W.Fast.te14364793385576792824]; kernel_rfl
theorem g1 (w : World) : (fun os => segRunT treeTable PG w 11 an0 1 305 (S0 w os) (piecesOf ((bE.drop 0).take 3) env1 cE q0 [topFrame q0])) = fun os => some (Flow.next, S1 w os, cE, ⟨5, 0, 13, 35⟩) := by
  rw [PySem.W.Fast.te10110043849684766642, PySem.W.Fast.te14364793385576792824]; kernel_rfl
theorem g2 (w : World) : (fun os => segRunT treeTable PG w 11 an0 1 214 (S1 w os) (piecesOf ((bE.drop 3).take 1) env1 cE ⟨5, 0, 13, 35⟩ [topFrame q0])) = fun os => some (Flow.next, S2 w os, cE, ⟨14, 0, 15, 8⟩) := by
  rw [PySem.W.Fast.te10110043849684766642, PySem.W.Fast.te14364793385576792824]; kernel_rfl
theorem g3 (w : World) : (fun os => segRunT treeTable PG w 11 an0 1 214 (S2 w os) (piecesOf ((bE.drop 4).take 1) env1 cE ⟨14, 0, 15, 8⟩ [topFrame q0])) = fun os => some (Flow.next, S3 w os, cE, ⟨16, 0, 17, 8⟩) := by
  rw [PySem.W.Fast.te10110043849684766642, PySem.W.Fast.te14364793385576792824]; kernel_rfl
theorem g4 (w : World) : (fun os => segRunT treeTable PG w 11 an0 1 250 (S3 w os) (piecesOf ((bE.drop 5).take 5) env1 cE ⟨16, 0, 17, 8⟩ [topFrame q0])) = fun os => some (Flow.next, S4 w os, cE, ⟨23, 0, 23, 5⟩) := by
  rw [PySem.W.Fast.te10110043849684766642, PySem.W.Fast.te14364793385576792824]; kernel_rfl
theorem g5 (w : World) : (fun os => segRunT treeTable PG w 11 an0 1 267 (S4 w os) (piecesOf ((bE.drop 10).take 1) env1 cE ⟨23, 0, 23, 5⟩ [topFrame q0])) = fun os => some (Flow.next, S5 w os, cE, ⟨24, 0, 34, 77⟩) := by
  rw [PySem.W.Fast.te10110043849684766642, PySem.W.Fast.te14364793385576792824]; kernel_rfl
theorem g6 (w : World) : (fun os => segRunT treeTable PG w 11 an0 1 256 (S5 w os) (piecesOf ((bE.drop 11).take 1) env1 cE ⟨24, 0, 34, 77⟩ [topFrame q0])) = fun os => some (Flow.next, S6 w os, cE, ⟨35, 0, 42, 37⟩) := by
  rw [PySem.W.Fast.te10110043849684766642, PySem.W.Fast.te14364793385576792824]; kernel_rfl
theorem g7 (w : World) : (fun os => segRunT treeTable PG w 11 an0 1 366 (S6 w os) (piecesOf ((bE.drop 12).take 1) env1 cE ⟨35, 0, 42, 37⟩ [topFrame q0])) = fun os => some (Flow.next, S7 w os, cE, ⟨43, 0, 80, 103⟩) := by
  rw [PySem.W.Fast.te10110043849684766642, PySem.W.Fast.te14364793385576792824]; kernel_rfl
theorem g8 (w : World) : (fun os => segRunT treeTable PG w 11 an0 1 273 (S7 w os) (piecesOf ((bE.drop 13).take 3) env1 cE ⟨43, 0, 80, 103⟩ [topFrame q0])) = fun os => some (Flow.next, S8 w os, cE, ⟨95, 0, 95, 15⟩) := by
  rw [PySem.W.Fast.te10110043849684766642, PySem.W.Fast.te14364793385576792824]; kernel_rfl
theorem g9false (w : World) : (fun os => segRunT treeTable PG (w.withFollow "special-get-raises" false) 11 an0 1 394 (S8 (w.withFollow "special-get-raises" false) os) (piecesOf ((bE.drop 16).take 8) env1 cE ⟨95, 0, 95, 15⟩ [topFrame q0])) = fun os => some (Flow.next, S9 (w.withFollow "special-get-raises" false) os, cE, ⟨146, 0, 154, 68⟩) := by
  rw [PySem.W.Fast.te10110043849684766642, PySem.W.Fast.te14364793385576792824]; kernel_rfl
theorem g9true (w : World) : (fun os => segRunT treeTable PG (w.withFollow "special-get-raises" true) 11 an0 1 394 (S8 (w.withFollow "special-get-raises" true) os) (piecesOf ((bE.drop 16).take 8) env1 cE ⟨95, 0, 95, 15⟩ [topFrame q0])) = fun os => some (Flow.next, S9 (w.withFollow "special-get-raises" true) os, cE, ⟨146, 0, 154, 68⟩) := by
  rw [PySem.W.Fast.te10110043849684766642, PySem.W.Fast.te14364793385576792824]; kernel_rfl
theorem g9 (w : World) : (fun os => segRunT treeTable PG w 11 an0 1 394 (S8 w os) (piecesOf ((bE.drop 16).take 8) env1 cE ⟨95, 0, 95, 15⟩ [topFrame q0])) = fun os => some (Flow.next, S9 w os, cE, ⟨146, 0, 154, 68⟩) := byRow2 "special-get-raises" (P := fun w => (fun os => segRunT treeTable PG w 11 an0 1 394 (S8 w os) (piecesOf ((bE.drop 16).take 8) env1 cE ⟨95, 0, 95, 15⟩ [topFrame q0])) = fun os => some (Flow.next, S9 w os, cE, ⟨146, 0, 154, 68⟩)) g9false g9true w
theorem g10false (w : World) : (fun os => segRunT treeTable PG (w.withFollow "special-get-raises" false) 11 an0 1 377 (S9 (w.withFollow "special-get-raises" false) os) (piecesOf ((bE.drop 24).take 12) env1 cE ⟨146, 0, 154, 68⟩ [topFrame q0])) = fun os => some (Flow.next, S10 (w.withFollow "special-get-raises" false) os, cE, ⟨230, 0, 244, 13⟩) := by
  rw [PySem.W.Fast.te10110043849684766642, PySem.W.Fast.te14364793385576792824]; kernel_rfl
theorem g10true (w : World) : (fun os => segRunT treeTable PG (w.withFollow "special-get-raises" true) 11 an0 1 377 (S9 (w.withFollow "special-get-raises" true) os) (piecesOf ((bE.drop 24).take 12) env1 cE ⟨146, 0, 154, 68⟩ [topFrame q0])) = fun os => some (Flow.next, S10 (w.withFollow "special-get-raises" true) os, cE, ⟨230, 0, 244, 13⟩) := by
  rw [PySem.W.Fast.te10110043849684766642, PySem.W.Fast.te14364793385576792824]; kernel_rfl
theorem g10 (w : World) : (fun os => segRunT treeTable PG w 11 an0 1 377 (S9 w os) (piecesOf ((bE.drop 24).take 12) env1 cE ⟨146, 0, 154, 68⟩ [topFrame q0])) = fun os => some (Flow.next, S10 w os, cE, ⟨230, 0, 244, 13⟩) := byRow2 "special-get-raises" (P := fun w => (fun os => segRunT treeTable PG w 11 an0 1 377 (S9 w os) (piecesOf ((bE.drop 24).take 12) env1 cE ⟨146, 0, 154, 68⟩ [topFrame q0])) = fun os => some (Flow.next, S10 w os, cE, ⟨230, 0, 244, 13⟩)) g10false g10true w
theorem g11 (w : World) : (fun os => segRunT treeTable PG w 11 an0 1 398 (S10 w os) (piecesOf ((bE.drop 36).take 14) env1 cE ⟨230, 0, 244, 13⟩ [topFrame q0])) = fun os => some (Flow.next, S11 w os, cE, ⟨362, 0, 363, 24⟩) := by
  rw [PySem.W.Fast.te10110043849684766642, PySem.W.Fast.te14364793385576792824]; kernel_rfl
theorem g12 (w : World) : (fun os => segRunT treeTable PG w 11 an0 1 240 (S11 w os) (piecesOf ((bE.drop 50).take 10) env1 cE ⟨362, 0, 363, 24⟩ [topFrame q0])) = fun os => some (Flow.next, S12 w os, cE, ⟨401, 0, 405, 25⟩) := by
  rw [PySem.W.Fast.te10110043849684766642, PySem.W.Fast.te14364793385576792824]; kernel_rfl
theorem g13 (w : World) : (fun os => segRunT treeTable PG w 11 an0 1 910 (S12 w os) (piecesOf ((bE.drop 60).take 1) env1 cE ⟨401, 0, 405, 25⟩ [topFrame q0])) = fun os => some (Flow.next, S13 w os, cE, ⟨406, 0, 528, 20⟩) := by
  rw [PySem.W.Fast.te10110043849684766642, PySem.W.Fast.te14364793385576792824]; kernel_rfl
theorem g14 (w : World) : (fun os => segRunT treeTable PG w 11 an0 1 401 (S13 w os) (piecesOf ((bE.drop 61).take 7) env1 cE ⟨406, 0, 528, 20⟩ [topFrame q0])) = fun os => some (Flow.next, S14 w os, cE, ⟨553, 0, 554, 104⟩) := by
  rw [PySem.W.Fast.te10110043849684766642, PySem.W.Fast.te14364793385576792824]; kernel_rfl
theorem g15 (w : World) : (fun os => segRunT treeTable PG w 11 an0 1 27 (S14 w os) (piecesOf ((bE.drop 68).take 1) env1 cE ⟨553, 0, 554, 104⟩ [topFrame q0])) = fun os => some (Flow.next, S15 w os, cE, ⟨555, 0, 578, 130⟩) := by
  rw [PySem.W.Fast.te10110043849684766642, PySem.W.Fast.te14364793385576792824]; kernel_rfl
theorem gfin (w : World) : (fun os => topRun treeTable PG w 11 an0 2 (S15 w os).abs ⟨doneF .next, cE, ⟨555, 0, 578, 130⟩, [topFrame q0]⟩) = fun os => some ⟨hF w.params, #[], {}, 1164, os⟩ := by
  rw [PySem.W.Fast.te14082659384304107361, PySem.W.Fast.te14364793385576792824]; kernel_rfl
set_option maxHeartbeats 0
noncomputable def KK (P : Params) : Frag := (nat_lit 0, boot_o_0 P) :: (nat_lit 1, boot_o_1 P) :: (nat_lit 2, o2_0 P) :: (nat_lit 3, o3_14 P) :: (nat_lit 4, boot_o_4 P) :: (nat_lit 5, boot_o_5 P) :: (nat_lit 6, boot_o_6 P) :: (nat_lit 7, boot_o_7 P) :: (nat_lit 9, boot_o_9 P) :: (nat_lit 10, boot_o_10 P) :: (nat_lit 11, o11_0 P) :: (nat_lit 13, o13_0 P) :: (nat_lit 14, o14_0 P) :: (nat_lit 15, o15_0 P) :: (nat_lit 17, o17_0 P) :: (nat_lit 18, o18_0 P) :: (nat_lit 20, o20_0 P) :: (nat_lit 21, o21_0 P) :: (nat_lit 22, o22_0 P) :: (nat_lit 23, o23_0 P) :: (nat_lit 24, o24_0 P) :: (nat_lit 25, o25_0 P) :: (nat_lit 27, o27_0 P) :: (nat_lit 28, o28_0 P) :: (nat_lit 29, o29_0 P) :: (nat_lit 30, o30_0 P) :: (nat_lit 31, o31_0 P) :: (nat_lit 33, o33_0 P) :: (nat_lit 34, o34_0 P) :: (nat_lit 36, o36_0 P) :: (nat_lit 37, o37_0 P) :: (nat_lit 38, o38_0 P) :: (nat_lit 40, o40_0 P) :: (nat_lit 41, o41_0 P) :: (nat_lit 43, o43_0 P) :: (nat_lit 44, o44_0 P) :: (nat_lit 45, o45_0 P) :: (nat_lit 46, o46_0 P) :: (nat_lit 47, o47_3 P) :: (nat_lit 48, o48_0 P) :: (nat_lit 49, o49_0 P) :: (nat_lit 50, o50_0 P) :: (nat_lit 51, o51_0 P) :: (nat_lit 52, o52_0 P) :: (nat_lit 53, o53_0 P) :: (nat_lit 54, o54_0 P) :: (nat_lit 56, o56_0 P) :: (nat_lit 57, o57_0 P) :: (nat_lit 58, o58_0 P) :: (nat_lit 59, o59_0 P) :: (nat_lit 60, o60_0 P) :: (nat_lit 61, o61_0 P) :: (nat_lit 62, o62_0 P) :: (nat_lit 63, o63_0 P) :: (nat_lit 64, o64_0 P) :: (nat_lit 65, o65_0 P) :: (nat_lit 66, o66_0 P) :: (nat_lit 68, o68_0 P) :: (nat_lit 69, o69_0 P) :: (nat_lit 70, o70_0 P) :: (nat_lit 71, o71_0 P) :: (nat_lit 72, o72_0 P) :: (nat_lit 73, o73_0 P) :: (nat_lit 74, o74_0 P) :: (nat_lit 75, o75_0 P) :: (nat_lit 76, o76_0 P) :: (nat_lit 77, o77_0 P) :: (nat_lit 78, o78_0 P) :: (nat_lit 80, o80_0 P) :: (nat_lit 81, o81_0 P) :: (nat_lit 82, o82_0 P) :: (nat_lit 83, o83_0 P) :: (nat_lit 84, o84_0 P) :: (nat_lit 85, o85_0 P) :: (nat_lit 86, o86_0 P) :: (nat_lit 87, o87_0 P) :: (nat_lit 88, o88_0 P) :: (nat_lit 89, o89_0 P) :: (nat_lit 90, o90_0 P) :: (nat_lit 92, o92_0 P) :: (nat_lit 93, o93_0 P) :: (nat_lit 94, o94_0 P) :: (nat_lit 95, o95_0 P) :: (nat_lit 96, o96_0 P) :: (nat_lit 97, o97_0 P) :: (nat_lit 99, o99_0 P) :: (nat_lit 100, o100_0 P) :: (nat_lit 102, o102_0 P) :: (nat_lit 103, o103_0 P) :: (nat_lit 104, o104_0 P) :: (nat_lit 106, o106_0 P) :: (nat_lit 107, o107_0 P) :: (nat_lit 109, o109_0 P) :: (nat_lit 110, o110_0 P) :: (nat_lit 111, o111_0 P) :: (nat_lit 112, o112_0 P) :: (nat_lit 113, o113_0 P) :: (nat_lit 114, o114_0 P) :: (nat_lit 115, o115_0 P) :: (nat_lit 116, o116_0 P) :: (nat_lit 117, o117_0 P) :: (nat_lit 118, o118_0 P) :: (nat_lit 119, o119_0 P) :: (nat_lit 120, o120_0 P) :: (nat_lit 121, o121_0 P) :: (nat_lit 123, o123_0 P) :: (nat_lit 124, o124_0 P) :: (nat_lit 125, o125_0 P) :: (nat_lit 127, o127_0 P) :: (nat_lit 128, o128_0 P) :: (nat_lit 130, o130_0 P) :: (nat_lit 131, o131_0 P) :: (nat_lit 132, o132_0 P) :: (nat_lit 134, o134_0 P) :: (nat_lit 135, o135_0 P) :: (nat_lit 137, o137_0 P) :: (nat_lit 138, o138_0 P) :: (nat_lit 139, o139_0 P) :: (nat_lit 140, o140_0 P) :: (nat_lit 141, o141_0 P) :: (nat_lit 142, o142_0 P) :: (nat_lit 143, o143_0 P) :: (nat_lit 144, o144_0 P) :: (nat_lit 145, o145_0 P) :: (nat_lit 146, o146_0 P) :: (nat_lit 147, o147_0 P) :: (nat_lit 148, o148_0 P) :: (nat_lit 149, o149_0 P) :: (nat_lit 151, o151_0 P) :: (nat_lit 152, o152_0 P) :: (nat_lit 153, o153_0 P) :: (nat_lit 155, o155_0 P) :: (nat_lit 156, o156_0 P) :: (nat_lit 158, o158_0 P) :: (nat_lit 159, o159_0 P) :: (nat_lit 160, o160_0 P) :: (nat_lit 162, o162_0 P) :: (nat_lit 163, o163_0 P) :: (nat_lit 165, o165_0 P) :: (nat_lit 166, o166_0 P) :: (nat_lit 167, o167_0 P) :: (nat_lit 169, o169_0 P) :: (nat_lit 170, o170_0 P) :: (nat_lit 172, o172_0 P) :: (nat_lit 173, o173_0 P) :: (nat_lit 174, o174_0 P) :: (nat_lit 176, o176_0 P) :: (nat_lit 177, o177_0 P) :: (nat_lit 179, o179_0 P) :: (nat_lit 180, o180_0 P) :: (nat_lit 181, o181_0 P) :: (nat_lit 184, o184_0 P) :: (nat_lit 185, o185_0 P) :: (nat_lit 186, o186_0 P) :: (nat_lit 187, o187_0 P) :: (nat_lit 188, o188_0 P) :: (nat_lit 189, o189_0 P) :: (nat_lit 190, o190_0 P) :: (nat_lit 191, o191_0 P) :: (nat_lit 192, o192_0 P) :: (nat_lit 193, o193_0 P) :: (nat_lit 194, o194_0 P) :: (nat_lit 195, o195_0 P) :: (nat_lit 196, o196_0 P) :: (nat_lit 198, o198_0 P) :: (nat_lit 199, o199_0 P) :: (nat_lit 200, o200_0 P) :: (nat_lit 202, o202_0 P) :: (nat_lit 203, o203_0 P) :: (nat_lit 205, o205_0 P) :: (nat_lit 206, o206_0 P) :: (nat_lit 207, o207_0 P) :: (nat_lit 210, o210_0 P) :: (nat_lit 211, o211_0 P) :: (nat_lit 212, o212_0 P) :: (nat_lit 213, o213_0 P) :: (nat_lit 214, o214_0 P) :: (nat_lit 215, o215_0 P) :: (nat_lit 216, o216_0 P) :: (nat_lit 217, o217_0 P) :: (nat_lit 218, o218_0 P) :: (nat_lit 219, o219_0 P) :: (nat_lit 220, o220_0 P) :: (nat_lit 222, o222_0 P) :: (nat_lit 223, o223_0 P) :: (nat_lit 225, o225_0 P) :: (nat_lit 226, o226_0 P) :: (nat_lit 227, o227_0 P) :: (nat_lit 229, o229_0 P) :: (nat_lit 230, o230_0 P) :: (nat_lit 232, o232_0 P) :: (nat_lit 233, o233_0 P) :: (nat_lit 234, o234_0 P) :: (nat_lit 236, o236_0 P) :: (nat_lit 237, o237_0 P) :: (nat_lit 239, o239_0 P) :: (nat_lit 240, o240_0 P) :: (nat_lit 241, o241_0 P) :: (nat_lit 243, o243_0 P) :: (nat_lit 244, o244_0 P) :: (nat_lit 246, o246_0 P) :: (nat_lit 247, o247_0 P) :: (nat_lit 248, o248_0 P) :: (nat_lit 250, o250_0 P) :: (nat_lit 251, o251_0 P) :: (nat_lit 253, o253_0 P) :: (nat_lit 254, o254_0 P) :: (nat_lit 255, o255_0 P) :: (nat_lit 257, o257_0 P) :: (nat_lit 258, o258_0 P) :: (nat_lit 260, o260_0 P) :: (nat_lit 261, o261_0 P) :: (nat_lit 262, o262_0 P) :: (nat_lit 264, o264_0 P) :: (nat_lit 265, o265_0 P) :: (nat_lit 267, o267_0 P) :: (nat_lit 268, o268_0 P) :: (nat_lit 269, o269_0 P) :: (nat_lit 270, o270_0 P) :: (nat_lit 272, o272_0 P) :: (nat_lit 273, o273_0 P) :: (nat_lit 275, o275_0 P) :: (nat_lit 276, o276_0 P) :: (nat_lit 277, o277_0 P) :: (nat_lit 279, o279_0 P) :: (nat_lit 280, o280_0 P) :: (nat_lit 282, o282_0 P) :: (nat_lit 283, o283_0 P) :: (nat_lit 284, o284_0 P) :: (nat_lit 287, o287_0 P) :: (nat_lit 288, o288_0 P) :: (nat_lit 289, o289_0 P) :: (nat_lit 291, o291_0 P) :: (nat_lit 292, o292_0 P) :: (nat_lit 294, o294_0 P) :: (nat_lit 295, o295_0 P) :: (nat_lit 296, o296_0 P) :: (nat_lit 298, o298_0 P) :: (nat_lit 299, o299_0 P) :: (nat_lit 301, o301_0 P) :: (nat_lit 302, o302_0 P) :: (nat_lit 303, o303_0 P) :: (nat_lit 305, o305_0 P) :: (nat_lit 306, o306_0 P) :: (nat_lit 308, o308_0 P) :: (nat_lit 309, o309_0 P) :: (nat_lit 310, o310_0 P) :: (nat_lit 312, o312_0 P) :: (nat_lit 313, o313_0 P) :: (nat_lit 315, o315_0 P) :: (nat_lit 316, o316_0 P) :: (nat_lit 317, o317_0 P) :: (nat_lit 319, o319_0 P) :: (nat_lit 320, o320_0 P) :: (nat_lit 322, o322_0 P) :: (nat_lit 323, o323_0 P) :: (nat_lit 324, o324_0 P) :: (nat_lit 326, o326_0 P) :: (nat_lit 327, o327_0 P) :: (nat_lit 329, o329_0 P) :: (nat_lit 330, o330_0 P) :: (nat_lit 331, o331_0 P) :: (nat_lit 333, o333_0 P) :: (nat_lit 334, o334_0 P) :: (nat_lit 336, o336_0 P) :: (nat_lit 337, o337_0 P) :: (nat_lit 338, o338_0 P) :: (nat_lit 340, o340_0 P) :: (nat_lit 341, o341_0 P) :: (nat_lit 343, o343_0 P) :: (nat_lit 344, o344_0 P) :: (nat_lit 345, o345_0 P) :: (nat_lit 347, o347_0 P) :: (nat_lit 348, o348_0 P) :: (nat_lit 350, o350_0 P) :: (nat_lit 351, o351_0 P) :: (nat_lit 352, o352_0 P) :: (nat_lit 354, o354_0 P) :: (nat_lit 355, o355_0 P) :: (nat_lit 357, o357_0 P) :: (nat_lit 358, o358_0 P) :: (nat_lit 359, o359_0 P) :: (nat_lit 361, o361_0 P) :: (nat_lit 362, o362_0 P) :: (nat_lit 364, o364_0 P) :: (nat_lit 365, o365_0 P) :: (nat_lit 366, o366_0 P) :: (nat_lit 368, o368_0 P) :: (nat_lit 369, o369_0 P) :: (nat_lit 371, o371_0 P) :: (nat_lit 372, o372_0 P) :: (nat_lit 373, o373_0 P) :: (nat_lit 375, o375_0 P) :: (nat_lit 376, o376_0 P) :: (nat_lit 378, o378_0 P) :: (nat_lit 379, o379_0 P) :: (nat_lit 380, o380_0 P) :: (nat_lit 382, o382_0 P) :: (nat_lit 383, o383_0 P) :: (nat_lit 385, o385_0 P) :: (nat_lit 386, o386_0 P) :: (nat_lit 387, o387_0 P) :: (nat_lit 388, o388_0 P) :: (nat_lit 390, o390_0 P) :: (nat_lit 391, o391_0 P) :: (nat_lit 393, o393_0 P) :: (nat_lit 394, o394_0 P) :: (nat_lit 395, o395_0 P) :: (nat_lit 397, o397_0 P) :: (nat_lit 398, o398_0 P) :: (nat_lit 400, o400_0 P) :: (nat_lit 401, o401_0 P) :: (nat_lit 402, o402_0 P) :: (nat_lit 404, o404_0 P) :: (nat_lit 405, o405_0 P) :: (nat_lit 407, o407_0 P) :: (nat_lit 408, o408_0 P) :: (nat_lit 409, o409_0 P) :: (nat_lit 411, o411_0 P) :: (nat_lit 412, o412_0 P) :: (nat_lit 414, o414_0 P) :: (nat_lit 415, o415_0 P) :: (nat_lit 416, o416_0 P) :: (nat_lit 418, o418_0 P) :: (nat_lit 419, o419_0 P) :: (nat_lit 421, o421_0 P) :: (nat_lit 422, o422_0 P) :: (nat_lit 423, o423_0 P) :: (nat_lit 425, o425_0 P) :: (nat_lit 426, o426_0 P) :: (nat_lit 428, o428_0 P) :: (nat_lit 429, o429_0 P) :: (nat_lit 430, o430_0 P) :: (nat_lit 432, o432_0 P) :: (nat_lit 433, o433_0 P) :: (nat_lit 435, o435_0 P) :: (nat_lit 436, o436_0 P) :: (nat_lit 437, o437_0 P) :: (nat_lit 439, o439_0 P) :: (nat_lit 440, o440_0 P) :: (nat_lit 442, o442_0 P) :: (nat_lit 443, o443_0 P) :: (nat_lit 444, o444_0 P) :: (nat_lit 447, o447_0 P) :: (nat_lit 448, o448_0 P) :: (nat_lit 449, o449_0 P) :: (nat_lit 450, o450_0 P) :: (nat_lit 451, o451_0 P) :: (nat_lit 452, o452_0 P) :: (nat_lit 454, o454_0 P) :: (nat_lit 455, o455_0 P) :: (nat_lit 456, o456_0 P) :: (nat_lit 457, o457_0 P) :: (nat_lit 459, o459_0 P) :: (nat_lit 460, o460_0 P) :: (nat_lit 462, o462_0 P) :: (nat_lit 463, o463_0 P) :: (nat_lit 464, o464_0 P) :: (nat_lit 465, o465_0 P) :: (nat_lit 467, o467_0 P) :: (nat_lit 468, o468_0 P) :: (nat_lit 470, o470_0 P) :: (nat_lit 471, o471_0 P) :: (nat_lit 472, o472_0 P) :: (nat_lit 474, o474_0 P) :: (nat_lit 475, o475_0 P) :: (nat_lit 477, o477_0 P) :: (nat_lit 478, o478_0 P) :: (nat_lit 479, o479_0 P) :: (nat_lit 481, o481_0 P) :: (nat_lit 482, o482_0 P) :: (nat_lit 484, o484_0 P) :: (nat_lit 485, o485_0 P) :: (nat_lit 486, o486_0 P) :: (nat_lit 488, o488_0 P) :: (nat_lit 489, o489_0 P) :: (nat_lit 491, o491_0 P) :: (nat_lit 492, o492_0 P) :: (nat_lit 493, o493_0 P) :: (nat_lit 494, o494_0 P) :: (nat_lit 496, o496_0 P) :: (nat_lit 497, o497_0 P) :: (nat_lit 499, o499_0 P) :: (nat_lit 500, o500_0 P) :: (nat_lit 501, o501_0 P) :: (nat_lit 503, o503_0 P) :: (nat_lit 504, o504_0 P) :: (nat_lit 506, o506_0 P) :: (nat_lit 507, o507_0 P) :: (nat_lit 508, o508_0 P) :: (nat_lit 510, o510_0 P) :: (nat_lit 511, o511_0 P) :: (nat_lit 513, o513_0 P) :: (nat_lit 514, o514_0 P) :: (nat_lit 515, o515_0 P) :: (nat_lit 517, o517_0 P) :: (nat_lit 518, o518_0 P) :: (nat_lit 520, o520_0 P) :: (nat_lit 521, o521_0 P) :: (nat_lit 522, o522_0 P) :: (nat_lit 524, o524_0 P) :: (nat_lit 525, o525_0 P) :: (nat_lit 527, o527_0 P) :: (nat_lit 528, o528_0 P) :: (nat_lit 529, o529_0 P) :: (nat_lit 531, o531_0 P) :: (nat_lit 532, o532_0 P) :: (nat_lit 534, o534_0 P) :: (nat_lit 535, o535_0 P) :: (nat_lit 536, o536_0 P) :: (nat_lit 537, o537_0 P) :: (nat_lit 539, o539_0 P) :: (nat_lit 540, o540_0 P) :: (nat_lit 542, o542_0 P) :: (nat_lit 543, o543_0 P) :: (nat_lit 544, o544_0 P) :: (nat_lit 546, o546_0 P) :: (nat_lit 547, o547_0 P) :: (nat_lit 549, o549_0 P) :: (nat_lit 550, o550_0 P) :: (nat_lit 551, o551_0 P) :: (nat_lit 553, o553_0 P) :: (nat_lit 554, o554_0 P) :: (nat_lit 556, o556_0 P) :: (nat_lit 557, o557_0 P) :: (nat_lit 558, o558_0 P) :: (nat_lit 559, o559_0 P) :: (nat_lit 561, o561_0 P) :: (nat_lit 562, o562_0 P) :: (nat_lit 564, o564_0 P) :: (nat_lit 565, o565_0 P) :: (nat_lit 566, o566_0 P) :: (nat_lit 568, o568_0 P) :: (nat_lit 569, o569_0 P) :: (nat_lit 571, o571_0 P) :: (nat_lit 572, o572_0 P) :: (nat_lit 573, o573_0 P) :: (nat_lit 575, o575_0 P) :: (nat_lit 576, o576_0 P) :: (nat_lit 578, o578_0 P) :: (nat_lit 579, o579_0 P) :: (nat_lit 580, o580_0 P) :: (nat_lit 582, o582_0 P) :: (nat_lit 583, o583_0 P) :: (nat_lit 585, o585_0 P) :: (nat_lit 586, o586_0 P) :: (nat_lit 587, o587_0 P) :: (nat_lit 589, o589_0 P) :: (nat_lit 590, o590_0 P) :: (nat_lit 592, o592_0 P) :: (nat_lit 593, o593_0 P) :: (nat_lit 594, o594_0 P) :: (nat_lit 596, o596_0 P) :: (nat_lit 597, o597_0 P) :: (nat_lit 599, o599_0 P) :: (nat_lit 600, o600_0 P) :: (nat_lit 601, o601_0 P) :: (nat_lit 603, o603_0 P) :: (nat_lit 604, o604_0 P) :: (nat_lit 606, o606_0 P) :: (nat_lit 607, o607_0 P) :: (nat_lit 608, o608_0 P) :: (nat_lit 610, o610_0 P) :: (nat_lit 611, o611_0 P) :: (nat_lit 613, o613_0 P) :: (nat_lit 614, o614_0 P) :: (nat_lit 615, o615_0 P) :: (nat_lit 616, o616_0 P) :: (nat_lit 617, o617_0 P) :: (nat_lit 618, o618_0 P) :: (nat_lit 619, o619_0 P) :: (nat_lit 620, o620_0 P) :: (nat_lit 621, o621_0 P) :: (nat_lit 622, o622_0 P) :: (nat_lit 623, o623_0 P) :: (nat_lit 624, o624_0 P) :: (nat_lit 625, o625_0 P) :: (nat_lit 627, o627_0 P) :: (nat_lit 628, o628_0 P) :: (nat_lit 629, o629_0 P) :: (nat_lit 630, o630_0 P) :: (nat_lit 631, o631_0 P) :: (nat_lit 633, o633_0 P) :: (nat_lit 634, o634_0 P) :: (nat_lit 636, o636_0 P) :: (nat_lit 637, o637_0 P) :: (nat_lit 638, o638_0 P) :: (nat_lit 640, o640_0 P) :: (nat_lit 641, o641_0 P) :: (nat_lit 643, o643_0 P) :: (nat_lit 644, o644_0 P) :: (nat_lit 645, o645_0 P) :: (nat_lit 646, o646_0 P) :: (nat_lit 647, o647_0 P) :: (nat_lit 648, o648_0 P) :: (nat_lit 649, o649_0 P) :: (nat_lit 650, o650_0 P) :: (nat_lit 651, o651_0 P) :: (nat_lit 652, o652_0 P) :: (nat_lit 653, o653_0 P) :: (nat_lit 654, o654_0 P) :: (nat_lit 655, o655_0 P) :: (nat_lit 656, o656_0 P) :: (nat_lit 657, o657_0 P) :: (nat_lit 658, o658_0 P) :: (nat_lit 659, o659_0 P) :: (nat_lit 661, o661_0 P) :: (nat_lit 662, o662_0 P) :: (nat_lit 664, o664_0 P) :: (nat_lit 665, o665_0 P) :: (nat_lit 666, o666_0 P) :: (nat_lit 669, o669_0 P) :: (nat_lit 670, o670_0 P) :: (nat_lit 671, o671_0 P) :: (nat_lit 674, o674_0 P) :: (nat_lit 675, o675_0 P) :: (nat_lit 676, o676_0 P) :: (nat_lit 679, o679_0 P) :: (nat_lit 680, o680_0 P) :: []
noncomputable def kA : List Addr := [0, 1, 2, 3, 4, 5, 6, 7, 9, 10, 11, 13, 14, 15, 17, 18, 20, 21, 22, 23, 24, 25, 27, 28, 29, 30, 31, 33, 34, 36, 37, 38, 40, 41, 43, 44, 45, 46, 47, 48, 49, 50, 51, 52, 53, 54, 56, 57, 58, 59, 60, 61, 62, 63, 64, 65, 66, 68, 69, 70, 71, 72, 73, 74, 75, 76, 77, 78, 80, 81, 82, 83, 84, 85, 86, 87, 88, 89, 90, 92, 93, 94, 95, 96, 97, 99, 100, 102, 103, 104, 106, 107, 109, 110, 111, 112, 113, 114, 115, 116, 117, 118, 119, 120, 121, 123, 124, 125, 127, 128, 130, 131, 132, 134, 135, 137, 138, 139, 140, 141, 142, 143, 144, 145, 146, 147, 148, 149, 151, 152, 153, 155, 156, 158, 159, 160, 162, 163, 165, 166, 167, 169, 170, 172, 173, 174, 176, 177, 179, 180, 181, 184, 185, 186, 187, 188, 189, 190, 191, 192, 193, 194, 195, 196, 198, 199, 200, 202, 203, 205, 206, 207, 210, 211, 212, 213, 214, 215, 216, 217, 218, 219, 220, 222, 223, 225, 226, 227, 229, 230, 232, 233, 234, 236, 237, 239, 240, 241, 243, 244, 246, 247, 248, 250, 251, 253, 254, 255, 257, 258, 260, 261, 262, 264, 265, 267, 268, 269, 270, 272, 273, 275, 276, 277, 279, 280, 282, 283, 284, 287, 288, 289, 291, 292, 294, 295, 296, 298, 299, 301, 302, 303, 305, 306, 308, 309, 310, 312, 313, 315, 316, 317, 319, 320, 322, 323, 324, 326, 327, 329, 330, 331, 333, 334, 336, 337, 338, 340, 341, 343, 344, 345, 347, 348, 350, 351, 352, 354, 355, 357, 358, 359, 361, 362, 364, 365, 366, 368, 369, 371, 372, 373, 375, 376, 378, 379, 380, 382, 383, 385, 386, 387, 388, 390, 391, 393, 394, 395, 397, 398, 400, 401, 402, 404, 405, 407, 408, 409, 411, 412, 414, 415, 416, 418, 419, 421, 422, 423, 425, 426, 428, 429, 430, 432, 433, 435, 436, 437, 439, 440, 442, 443, 444, 447, 448, 449, 450, 451, 452, 454, 455, 456, 457, 459, 460, 462, 463, 464, 465, 467, 468, 470, 471, 472, 474, 475, 477, 478, 479, 481, 482, 484, 485, 486, 488, 489, 491, 492, 493, 494, 496, 497, 499, 500, 501, 503, 504, 506, 507, 508, 510, 511, 513, 514, 515, 517, 518, 520, 521, 522, 524, 525, 527, 528, 529, 531, 532, 534, 535, 536, 537, 539, 540, 542, 543, 544, 546, 547, 549, 550, 551, 553, 554, 556, 557, 558, 559, 561, 562, 564, 565, 566, 568, 569, 571, 572, 573, 575, 576, 578, 579, 580, 582, 583, 585, 586, 587, 589, 590, 592, 593, 594, 596, 597, 599, 600, 601, 603, 604, 606, 607, 608, 610, 611, 613, 614, 615, 616, 617, 618, 619, 620, 621, 622, 623, 624, 625, 627, 628, 629, 630, 631, 633, 634, 636, 637, 638, 640, 641, 643, 644, 645, 646, 647, 648, 649, 650, 651, 652, 653, 654, 655, 656, 657, 658, 659, 661, 662, 664, 665, 666, 669, 670, 671, 674, 675, 676, 679, 680]
noncomputable def vw : Program := { PG with main := { PG.main with body := [st 68] } }
noncomputable def lz : List Str := [.ofString "_wall", .ofString "LedgerError", .ofString "TokenFault", .ofString "DataFault", .ofString "GrammarFault", .ofString "FILLER", .ofString "RENAMING", .ofString "ALONE", .ofString "Occurs", .ofString "Named", .ofString "Item", .ofString "Data", .ofString "MOST_SUBSCRIPTS", .ofString "FIGURE_NAMES", .ofString "is_part_next", .ofString "read_subscripts", .ofString "read_part", .ofString "read_ref", .ofString "read_all", .ofString "read_figure", .ofString "read_operand", .ofString "NAMING", .ofString "MOST_LEVEL", .ofString "MOST_NESTED", .ofString "USAGE_WORDS", .ofString "no_expression", .ofString "read_literal", .ofString "read_occurs", .ofString "read_sign", .ofString "read_named_clause", .ofString "clause_word", .ofString "read_bare_clause", .ofString "read_clauses", .ofString "read_worths", .ofString "read_renames", .ofString "read_entry", .ofString "is_level_here", .ofString "put_beneath", .ofString "nested", .ofString "read_entries", .ofString "read_file_entry", .ofString "FIGURES", .ofString "cut_quotient", .ofString "decimal", .ofString "negated", .ofString "units_at", .ofString "is_whole", .ofString "whole_of", .ofString "worth_of", .ofString "read_decimal", .ofString "MOST_OCTET", .ofString "RESERVED", .ofString "is_reserved", .ofString "octets_of_text", .ofString "Reader", .ofString "Token", .ofString "_law_remarks", .ofString "_law_draw", .ofString "_law_heard", .ofString "_law_seen"]
theorem kA_eq (P : Params) : kA = (KK P).map (·.1) := by kernel_rfl
theorem piece_drop {tb : String → Option Builtin} {p : Program} {w : World} {n₀ : Nat} {ann : Option Value} {env : Env} {q : Pos} {n N a k : Nat} {s s' r : Shared} {b : List Stmt} {c : Code} {pos p' : Pos}
    (h : segRun tb p w n₀ ann 1 n s (piecesOf ((b.drop a).take k) env c pos [topFrame q]) = some (.next, s', c, p'))
    (g : topRun tb p w n₀ ann N s' (restOf (b.drop (a + k)) env c p' [topFrame q]) = some r) : topRun tb p w n₀ ann (n + N) s (restOf (b.drop a) env c pos [topFrame q]) = some r := by
  have := piece_app h g
  rwa [← List.drop_drop, List.take_append_drop] at this
theorem b_end : bE.drop 69 = [] := by kernel_rfl
theorem topAll (w : World) (os : OsState) : topRun treeTable PG w 11 an0 (12 + (1 + (305 + (214 + (214 + (250 + (267 + (256 + (366 + (273 + (394 + (377 + (398 + (240 + (910 + (401 + (27 + 2))))))))))))))))) ⟨boot_heap w.params, Array.mk [], boot_drawn, boot_toks, os⟩ (topStub PG) = some ⟨hF w.params, #[], {}, 1164, os⟩ := by
  refine go_top (congrFun (gpre w) os) ?_
  refine piece_block (congrFun (gblock w) os) ?_
  show topRun treeTable PG w 11 an0 _ _ (restOf (bE.drop 0) env1 cE q0 [topFrame q0]) = _
  refine piece_drop (segRun_of (congrFun (g1 w) os)) ?_
  refine piece_drop (segRun_of (congrFun (g2 w) os)) ?_
  refine piece_drop (segRun_of (congrFun (g3 w) os)) ?_
  refine piece_drop (segRun_of (congrFun (g4 w) os)) ?_
  refine piece_drop (segRun_of (congrFun (g5 w) os)) ?_
  refine piece_drop (segRun_of (congrFun (g6 w) os)) ?_
  refine piece_drop (segRun_of (congrFun (g7 w) os)) ?_
  refine piece_drop (segRun_of (congrFun (g8 w) os)) ?_
  refine piece_drop (segRun_of (congrFun (g9 w) os)) ?_
  refine piece_drop (segRun_of (congrFun (g10 w) os)) ?_
  refine piece_drop (segRun_of (congrFun (g11 w) os)) ?_
  refine piece_drop (segRun_of (congrFun (g12 w) os)) ?_
  refine piece_drop (segRun_of (congrFun (g13 w) os)) ?_
  refine piece_drop (segRun_of (congrFun (g14 w) os)) ?_
  refine piece_drop (segRun_of (congrFun (g15 w) os)) ?_
  show topRun treeTable PG w 11 an0 2 _ (restOf (bE.drop 69) env1 cE _ [topFrame q0]) = _
  rw [b_end]
  exact congrFun (gfin w) os
theorem opens : ∀ w : World, (fencedOpening treeTable PG w 10000).map (fun s => (s.heap, s.gens, s.drawn, s.toks)) = some (boot_heap w.params, Array.mk [], boot_drawn, boot_toks) :=
  boot_open (by kernel_rfl) (by decide) (fun s => by kernel_rfl)
theorem size0 (w : World) : ((boot_heap w.params).isNs mainGlobals && (Array.mk [] : Array GenState).size == 0, (boot_heap w.params).objs.size, (boot_heap w.params).nsMap mainGlobals "__annotations__") = (true, 11, an0) := by kernel_rfl
abbrev XtT : Shared → Bool := fun _ => true
noncomputable def obsK (s : Shared) : List (Option Obj) := kA.map s.heap.get?
noncomputable def valK (w : World) : List (Option Obj) := (KK w.params).map fun p => some p.2
theorem look1 (w : World) (os : OsState) : (staticsOk (importedModules PG.main.body) (boot_heap w.params) (hF w.params) && namesBound PG (hF w.params) && gensDone ⟨hF w.params, #[], {}, 1164, os⟩ && laidKept (boot_heap w.params) (hF w.params)) = true := by kernel_rfl
theorem look3 (w : World) (os : OsState) : obsK ⟨hF w.params, #[], {}, 1164, os⟩ = valK w := by kernel_rfl
theorem look2 (w : World) (os : OsState) : openSeen vw lz (importedModules PG.main.body) XtT true ⟨hF w.params, #[], {}, 1164, os⟩ = openGood vw lz := by
  rw [PySem.W.Fast.te4187177175401517315]
  kernel_rfl
theorem leftO : LeftO PG vw lz XtT obsK valK 10000 :=
  LeftO.of_pieces opens size0 topAll (by decide +kernel) (fun w => by
    funext os
    exact Prod.ext (look1 w os) (Prod.ext (look2 w os) (look3 w os)))
set_option maxHeartbeats 0
abbrev RL : OpenLaw := PySem.Challenge.rw_pb0279_01
theorem defSome : (defOf vw (Str.ofString "law")).isSome = true := by kernel_rfl
noncomputable def dk : DefRec × List (Str × Expr) := (defOf vw (Str.ofString "law")).get defSome
theorem dk_eq : defOf vw RL.row.name = some (dk.1, dk.2) := by kernel_rfl
theorem dk_def : RL.row.prog.theDef RL.row.name = some (dk.1.params, dk.1.body, dk.1.scope) := by kernel_rfl
theorem dk_kw : kwWritten? dk.1.params.kwonlyargs dk.1.params.kw_defaults = some dk.2 := by kernel_rfl
theorem rowOk : (chainsOk vw && opensWell RL.row.prog && (frees RL.row.toRowW && RL.row.within.isEmpty)) = true := by kernel_rfl
theorem promised : RL.row.toRowW.promised := by w_witness2
theorem hd (walk : WalkX vw lz (fun _ _ => True) obsK valK RL.row.toRowW dk.1 dk.2 (fun f vs => PySem.call f vs)) : RL.Holds :=
  holds_law Mine.well fun said => holds_openX (r := RL.row) (q := vw) (loose := lz) (Xt := XtT) (XP := fun _ _ => True) leftO (fun _ _ => trivial) (fun _ _ _ x _ => x) dk_eq dk_def dk_kw
    (fun s _ => recFacts_nil rfl) rfl said rowOk ⟨rfl, rfl, rfl, rfl, rfl, by decide +kernel⟩ promised walk
set_option maxHeartbeats 0
theorem reg : (fun (_ : OpenLaw) (_ : Params → Frag) => True) RL KK := by k_fill; trivial
section
variable {prog : Program} {w : World} {A₀ A : Around} {s : Shared} {base h₀ : Heap} {outer : List Env} {L : Addr} {m mg mb : Str → Option Value} {env : Env} {news hide : List (Addr × Obj)} {K : Frag} {p : Program} {loose : List Str} {mean : ExcName → Option Value}
  {R : Result → Shared → Prop} {name qual : Str} {params : Arguments} {body : List Stmt} {scope : Scope} {dV kV doc pm cdv ct oc : Value} {an od : Option Addr} {osl : Array (Option Value)} {f : Addr} {args : Args} {binds : List (Str × Value)}
theorem enterK (B : Below A₀ base outer h₀) (F : Fr h₀ L s.heap m) (X₀ : K.In h₀) (N : News h₀ L s.heap news) (T : Top p loose mean mg mb h₀) (hA : A.frames = some (env :: outer)) (hf : env.frame = some L) (hke : env.scope.kind = .function)
    (hsub : ∀ p ∈ hide, p ∈ news)
    (ho : K.lookup f = some ⟨oc, od, .func (fnOf name qual params body scope dV kV doc pm an cdv ct), osl⟩) (hcd : codeIn K cdv qual = true) (hroom : A.depth < recursionLimit)
    (hbind : BindsTo s (fnOf name qual params body scope dV kV doc pm an cdv ct) args binds) (hloc : ∀ y ∈ binds, scope.names.lookup y.1 = some .local)
    (h : ∀ g L' h₁ tk, (∀ b o, s.heap.get? b = some o → b ∉ hide.map (·.1) → g.get? b = some o) → (∀ b o, g.get? b = some o → s.heap.get? b = some o) → Fr h₀ L g m → Fr g L' h₁ (fun y => binds.reverse.lookup y) → News g L' h₁ hide → Below A base (env :: outer) g → K.In g → Top p loose mean mg mb g → h₀.StaysIn g → (∀ p ∈ hide, p.1 < L') →
      wpAny (model prog w) (A.deeper (envOf qual scope L' f cdv)) (execs body (envOf qual scope L' f cdv))
        (fun fl s' => R (.ok (.ret (match fl with | .ret v => v | _ => .none))) s')
        (fun e s' => wpAny (model prog w) (A.deeper (envOf qual scope L' f cdv)) (leaving (envOf qual scope L' f cdv) e) (fun _ s'' => R (.error e) s'') (fun e' s'' => R (.error e') s'') s')
        { s with heap := h₁, toks := tk })
    (hco : scope.isCoroutine = false) (hgen : scope.isGenerator = false) (hk : scope.kind = .function) (hcell : ∀ x ∈ scope.names, x.2 ≠ .cell) : codeAny (model prog w) A (.call (.ref f) args) R s := by
  have Nh : News h₀ L s.heap hide := cb_drop N hsub
  obtain ⟨FG, BG, st, _⟩ := groundX (R := R) B F Nh hA hf hke
  refine codeAny_call_def (fd := fnOf name qual params body scope dV kV doc pm an cdv ct) (body := body) (binds := binds) hroom ((X₀.keeps F.keep) _ _ ho) rfl (T.nolimit.keeps F.keep) (codeRec_of (X₀.keeps F.keep) hcd) rfl hbind hcell hloc (fun h₁ hns hk₁ => ?_) hco hgen hk
  exact h _ s.heap.objs.size h₁ _ (fun b o e n => hideAll_get _ e n) (fun b o e => of_hideAll _ e) FG ⟨hns, fun b o e => hk₁ b o (of_hideAll _ e), Nat.le_of_eq (hideAll_size _ _)⟩
    (fun p hp => ⟨hk₁ _ _ (Nh p hp).1, Nat.ne_of_lt (Heap.lt_size (Nh p hp).1), hideAll_none _ (List.mem_map_of_mem hp)⟩) BG (X₀.keeps st) (T.keeps st) st fun p hp => Heap.lt_size (Nh p hp).1
theorem backN {g h' : Heap} {L' : Addr} {m' : Str → Option Value} {h : Heap} (F : Fr h₀ L h m) (N : News h₀ L h news) (hg : ∀ b o, h.get? b = some o → b ∉ hide.map (·.1) → g.get? b = some o) (F' : Fr g L' h' m') (N' : News g L' h' hide)
    (hsub : ∀ p ∈ hide, p ∈ news) : News h₀ L h' news := fun p hp => by
  refine ⟨?_, (N p hp).2⟩
  by_cases q : p.1 ∈ hide.map (·.1)
  · obtain ⟨p', hp', e⟩ := List.mem_map.mp q
    have h1 := (N _ (hsub _ hp')).1
    have h2 := (N _ hp).1
    rw [e] at h1
    rw [h1] at h2
    have : p' = p := Prod.ext e (Option.some.inj h2)
    exact this ▸ (N' _ hp').1
  · exact F'.keep _ _ (hg _ _ (N p hp).1 q)
theorem backU {g h' : Heap} {L' d : Addr} {o o' : Obj} {m' : Str → Option Value} {h : Heap} {news' hide' : List (Addr × Obj)} (F : Fr h₀ L h m) (N : News h₀ L h news) (hg : ∀ b o, h.get? b = some o → b ∉ hide.map (·.1) → g.get? b = some o) (F' : Fr g L' h' m') (N' : News g L' h' hide')
    (hsub : ∀ p ∈ hide, p ∈ news) (U : Upd d o o' news news') (hd : (d, o') ∈ hide') (hr : ∀ p ∈ hide, p.1 ≠ d → p ∈ hide') : News h₀ L h' news' := by
  obtain ⟨pre, post, rfl, rfl, a, b⟩ := U.split
  have key : ∀ p ∈ pre ++ (d, o) :: post, p.1 ≠ d → h'.get? p.1 = some p.2 ∧ p.1 ≠ L ∧ h₀.get? p.1 = none := fun p hp ne => by
    refine ⟨?_, (N p hp).2⟩
    by_cases q : p.1 ∈ hide.map (·.1)
    · obtain ⟨p', hp', e⟩ := List.mem_map.mp q
      have h1 := (N _ (hsub _ hp')).1
      have h2 := (N _ hp).1
      rw [e] at h1
      rw [h1] at h2
      have : p' = p := Prod.ext e (Option.some.inj h2)
      subst this
      exact (N' _ (hr _ hp' ne)).1
    · exact F'.keep _ _ (hg _ _ (N p hp).1 q)
  intro p hp
  rcases List.mem_append.mp hp with hp | hp
  · exact key p (List.mem_append_left _ hp) (a p hp)
  · rcases List.mem_cons.mp hp with rfl | hp
    · exact ⟨(N' _ hd).1, (N (d, o) (List.mem_append_right _ (.head _))).2⟩
    · exact key p (List.mem_append_right _ (.tail _ hp)) (b p hp)
end
theorem inst_keeps {h h' : Heap} {x C : Addr} {ox : Obj} {od : Option Obj} (I : InstAt h x ox C od) (k : ∀ b o, h.get? b = some o → h'.get? b = some o) : InstAt h' x ox C od := by
  obtain ⟨a, b, c, d⟩ := I
  refine ⟨k _ _ a, b, c, ?_⟩
  cases e : ox.dict with
  | none => rw [e] at d; cases od with
    | none => trivial
    | some o => exact d.elim
  | some dx => rw [e] at d; cases od with
    | none => exact d.elim
    | some o => exact k _ _ d
theorem inst_fr {g h : Heap} {L : Addr} {m : Str → Option Value} {x C : Addr} {ox : Obj} {od : Option Obj} (I : InstAt g x ox C od) (F : Fr g L h m) : InstAt h x ox C od := inst_keeps I F.keep
structure Hold (P : Prop) : Prop where
  out : P
def zst : Lean.MacroM Lean.Syntax := `(tactic| (k_here; refine Hold.out ?_))
def zstR (n : Nat) : Lean.MacroM Lean.Syntax := do
  let n := Lean.Syntax.mkNumLit (toString n)
  `(tactic| (k_here; (with_reducible show wpAny _ _ (call (Value.ref $n) _) _ _ _); refine Hold.out ?_))
def zap (c : Lean.Name) (ts : List String) : Lean.MacroM Lean.Syntax := do
  let ts := (ts.map fun t => Lean.Syntax.mkStrLit t).toArray
  `(tactic| (k_here; (with_reducible apply $(Lean.mkIdent c)); ($[walk_at $ts];*)))
def Kont {α : Type} (P : α → Shared → Prop) (v : α) (s : Shared) : Prop := P v s
def KQ {α : Type} (Q P : α → Shared → Prop) : Prop := ∀ v s, Q v s → P v s
def isNx : Flow → Prop
  | .next => True
  | _ => False
section
variable {M : Model} {A : Around} {st : Stmt} {rest : List Stmt} {env : Env} {Q : Flow → Shared → Prop} {E : Value → Shared → Prop} {s : Shared}
def KN (M : Model) (A : Around) (rest : List Stmt) (env : Env) (E : Value → Shared → Prop) (Q P : Flow → Shared → Prop) : Prop := ∀ s', wpAny M A (execs rest env) Q E s' → P .next s'
def KR (Q P : Flow → Shared → Prop) : Prop := ∀ f s', ¬ isNx f → Q f s' → P f s'
theorem opq {α : Type} {t : Sem α} {Q : α → Shared → Prop} (h : ∀ P, KQ Q P → wpAny M A t (Kont P) E s) : wpAny M A t Q E s := h Q fun _ _ q => q
theorem If_x {test : Expr} {body orelse : List Stmt} {pos : Pos} (h : ∀ P : Bool → Shared → Prop, KQ (fun b s₂ => ite (b = true) (wpAny M A (execs body env) Q E s₂) (wpAny M A (execs orelse env) Q E s₂)) P → wpAny M A (isTrue test env (eval test env)) (Kont P) E s) : wpAny M A (exec (.If test body orelse pos) env) Q E s := wpAny_If (opq h)
theorem execs_one (h : wpAny M A (exec st env) Q E s) : wpAny M A (execs [st] env) Q E s :=
  wpAny_execs_cons (wpAny_mono h (fun f s' q => by cases f <;> first | exact wpAny_execs_nil q | exact q) fun _ _ q => q)
theorem execs_x (h : ∀ P : Flow → Shared → Prop, KN M A rest env E Q P → KR Q P → wpAny M A (exec st env) (Kont P) E s) : wpAny M A (execs (st :: rest) env) Q E s :=
  wpAny_execs_cons (h _ (fun _ q => q) (fun f s' n q => by cases f <;> first | exact q | exact (n trivial).elim))
end
local macro_rules | `(tactic| walk_at "execs cons") => `(tactic| (k_here; first | k_gentoks | ((first | (with_reducible refine execs_one ?_) | ((with_reducible refine execs_x ?_); intro zP zN zR)); (try dsimp only))))
local macro_rules | `(tactic| walk_at "exec If") => `(tactic| (k_here; (with_reducible refine If_x ?_); intro zP zQ))
local macro_rules | `(tactic| walk_at "Kont") => `(tactic| (first | (refine (by assumption : KN _ _ _ _ _ _ _) _ ?_) | (refine (by assumption : KR _ _) _ _ (fun q => q) ?_) | (refine (by assumption : KQ _ _) _ _ ?_)))
def zaps (l : List (Lean.Name × List String)) : Lean.MacroM Lean.Syntax := do
  let ts ← l.toArray.mapM fun c => do pure (⟨← zap c.1 c.2⟩ : Lean.TSyntax `tactic)
  `(tactic| first $[| $ts:tactic]*)
structure Ap (a b : Addr) : Prop where
  ne : @Ne Nat a b
def AllAp (d : Addr) : List (Addr × Obj) → Prop
  | [] => True
  | p :: r => Ap p.1 d ∧ AllAp d r
theorem allAp_of {d : Addr} : ∀ {l : List (Addr × Obj)}, (∀ p ∈ l, p.1 ≠ d) → AllAp d l
  | [], _ => trivial
  | p :: _, h => ⟨⟨h p (.head _)⟩, allAp_of fun q hq => h q (.tail _ hq)⟩
theorem allAp3 {a b c : Addr} {l : List (Addr × Obj)} (h : ∀ q ∈ l, q.1 ≠ a ∧ q.1 ≠ b ∧ q.1 ≠ c) : AllAp a l ∧ AllAp b l ∧ AllAp c l :=
  ⟨allAp_of fun q hq => (h q hq).1, allAp_of fun q hq => (h q hq).2.1, allAp_of fun q hq => (h q hq).2.2⟩
theorem allAp_ne {d a : Addr} {o : Obj} : ∀ {l : List (Addr × Obj)}, AllAp d l → (a, o) ∈ l → @Ne Nat a d
  | _ :: _, h, .head _ => h.1.ne
  | _ :: _, h, .tail _ m => allAp_ne h.2 m
local macro_rules
  | `(tactic| walk_at "M ap") => `(tactic| (refine neN ?_; (try dsimp only); first | exact Ap.ne (by assumption) | exact Ne.symm (Ap.ne (by assumption)) | exact allAp_ne (by assumption) (by k_mem) | exact Ne.symm (allAp_ne (by assumption) (by k_mem)) | fail))
  | `(tactic| walk_at "M ne") => `(tactic| first | walk_at "M ap" | (refine neN ?_; (try dsimp only); omega))
  | `(tactic| walk_at "M s") => `(tactic| (intros; (try ((with_reducible rename News _ _ _ _ => zN); dsimp only at zN)); (try k_sweep)))
local macro_rules | `(tactic| k_ne) => `(tactic| first | walk_at "M ap" | assumption | exact Ne.symm (by assumption) | fail)
local macro_rules | `(tactic| k_offL) => `(tactic| first | exact trivial | (refine And.intro (by first | exact Or.inl (by walk_at "M ne") | exact Or.inr (by k_cls)) ?_; k_offL))
local macro_rules | `(tactic| k_inst) => `(tactic| exact inst_fr (by assumption) (by k_asm))
structure RK where
  h1 : Int
  t1 : Nat
  h2 : Int
  t2 : Nat
  h3 : Int
  t3 : Nat
abbrev rdD (k : RK) (l nd : Addr) (a : Int) (ta : Nat) : Obj := dictOf [⟨k.h1, .str "tokens" k.t1, .ref l⟩, ⟨k.h2, .str "at" k.t2, .int a ta⟩, ⟨k.h3, .str "named" k.t3, .ref nd⟩] 3
structure TK where
  x : Addr
  d : Addr
  kind : Str
  worth : Str
  tup : Addr
  row : Int
  col : Int
  h1 : Int
  t1 : Nat
  k1 : Nat
  h2 : Int
  t2 : Nat
  k2 : Nat
  h3 : Int
  t3 : Nat
  h4 : Int
  t4 : Nat
  r1 : Nat
  r2 : Nat
abbrev tkD (t : TK) : Obj := dictOf [⟨t.h1, .str "kind" t.t1, .str t.kind t.k1⟩, ⟨t.h2, .str "worth" t.t2, .str t.worth t.k2⟩, ⟨t.h3, .str "at" t.t3, .ref t.tup⟩, ⟨t.h4, .str "is_in_a" t.t4, .bool false⟩] 4
abbrev itemsOf (ts : List TK) : List Value := ts.map fun t => .ref t.x
structure Toks (h : Heap) (l : Addr) (ts : List TK) : Prop where
  list : h.IsList l (itemsOf ts).toArray
  inst : ∀ t ∈ ts, InstAt h t.x (instObj 647 t.d) 647 (some (tkD t))
  tup : ∀ t ∈ ts, IsTup h t.tup #[.int t.row t.r1, .int t.col t.r2]
  fits : ts.length < 2 ^ 60
theorem Toks.keeps {h h' : Heap} {l : Addr} {ts : List TK} (T : Toks h l ts) (k : ∀ b o, h.get? b = some o → h'.get? b = some o) : Toks h' l ts :=
  ⟨let ⟨o, ho, r⟩ := T.list; ⟨o, k _ _ ho, r⟩, fun t ht => inst_keeps (T.inst t ht) k, fun t ht => (T.tup t ht).keeps k, T.fits⟩
theorem Toks.len {h : Heap} {l : Addr} {ts : List TK} (T : Toks h l ts) : ((itemsOf ts).toArray.size : Int) < 2 ^ 63 := by
  have := T.fits
  simp only [List.size_toArray, List.length_map]; omega
section
variable {prog : Program} {w : World} {A : Around} {E : Value → Shared → Prop} {s : Shared} {g : Heap} {L : Addr} {m : Str → Option Value} {l : Addr} {ts : List TK}
theorem my_len {Q : Value → Shared → Prop} (F : Fr g L s.heap m) (T : Toks g l ts) (h : Q (.int (ts.length : Int) (s.toks + 1)) { s with toks := s.toks + 1 + 1 }) :
    wpAny (model prog w) A (call (.builtin "len") [.ref l]) Q E s :=
  len_list (F.lst T.list) T.len (by simpa only [List.size_toArray, List.length_map] using h)
theorem my_item {value slice : Expr} {k : Int} {u : Tok} {t : TK} {Q : Value → Shared → Prop} (F : Fr g L s.heap m) (T : Toks g l ts) (h0 : 0 ≤ k) (hx : ts[k.toNat]? = some t) (h : Q (.ref t.x) s)
    (hs : subscripted slice false (.ref l) (.int k u) = operate [.ref l, .int k u] (getItem (.ref l) (.int k u)) := by with_unfolding_all rfl) (hg : ∀ r, letTemporaryGo value (.ref l) r = pure () := by intro _; with_unfolding_all rfl) :
    wpAny (model prog w) A (subscriptTail value slice (.ref l) (.int k u)) Q E s := by
  have hlt : k.toNat < ts.length := (List.getElem?_eq_some_iff.mp hx).1
  have := T.fits
  exact item_list (F.lst T.list) h0 (by omega) (by simp only [List.getElem?_toArray, List.getElem?_map, hx, Option.map_some]) h hs hg
end
local macro_rules | `(tactic| walk_at "call builtin:len") => zap `Mine.my_len ["M z"]
local macro_rules | `(tactic| k_room) => `(tactic| ((try simp only [depth_under_make, depth_under_kw, depth_in1, depth_deeper, depth_caller]); omega))
abbrev AA (dp : Nat) (fr : Option (List Env)) (gd : Option (List Code)) (un : Nat) : Around := { handled := none, depth := dp, frames := fr, guards := gd, units := un }
structure Cx (w : World) (A : Around) (base h₀ : Heap) (L : Addr) (m : Str → Option Value) (h : Heap) (news : List (Addr × Obj)) (c : Nat) : Prop where
  ex : ∃ (A₀ : Around) (env : Env) (outer : List Env) (mean : ExcName → Option Value) (mg mb : Str → Option Value), Below A₀ base outer h₀ ∧ A.frames = some (env :: outer) ∧ env.frame = some L ∧ env.scope.kind = .function ∧ Top vw lz mean mg mb h₀
  F : Fr h₀ L h m
  X : (KK w.params).In h₀
  N : News h₀ L h news
  room : A.depth + c < recursionLimit
  aa : ∃ dp fr gd un, A = AA dp fr gd un
section
variable {w : World} {A : Around} {s : Shared} {base h₀ : Heap} {L : Addr} {m : Str → Option Value} {news hide : List (Addr × Obj)} {c : Nat}
  {R : Result → Shared → Prop} {name qual : Str} {params : Arguments} {body : List Stmt} {scope : Scope} {dV kV doc pm cdv ct oc : Value} {an od : Option Addr} {osl : Array (Option Value)} {f : Addr} {args : Args}
theorem enter (binds : List (Str × Value)) (hide : List (Addr × Obj)) (C : Cx w A base h₀ L m s.heap news c) (hsub : ∀ p ∈ hide, p ∈ news)
    (ho : (KK w.params).lookup f = some ⟨oc, od, .func (fnOf name qual params body scope dV kV doc pm an cdv ct), osl⟩) (hcd : codeIn (KK w.params) cdv qual = true)
    (hbind : BindsTo s (fnOf name qual params body scope dV kV doc pm an cdv ct) args binds) (hloc : ∀ y ∈ binds, scope.names.lookup y.1 = some .local)
    (h : ∀ g L' h₁ tk env outer mean mg mb,
      (∀ h' L'' m'', Fr g L'' h' m'' → News g L'' h' hide → Fr h₀ L h' m ∧ News h₀ L h' news) →
      (∀ h' L'' m'' hide' news' d o o', Fr g L'' h' m'' → News g L'' h' hide' → Upd d o o' news news' → (d, o') ∈ hide' → (∀ p ∈ hide, p.1 ≠ d → p ∈ hide') → Fr h₀ L h' m ∧ News h₀ L h' news') →
      Fr h₀ L g m → h₀.StaysIn g →
      Fr g L' h₁ (fun y => binds.reverse.lookup y) → News g L' h₁ hide → Below A base (env :: outer) g → (KK w.params).In g → Top vw lz mean mg mb g → (∀ p ∈ hide, p.1 < L') → A.depth + c < recursionLimit → (∀ b o, s.heap.get? b = some o → b ∉ hide.map (·.1) → g.get? b = some o) →
      wpAny (model PG w) (A.deeper (envOf qual scope L' f cdv)) (execs body (envOf qual scope L' f cdv))
        (fun fl s' => R (.ok (.ret (match fl with | .ret v => v | _ => .none))) s')
        (fun e s' => wpAny (model PG w) (A.deeper (envOf qual scope L' f cdv)) (leaving (envOf qual scope L' f cdv) e) (fun _ s'' => R (.error e) s'') (fun e' s'' => R (.error e') s'') s')
        { s with heap := h₁, toks := tk })
    (hco : scope.isCoroutine = false) (hgen : scope.isGenerator = false) (hk : scope.kind = .function) (hcell : ∀ x ∈ scope.names, x.2 ≠ .cell) : codeAny (model PG w) A (.call (.ref f) args) R s := by
  obtain ⟨⟨A₀, env, outer, mean, mg, mb, B, hA, hf, hke, T⟩, F, X, N, room, _⟩ := C
  refine enterK (hide := hide) B F X N T hA hf hke hsub ho hcd (by omega) hbind hloc (fun g L' h₁ tk hg _ FG F' N' B' X' T' st lt => ?_) hco hgen hk hcell
  exact h g L' h₁ tk env outer mean mg mb (fun h' L'' m'' F'' N'' => ⟨FG.kept F''.keep, backN F N hg F'' N'' hsub⟩)
    (fun h' L'' m'' hide' news' d o o' F'' N'' U hd hr => ⟨FG.kept F''.keep, backU F N hg F'' N'' hsub U hd hr⟩) FG st F' N' B' X' T' lt room hg
def RetT (g h₀ : Heap) (L : Addr) (m : Str → Option Value) (hide news : List (Addr × Obj)) : Prop := ∀ h' L'' m'', Fr g L'' h' m'' → News g L'' h' hide → Fr h₀ L h' m ∧ News h₀ L h' news
def RetU (g h₀ : Heap) (L : Addr) (m : Str → Option Value) (hide news : List (Addr × Obj)) : Prop := ∀ h' L'' m'' hide' news' d o o', Fr g L'' h' m'' → News g L'' h' hide' → Upd d o o' news news' → (d, o') ∈ hide' → (∀ p ∈ hide, p.1 ≠ d → p ∈ hide') → Fr h₀ L h' m ∧ News h₀ L h' news'
abbrev RetQ (Q : Value → Shared → Prop) (Q₁ : Flow → Shared → Prop) : Prop := ∀ fl s', Q (match fl with | .ret v => v | _ => .none) s' → Q₁ fl s'
abbrev RetE (w : World) (A : Around) (env : Env) (E E₁ : Value → Shared → Prop) : Prop := ∀ e s', wpAny (model PG w) A (leaving env e) (fun _ s'' => E e s'') (fun e' s'' => E e' s'') s' → E₁ e s'
def HidG (h g : Heap) (hide : List (Addr × Obj)) : Prop := ∀ b o, h.get? b = some o → b ∉ hide.map (·.1) → g.get? b = some o
def okSc (scope : Scope) (ns : List Str) : Bool := !scope.isCoroutine && !scope.isGenerator && scope.kind == .function && scope.names.all (fun x => x.2 != .cell) && ns.all fun y => scope.names.lookup y == some .local
theorem okSc_all {scope : Scope} {binds : List (Str × Value)} (h : okSc scope (binds.map (·.1)) = true) : scope.isCoroutine = false ∧ scope.isGenerator = false ∧ scope.kind = .function ∧ (∀ x ∈ scope.names, x.2 ≠ .cell) ∧ ∀ y ∈ binds, scope.names.lookup y.1 = some .local := by
  simp only [okSc, Bool.and_eq_true, Bool.not_eq_true', beq_iff_eq, List.all_eq_true, bne_iff_ne] at h
  obtain ⟨⟨⟨⟨a, b⟩, c⟩, d⟩, e⟩ := h
  exact ⟨a, b, c, d, fun y hy => e _ (List.mem_map_of_mem hy)⟩
theorem enterR {args : List Value} (binds : List (Str × Value)) (hide : List (Addr × Obj)) (C : Cx w A base h₀ L m s.heap news c) (hsub : ∀ p ∈ hide, p ∈ news)
    (ho : (KK w.params).lookup f = some ⟨oc, od, .func (fnOf name qual params body scope dV kV doc pm an cdv ct), osl⟩) (hcd : codeIn (KK w.params) cdv qual = true)
    (hbind : BindsTo s (fnOf name qual params body scope dV kV doc pm an cdv ct) { pos := args } binds) (hok : okSc scope (binds.map (·.1)) = true)
    (h : ∀ dp fr gd un (Q₁ : Flow → Shared → Prop) (E₁ : Value → Shared → Prop) g L' h₁ tk env outer mean mg mb, A = AA dp fr gd un →
      RetQ (fun v s' => R (.ok (.ret v)) s') Q₁ → RetE w (A.deeper (envOf qual scope L' f cdv)) (envOf qual scope L' f cdv) (fun e s' => R (.error e) s') E₁ → PassesOwn (model PG w) ((AA dp fr gd un).deeper (envOf qual scope L' f cdv)) (envOf qual scope L' f cdv) E₁ →
      RetT g h₀ L m hide news → RetU g h₀ L m hide news →
      Fr h₀ L g m → h₀.StaysIn g →
      Fr g L' h₁ (fun y => binds.reverse.lookup y) → News g L' h₁ hide → Below (AA dp fr gd un) base (env :: outer) g → (KK w.params).In g → Top vw lz mean mg mb g → (∀ p ∈ hide, p.1 < L') → dp + c < recursionLimit → HidG s.heap g hide →
      wpAny (model PG w) ((AA dp fr gd un).deeper (envOf qual scope L' f cdv)) (execs body (envOf qual scope L' f cdv)) Q₁ E₁ { s with heap := h₁, toks := tk }) : codeAny (model PG w) A (.call (.ref f) { pos := args }) R s := by
  obtain ⟨dp, fr, gd, un, e⟩ := C.aa
  obtain ⟨hco, hgen, hk, hcell, hloc⟩ := okSc_all hok
  subst e
  exact enter binds hide C hsub ho hcd hbind hloc (fun g L' h₁ tk env outer mean mg mb => h dp fr gd un _ _ g L' h₁ tk env outer mean mg mb rfl (fun _ _ q => q) (fun _ _ q => q) PassesOwn.leaving) hco hgen hk hcell
theorem enterX {Q E : Value → Shared → Prop} {args : List Value} (binds : List (Str × Value)) (hide : List (Addr × Obj)) (C : Cx w A base h₀ L m s.heap news c) (hsub : ∀ p ∈ hide, p ∈ news)
    (ho : (KK w.params).lookup f = some ⟨oc, od, .func (fnOf name qual params body scope dV kV doc pm an cdv ct), osl⟩) (hcd : codeIn (KK w.params) cdv qual = true)
    (hbind : BindsTo s (fnOf name qual params body scope dV kV doc pm an cdv ct) { pos := args } binds) (hok : okSc scope (binds.map (·.1)) = true)
    (h : ∀ dp fr gd un (Q₁ : Flow → Shared → Prop) (E₁ : Value → Shared → Prop) g L' h₁ tk env outer mean mg mb, A = AA dp fr gd un →
      RetQ Q Q₁ → RetE w (A.deeper (envOf qual scope L' f cdv)) (envOf qual scope L' f cdv) E E₁ → PassesOwn (model PG w) ((AA dp fr gd un).deeper (envOf qual scope L' f cdv)) (envOf qual scope L' f cdv) E₁ →
      RetT g h₀ L m hide news → RetU g h₀ L m hide news →
      Fr h₀ L g m → h₀.StaysIn g →
      Fr g L' h₁ (fun y => binds.reverse.lookup y) → News g L' h₁ hide → Below (AA dp fr gd un) base (env :: outer) g → (KK w.params).In g → Top vw lz mean mg mb g → (∀ p ∈ hide, p.1 < L') → dp + c < recursionLimit → HidG s.heap g hide →
      wpAny (model PG w) ((AA dp fr gd un).deeper (envOf qual scope L' f cdv)) (execs body (envOf qual scope L' f cdv)) Q₁ E₁ { s with heap := h₁, toks := tk }) : wpAny (model PG w) A (call (.ref f) args) Q E s :=
  wpAny_call (enterR binds hide C hsub ho hcd hbind hok h)
def bindK (fd : FuncData) (args : List Value) : { k : Option (Array Value) → Sem (List (Str × Value)) // bindArgs fd ⟨args, []⟩ = seqItems? fd.defaults >>= k } := ⟨_, rfl⟩
theorem binds_D {fd : FuncData} {args : List Value} {binds : List (Str × Value)} {T : Addr} {o : Obj} {items : Array Value} {n : Nat} (C : Cx w A base h₀ L m s.heap news c) (hd : fd.defaults = .ref T) (ho : (KK w.params).lookup T = some o) (hs : o.data = .seq items n)
    (h₂ : (bindK fd args).1 (some items) = pure binds) : BindsTo s fd ⟨args, []⟩ binds := binds_K (C.X.keeps C.F.keep) hd ho hs (bindK fd args).2 h₂
end
theorem backNew {w : World} {A : Around} {base h₀ h g h' : Heap} {L L'' : Addr} {m m'' : Str → Option Value} {news hide led : List (Addr × Obj)} {c : Nat} (C : Cx w A base h₀ L m h news c)
    (hg : ∀ b o, h.get? b = some o → b ∉ hide.map (·.1) → g.get? b = some o) (FG : Fr h₀ L g m) (st : h₀.StaysIn g) (kN : News g L'' h' led) (new : List (Addr × Obj)) (hn : ∀ p ∈ new, p ∈ led ∧ p.1 ∉ hide.map (·.1)) :
    News h₀ L h' new ∧ ∀ q ∈ news, ∀ p ∈ new, q.1 ≠ p.1 := by
  refine ⟨fun p hp => ?_, fun q hq p hp e => ?_⟩
  · obtain ⟨h1, _, h3⟩ := kN p (hn p hp).1
    refine ⟨h1, fun e => ?_, ?_⟩
    · obtain ⟨oL, _, _, hL, _⟩ := FG.ns
      rw [e, hL] at h3; cases h3
    · cases q : h₀.get? p.1 with
      | none => rfl
      | some o => have := st _ _ q; rw [h3] at this; cases this
  · have h3 := (kN p (hn p hp).1).2.2
    have := hg _ _ (C.N q hq).1 (e ▸ (hn p hp).2)
    rw [e, h3] at this; cases this
theorem news_app {h₀ h : Heap} {L : Addr} {a b : List (Addr × Obj)} (x : News h₀ L h a) (y : News h₀ L h b) : News h₀ L h (a ++ b) := fun p hp => (List.mem_append.mp hp).elim (x p) (y p)
theorem sub2 {news : List (Addr × Obj)} {a b : Addr × Obj} (h1 : a ∈ news) (h2 : b ∈ news) : ∀ p ∈ [a, b], p ∈ news := fun p hp => by
  rcases List.mem_cons.mp hp with rfl | hp
  · exact h1
  · rcases List.mem_cons.mp hp with rfl | hp
    · exact h2
    · cases hp
local macro_rules | `(tactic| walk_at "M bindK") => `(tactic| exact binds_D (by assumption) rfl (by k_is) rfl rfl)
local macro_rules | `(tactic| walk_at "M sides") => `(tactic| (case kB => exact rfl))
theorem rm {d c c' n : Nat} (h : d + c < n) (hc : Nat.ble (1 + c') c = true) : d + 1 + c' < n := by
  have := Nat.le_of_ble_eq_true hc
  omega
theorem mkCx {w : World} {A : Around} {base h₀ h : Heap} {L : Addr} {m : Str → Option Value} {news : List (Addr × Obj)} {c : Nat} {env : Env} {outer : List Env} {mean : ExcName → Option Value} {mg mb : Str → Option Value}
    (B : Below A base outer h₀) (T : Top vw lz mean mg mb h₀) (F : Fr h₀ L h m) (X : (KK w.params).In h₀) (N : News h₀ L h news) (hf : env.frame = some L) (hk : env.scope.kind = .function) (r : A.depth + 1 + c < recursionLimit) (haa : ∃ dp fr gd un, A.deeper env = AA dp fr gd un) :
    Cx w (A.deeper env) base h₀ L m h news c := ⟨⟨A, env, outer, mean, mg, mb, B, Around.frames_deeper B.stack, hf, hk, T⟩, F, X, N, r, haa⟩
local macro_rules | `(tactic| walk_at "M cx") => `(tactic| (apply mkCx <;> first | k_asm | exact rfl | exact rm (by assumption) rfl | exact ⟨_, _, _, _, rfl⟩ | ((try dsimp only); omega)))
local macro_rules | `(tactic| walk_at "M z") => `(tactic| ((first | (case' h => refine Hold.out ?_) | (case' hE => refine Hold.out ?_)); (all_goals first | (with_reducible show Hold _) | walk_at "M cx" | ((first | (with_reducible show @LE.le Int _ _ _) | (with_reducible show @LT.lt Int _ _ _)); omega) | k_asm | k_mem | decide +kernel | exact .inl rfl | exact .inr ⟨rfl, rfl, rfl⟩ | walk_at "M hv" | k_updF | exact ⟨_, _, _, _, _, _, _, _, rfl⟩ | ((with_reducible show subscripted _ _ _ _ = _); with_unfolding_all rfl) | (intro _; (with_reducible show letTemporaryGo _ _ _ = _); with_unfolding_all rfl)); refine Hold.mk ?_))
section
local macro_rules | `(tactic| walk_at "subscriptTail") => zst
variable {w : World} {A : Around} {s : Shared} {base h₀ : Heap} {L : Addr} {m : Str → Option Value} {news news' : List (Addr × Obj)} {Q E : Value → Shared → Prop} {r dr l nd : Addr} {k : RK} {a : Int} {ta : Nat} {ts : List TK}
theorem c_isdone (C : Cx w A base h₀ L m s.heap news 2) (hr : (r, instObj 617 dr) ∈ news) (hd : (dr, rdD k l nd a ta) ∈ news) (hT : Toks h₀ l ts)
    (h : ∀ h' tk', Fr h₀ L h' m → News h₀ L h' news → Q (.bool (decide ((ts.length : Int) ≤ a))) { s with heap := h', toks := tk' }) :
    wpAny (model PG w) A (call (.ref 478) [.ref r]) Q E s := by
  refine' enterX [("self", .ref r)] [(r, instObj 617 dr), (dr, rdD k l nd a ta)] C (sub2 hr hd) ?k6 ?k7 ?k9 ?kB ?_
  case k6 => k_is
  case k7 => k_is
  case k9 => exact BindsTo.of_eq rfl
  walk_at "M sides"
  intro dp fr gd un Q₁ E₁ g L' h₁ tk env outer mean mg mb eA hQ hE₁ hPO ret retU FG st F' N' B' X' T' lt room hg
  k_lt lt
  (try dsimp only [AA] at room)
  have hT' := hT.keeps st
  (try dsimp only)
  (try k_fold)
  k_steps
  all_goals (try with_reducible refine hQ _ _ ?_)
  all_goals (try k_unfold)
  exact (ret _ _ _ F' N').elim fun a b => h _ _ a b
def pk (ts : List TK) (i : Int) : Value := match ts[i.toNat]? with
  | some t => .ref t.x
  | none => .none
theorem pk_some {ts : List TK} {i : Int} {t : TK} (h : ts[i.toNat]? = some t) : pk ts i = .ref t.x := by unfold pk; rw [h]
theorem pk_none {ts : List TK} {i : Int} (h : ts[i.toNat]? = none) : pk ts i = .none := by unfold pk; rw [h]
theorem c_peek {vs : List Value} {j : Int} {tj : Nat} (hargs : vs = [.ref r, .int j tj] ∨ (vs = [.ref r] ∧ j = 0 ∧ tj = 890)) (C : Cx w A base h₀ L m s.heap news 2) (hr : (r, instObj 617 dr) ∈ news) (hd : (dr, rdD k l nd a ta) ∈ news) (hT : Toks h₀ l ts) (ha : 0 ≤ a) (hj : 0 ≤ j) {v : Value} (hv : pk ts (a + j) = v)
    (h : ∀ h' tk', Fr h₀ L h' m → News h₀ L h' news → Q v { s with heap := h', toks := tk' }) :
    wpAny (model PG w) A (call (.ref 471) vs) Q E s := by
  refine' enterX [("self", .ref r), ("ahead", .int j tj)] [(r, instObj 617 dr), (dr, rdD k l nd a ta)] C (sub2 hr hd) ?k6 ?k7 ?k9 ?kB ?_
  case k6 => k_is
  case k7 => k_is
  case k9 =>
    rcases hargs with rfl | ⟨rfl, rfl, rfl⟩ <;> walk_at "M bindK"
  walk_at "M sides"
  intro dp fr gd un Q₁ E₁ g L' h₁ tk env outer mean mg mb eA hQ hE₁ hPO ret retU FG st F' N' B' X' T' lt room hg
  k_lt lt
  (try dsimp only [AA] at room)
  have hT' := hT.keeps st
  (try dsimp only)
  (try k_fold)
  cases hx : ts[(a + j).toNat]? with
  | none =>
    have hlt : (ts.length : Int) ≤ a + j := by have := List.getElem?_eq_none_iff.mp hx; omega
    rw [pk_none hx] at hv; subst hv
    k_steps
    all_goals (try with_reducible refine hQ _ _ ?_)
    all_goals (try dsimp only)
    exact (ret _ _ _ F' N').elim fun a b => h _ _ a b
  | some t =>
    have hlt : a + j < (ts.length : Int) := by have := (List.getElem?_eq_some_iff.mp hx).1; omega
    rw [pk_some hx] at hv; subst hv
    k_steps
    all_goals (try with_reducible refine hQ _ _ ?_)
    refine Hold.mk ?_
    walk_at "last subscriptTail"
    (with_unfolding_all refine' my_item ?k1 ?k2 ?k3 ?k4 ?_ ?k6 ?k7; (case k1 => k_asm); (case k2 => assumption); (case k4 => assumption); (case k3 => omega); (case k6 => with_unfolding_all rfl); (case k7 => intro _; with_unfolding_all rfl); k_whole)
    k_steps
    all_goals (try with_reducible refine hQ _ _ ?_)
    all_goals (try dsimp only)
    exact (ret _ _ _ F' N').elim fun a b => h _ _ a b
end
theorem zz1 : Hold True := by first | walk1 | exact ⟨trivial⟩
set_option maxHeartbeats 0
theorem rd_ne {g h : Heap} {L r dr : Addr} {es : List DictEntry} {n : Nat} {rest : List (Addr × Obj)} (N : News g L h ((r, instObj 617 dr) :: (dr, dictOf es n) :: rest)) : r ≠ dr := by
  intro e
  have h1 := (N _ (.head _)).1
  have h2 := (N _ (.tail _ (.head _))).1
  dsimp only at h1 h2
  rw [e, h2] at h1
  cases h1
local macro_rules | `(tactic| walk_at "M t9") => `(tactic| (intro t9))
local macro_rules | `(tactic| walk_at "M upd") => `(tactic| (intro ta' h' tk' F' hn'; (have N' := hn' _ (by k_upd)); clear hn'; (try k_sweep)))
local macro_rules | `(tactic| walk_at "M y") => `(tactic| (walk_at "M z"; walk_at "M s"))
local macro_rules | `(tactic| walk_at "M x") => `(tactic| (walk_at "M z"; walk_at "M upd"))
local macro_rules | `(tactic| walk_at "call ref") => `(tactic| (k_here; (with_reducible show wpAny _ _ (call (Value.ref _) (_ ++ _)) _ _ _); dsimp only [List.cons_append, List.nil_append]))
local macro_rules | `(tactic| walk_at "call ref") => zap `Mine.c_peek ["M y"]
def kindIs (ts : List TK) (i : Int) (kd : Str) : Bool := match ts[i.toNat]? with
  | some t => t.kind == kd
  | none => false
section
variable {w : World} {A : Around} {s : Shared} {base h₀ : Heap} {L : Addr} {m : Str → Option Value} {news news' : List (Addr × Obj)} {Q E : Value → Shared → Prop} {r dr l nd : Addr} {k : RK} {a : Int} {ta : Nat} {ts : List TK}
theorem c_iskind {vs : List Value} {kd : Str} {u : Nat} {j : Int} {tj : Nat} (hargs : vs = [.ref r, .str kd u, .int j tj] ∨ (vs = [.ref r, .str kd u] ∧ j = 0 ∧ tj = 922)) (C : Cx w A base h₀ L m s.heap news 4) (hr : (r, instObj 617 dr) ∈ news) (hd : (dr, rdD k l nd a ta) ∈ news) (hT : Toks h₀ l ts) (ha : 0 ≤ a) (hj : 0 ≤ j)
    {b : Bool} (hv : kindIs ts (a + j) kd = b) (h : ∀ h' tk', Fr h₀ L h' m → News h₀ L h' news → Q (.bool b) { s with heap := h', toks := tk' }) : wpAny (model PG w) A (call (.ref 500) vs) Q E s := by
  refine' enterX [("self", .ref r), ("kind", .str kd u), ("ahead", .int j tj)] [(r, instObj 617 dr), (dr, rdD k l nd a ta)] C (sub2 hr hd) ?k6 ?k7 ?k9 ?kB ?_
  case k6 => k_is
  case k7 => k_is
  case k9 => rcases hargs with rfl | ⟨rfl, rfl, rfl⟩ <;> walk_at "M bindK"
  walk_at "M sides"
  intro dp fr gd un Q₁ E₁ g L' h₁ tk env outer mean mg mb eA hQ hE₁ hPO ret retU FG st F' N' B' X' T' lt room hg
  k_lt lt
  (try dsimp only [AA] at room)
  have hT' := hT.keeps st
  have hne := rd_ne N'
  (try dsimp only)
  (try k_fold)
  cases hx : ts[(a + j).toNat]? with
  | none =>
    have hp : pk ts (a + j) = .none := pk_none hx
    have hq : kindIs ts (a + j) kd = false := by unfold kindIs; rw [hx]
    rw [hq] at hv; subst hv
    k_steps
    all_goals (try with_reducible refine hQ _ _ ?_)
    all_goals (try dsimp only)
    (with_reducible rename Fr g _ _ _ => kF)
    (with_reducible rename News g _ _ _ => kN)
    exact (ret _ _ _ kF (cb_drop kN (by k_sub))).elim fun a b => h _ _ a b
  | some t =>
    have hp : pk ts (a + j) = .ref t.x := pk_some hx
    have hq : kindIs ts (a + j) kd = (t.kind == kd) := by unfold kindIs; rw [hx]
    rw [hq] at hv; subst hv
    have hI := hT'.inst t (List.mem_of_getElem? hx)
    k_steps
    all_goals (try with_reducible refine hQ _ _ ?_)
    all_goals (try dsimp only)
    (with_reducible rename Fr g _ _ _ => kF)
    (with_reducible rename News g _ _ _ => kN)
    exact (ret _ _ _ kF (cb_drop kN (by k_sub))).elim fun a b => h _ _ a b
end
local macro_rules | `(tactic| walk_at "call ref") => zap `Mine.c_iskind ["M y"]
def signIs (ts : List TK) (i : Int) (sg : Str) : Bool := match ts[i.toNat]? with
  | some t => t.kind == "sign" && t.worth == sg
  | none => false
section
variable {w : World} {A : Around} {s : Shared} {base h₀ : Heap} {L : Addr} {m : Str → Option Value} {news news' : List (Addr × Obj)} {Q E : Value → Shared → Prop} {r dr l nd : Addr} {k : RK} {a : Int} {ta : Nat} {ts : List TK}
theorem c_issign {vs : List Value} {kd : Str} {u : Nat} {j : Int} {tj : Nat} (hargs : vs = [.ref r, .str kd u, .int j tj] ∨ (vs = [.ref r, .str kd u] ∧ j = 0 ∧ tj = 999)) (C : Cx w A base h₀ L m s.heap news 6) (hr : (r, instObj 617 dr) ∈ news) (hd : (dr, rdD k l nd a ta) ∈ news) (hT : Toks h₀ l ts) (ha : 0 ≤ a) (hj : 0 ≤ j)
    {b : Bool} (hv : signIs ts (a + j) kd = b) (h : ∀ h' tk', Fr h₀ L h' m → News h₀ L h' news → Q (.bool b) { s with heap := h', toks := tk' }) : wpAny (model PG w) A (call (.ref 565) vs) Q E s := by
  refine' enterX [("self", .ref r), ("sign", .str kd u), ("ahead", .int j tj)] [(r, instObj 617 dr), (dr, rdD k l nd a ta)] C (sub2 hr hd) ?k6 ?k7 ?k9 ?kB ?_
  case k6 => k_is
  case k7 => k_is
  case k9 => rcases hargs with rfl | ⟨rfl, rfl, rfl⟩ <;> walk_at "M bindK"
  walk_at "M sides"
  intro dp fr gd un Q₁ E₁ g L' h₁ tk env outer mean mg mb eA hQ hE₁ hPO ret retU FG st F' N' B' X' T' lt room hg
  k_lt lt
  (try dsimp only [AA] at room)
  have hT' := hT.keeps st
  have hne := rd_ne N'
  (try dsimp only)
  (try k_fold)
  cases hx : ts[(a + j).toNat]? with
  | none =>
    have hk : kindIs ts (a + j) "sign" = false := by unfold kindIs; rw [hx]
    have hq : signIs ts (a + j) kd = false := by unfold signIs; rw [hx]
    rw [hq] at hv; subst hv
    k_steps
    all_goals (try with_reducible refine hQ _ _ ?_)
    all_goals (try dsimp only)
    (with_reducible rename Fr g _ _ _ => kF)
    (with_reducible rename News g _ _ _ => kN)
    exact (ret _ _ _ kF (cb_drop kN (by k_sub))).elim fun a b => h _ _ a b
  | some t =>
    have hp : pk ts (a + j) = .ref t.x := pk_some hx
    have hI := hT'.inst t (List.mem_of_getElem? hx)
    cases hs : (t.kind == "sign") with
    | false =>
      have hk : kindIs ts (a + j) "sign" = false := by unfold kindIs; rw [hx]; exact hs
      have hq : signIs ts (a + j) kd = false := by unfold signIs; rw [hx]; show (t.kind == "sign" && _) = _; rw [hs]; rfl
      rw [hq] at hv; subst hv
      k_steps
      all_goals (try with_reducible refine hQ _ _ ?_)
      all_goals (try dsimp only)
      (with_reducible rename Fr g _ _ _ => kF)
      (with_reducible rename News g _ _ _ => kN)
      exact (ret _ _ _ kF (cb_drop kN (by k_sub))).elim fun a b => h _ _ a b
    | true =>
      have hk : kindIs ts (a + j) "sign" = true := by unfold kindIs; rw [hx]; exact hs
      have hq : signIs ts (a + j) kd = (t.worth == kd) := by unfold signIs; rw [hx]; show (t.kind == "sign" && _) = _; rw [hs]; rfl
      rw [hq] at hv; subst hv
      k_steps
      all_goals (try with_reducible refine hQ _ _ ?_)
      all_goals (try dsimp only)
      (with_reducible rename Fr g _ _ _ => kF)
      (with_reducible rename News g _ _ _ => kN)
      exact (ret _ _ _ kF (cb_drop kN (by k_sub))).elim fun a b => h _ _ a b
end
local macro_rules | `(tactic| walk_at "call ref") => zap `Mine.c_issign ["M y"]
section
variable {w : World} {A : Around} {s : Shared} {base h₀ : Heap} {L : Addr} {m : Str → Option Value} {news news' : List (Addr × Obj)} {Q E : Value → Shared → Prop} {r dr l nd : Addr} {k : RK} {a : Int} {ta : Nat} {ts : List TK}
theorem c_skipsign0 {kd : Str} {u : Nat} (C : Cx w A base h₀ L m s.heap news 8) (hr : (r, instObj 617 dr) ∈ news) (hd : (dr, rdD k l nd a ta) ∈ news) (hT : Toks h₀ l ts) (ha : 0 ≤ a)
    (hv : signIs ts (a + 0) kd = false) (h : ∀ h' tk', Fr h₀ L h' m → News h₀ L h' news → Q (.bool false) { s with heap := h', toks := tk' }) : wpAny (model PG w) A (call (.ref 572) [.ref r, .str kd u]) Q E s := by
  refine' enterX [("self", .ref r), ("sign", .str kd u)] [(r, instObj 617 dr), (dr, rdD k l nd a ta)] C (sub2 hr hd) ?k6 ?k7 ?k9 ?kB ?_
  case k6 => k_is
  case k7 => k_is
  case k9 => exact BindsTo.of_eq rfl
  walk_at "M sides"
  intro dp fr gd un Q₁ E₁ g L' h₁ tk env outer mean mg mb eA hQ hE₁ hPO ret retU FG st F' N' B' X' T' lt room hg
  k_lt lt
  (try dsimp only [AA] at room)
  have hT' := hT.keeps st
  have hne := rd_ne N'
  (try dsimp only)
  (try k_fold)
  k_steps
  all_goals (try with_reducible refine hQ _ _ ?_)
  all_goals (try dsimp only)
  (with_reducible rename Fr g _ _ _ => kF)
  (with_reducible rename News g _ _ _ => kN)
  exact (ret _ _ _ kF (cb_drop kN (by k_sub))).elim fun a b => h _ _ a b
theorem c_skipsign1 {kd : Str} {u : Nat} (C : Cx w A base h₀ L m s.heap news 8) (hr : (r, instObj 617 dr) ∈ news) (hd : (dr, rdD k l nd a ta) ∈ news) (hT : Toks h₀ l ts) (ha : 0 ≤ a)
    (hv : signIs ts (a + 0) kd = true) (h : ∀ ta' h' tk', Fr h₀ L h' m → (∀ news', Upd dr (rdD k l nd a ta) (rdD k l nd (a + 1) ta') news news' → News h₀ L h' news') → Q (.bool true) { s with heap := h', toks := tk' }) : wpAny (model PG w) A (call (.ref 572) [.ref r, .str kd u]) Q E s := by
  refine' enterX [("self", .ref r), ("sign", .str kd u)] [(r, instObj 617 dr), (dr, rdD k l nd a ta)] C (sub2 hr hd) ?k6 ?k7 ?k9 ?kB ?_
  case k6 => k_is
  case k7 => k_is
  case k9 => exact BindsTo.of_eq rfl
  walk_at "M sides"
  intro dp fr gd un Q₁ E₁ g L' h₁ tk env outer mean mg mb eA hQ hE₁ hPO ret retU FG st F' N' B' X' T' lt room hg
  k_lt lt
  (try dsimp only [AA] at room)
  have hT' := hT.keeps st
  have hne := rd_ne N'
  (try dsimp only)
  (try k_fold)
  k_steps
  all_goals (try with_reducible refine hQ _ _ ?_)
  all_goals (try dsimp only)
  (with_reducible rename Fr g _ _ _ => kF)
  (with_reducible rename News g _ _ _ => kN)
  exact h _ _ _ (FG.kept kF.keep) fun _ U => (retU _ _ _ _ _ _ _ _ kF kN U (.tail _ (.head _)) (fun p hp ne => by
    rcases List.mem_cons.mp hp with rfl | hp
    · exact .head _
    · rcases List.mem_cons.mp hp with rfl | hp
      · exact absurd rfl ne
      · cases hp)).2
end
set_option maxHeartbeats 0
local macro_rules | `(tactic| walk_at "call ref") => zaps [(`Mine.c_skipsign0, ["M y"]), (`Mine.c_skipsign1, ["M x"])]
section
variable {w : World} {A : Around} {s : Shared} {base h₀ : Heap} {L : Addr} {m : Str → Option Value} {news news' : List (Addr × Obj)} {Q E : Value → Shared → Prop} {r dr l nd : Addr} {k : RK} {a : Int} {ta : Nat} {ts : List TK}
theorem c_take {t : TK} (C : Cx w A base h₀ L m s.heap news 4) (hr : (r, instObj 617 dr) ∈ news) (hd : (dr, rdD k l nd a ta) ∈ news) (hT : Toks h₀ l ts) (ha : 0 ≤ a) (hx : ts[(a + 0).toNat]? = some t) (h : ∀ ta' h' tk', Fr h₀ L h' m → (∀ news', Upd dr (rdD k l nd a ta) (rdD k l nd (a + 1) ta') news news' → News h₀ L h' news') → Q (.ref t.x) { s with heap := h', toks := tk' }) : wpAny (model PG w) A (call (.ref 492) [.ref r]) Q E s := by
  refine' enterX [("self", .ref r)] [(r, instObj 617 dr), (dr, rdD k l nd a ta)] C (sub2 hr hd) ?k6 ?k7 ?k9 ?kB ?_
  case k6 => k_is
  case k7 => k_is
  case k9 => exact BindsTo.of_eq rfl
  walk_at "M sides"
  intro dp fr gd un Q₁ E₁ g L' h₁ tk env outer mean mg mb eA hQ hE₁ hPO ret retU FG st F' N' B' X' T' lt room hg
  k_lt lt
  (try dsimp only [AA] at room)
  have hT' := hT.keeps st
  have hne := rd_ne N'
  (try dsimp only)
  (try k_fold)
  have hp : pk ts (a + 0) = .ref t.x := pk_some hx
  k_steps
  all_goals (try with_reducible refine hQ _ _ ?_)
  all_goals (try dsimp only)
  (with_reducible rename Fr g _ _ _ => kF)
  (with_reducible rename News g _ _ _ => kN)
  exact h _ _ _ (FG.kept kF.keep) fun _ U => (retU _ _ _ _ _ _ _ _ kF kN U (.tail _ (.head _)) (fun p hp ne => by
    rcases List.mem_cons.mp hp with rfl | hp
    · exact .head _
    · rcases List.mem_cons.mp hp with rfl | hp
      · exact absurd rfl ne
      · cases hp)).2
end
local macro_rules | `(tactic| walk_at "call ref") => zap `Mine.c_take ["M x"]
noncomputable def RES : Str := match st 57 with
  | .Assign _ (.Constant (.str x) _ _) _ => x
  | _ => ⟨#[]⟩
noncomputable def rsv (x : Str) : Bool := !(Builtin.Str.occurrences RES (" " ++ x ++ " ") 0 RES.length 1).isEmpty
theorem sp_len : (Str.ofString " ").length = 1 := by decide +kernel
section
local macro_rules | `(tactic| walk_at "binaryOp Add str str") => zst
variable {w : World} {A : Around} {s : Shared} {base h₀ : Heap} {L : Addr} {m : Str → Option Value} {news : List (Addr × Obj)} {Q E : Value → Shared → Prop}
theorem c_isreserved {x : Str} {u : Nat} {b : Bool} (C : Cx w A base h₀ L m s.heap news 2) (hz : x.length ≤ 100) (hv : rsv x = b)
    (h : ∀ h' tk', Fr h₀ L h' m → News h₀ L h' news → Q (.bool b) { s with heap := h', toks := tk' }) : wpAny (model PG w) A (call (.ref 443) [.str x u]) Q E s := by
  refine' enterX [("word", .str x u)] [] C (fun _ h => (nomatch h)) ?k6 ?k7 ?k9 ?kB ?_
  case k6 => k_is
  case k7 => k_is
  case k9 => exact BindsTo.of_eq rfl
  walk_at "M sides"
  intro dp fr gd un Q₁ E₁ g L' h₁ tk env outer mean mg mb eA hQ hE₁ hPO ret retU FG st F' N' B' X' T' lt room hg
  (try dsimp only [AA] at room)
  (try dsimp only)
  (try k_fold)
  k_steps
  refine Hold.mk ?_
  (refine SBL.add ?_ ?z)
  (case z => (show _ ≤ 2 ^ 24); (simp only [sp_len] at *); omega)
  intro t' k' hl'
  k_steps
  refine Hold.mk ?_
  (refine SBL.add ?_ ?z)
  (case z => (show _ ≤ 2 ^ 24); (simp only [sp_len] at *); omega)
  intro t' k' hl'
  k_steps
  all_goals (try with_reducible refine hQ _ _ ?_)
  all_goals (try dsimp only)
  (with_reducible rename Fr g _ _ _ => kF)
  (with_reducible rename News g _ _ _ => kN)
  subst hv
  exact (ret _ _ _ kF kN).elim fun a b => h _ _ a b
end
theorem zz2 : Hold True := by first | walk1 | exact ⟨trivial⟩
local macro_rules | `(tactic| walk_at "call ref") => zap `Mine.c_isreserved ["M y"]
def nameIs (ts : List TK) (i : Int) : Prop := ∃ t, ts[i.toNat]? = some t ∧ (t.kind == "word") = true ∧ rsv t.worth = false ∧ t.worth.length ≤ 100
section
variable {w : World} {A : Around} {s : Shared} {base h₀ : Heap} {L : Addr} {m : Str → Option Value} {news news' : List (Addr × Obj)} {Q E : Value → Shared → Prop} {r dr l nd : Addr} {k : RK} {a : Int} {ta : Nat} {ts : List TK}
theorem c_isname {vs : List Value} {j : Int} {tj : Nat} {t : TK} {b : Bool} (hargs : vs = [.ref r, .int j tj] ∨ (vs = [.ref r] ∧ j = 0 ∧ tj = 975)) (C : Cx w A base h₀ L m s.heap news 6) (hr : (r, instObj 617 dr) ∈ news) (hd : (dr, rdD k l nd a ta) ∈ news) (hT : Toks h₀ l ts) (ha : 0 ≤ a) (hj : 0 ≤ j)
    (hx : ts[(a + j).toNat]? = some t) (hk : (t.kind == "word") = true) (hz : t.worth.length ≤ 100) (hv : (!rsv t.worth) = b) (h : ∀ h' tk', Fr h₀ L h' m → News h₀ L h' news → Q (.bool b) { s with heap := h', toks := tk' }) : wpAny (model PG w) A (call (.ref 543) vs) Q E s := by
  refine' enterX [("self", .ref r), ("ahead", .int j tj)] [(r, instObj 617 dr), (dr, rdD k l nd a ta)] C (sub2 hr hd) ?k6 ?k7 ?k9 ?kB ?_
  case k6 => k_is
  case k7 => k_is
  case k9 => rcases hargs with rfl | ⟨rfl, rfl, rfl⟩ <;> walk_at "M bindK"
  walk_at "M sides"
  intro dp fr gd un Q₁ E₁ g L' h₁ tk env outer mean mg mb eA hQ hE₁ hPO ret retU FG st F' N' B' X' T' lt room hg
  k_lt lt
  (try dsimp only [AA] at room)
  have hT' := hT.keeps st
  have hne := rd_ne N'
  (try dsimp only)
  (try k_fold)
  have hp : pk ts (a + j) = .ref t.x := pk_some hx
  have hq : kindIs ts (a + j) "word" = true := by unfold kindIs; rw [hx]; exact hk
  have hI := hT'.inst t (List.mem_of_getElem? hx)
  have hrs : rsv t.worth = rsv t.worth := rfl
  subst hv
  k_steps
  all_goals (try with_reducible refine hQ _ _ ?_)
  all_goals (try dsimp only)
  (with_reducible rename Fr g _ _ _ => kF)
  (with_reducible rename News g _ _ _ => kN)
  exact (ret _ _ _ kF (cb_drop kN (by k_sub))).elim fun a b => h _ _ a b
end
local macro_rules | `(tactic| walk_at "call ref") => zap `Mine.c_isname ["M y"]
section
variable {w : World} {A : Around} {s : Shared} {base h₀ : Heap} {L : Addr} {m : Str → Option Value} {news news' : List (Addr × Obj)} {Q E : Value → Shared → Prop} {r dr l nd : Addr} {k : RK} {a : Int} {ta : Nat} {ts : List TK}
theorem c_name {t : TK} (C : Cx w A base h₀ L m s.heap news 8) (hr : (r, instObj 617 dr) ∈ news) (hd : (dr, rdD k l nd a ta) ∈ news) (hT : Toks h₀ l ts) (ha : 0 ≤ a)
    (hx : ts[(a + 0).toNat]? = some t) (hk : (t.kind == "word") = true) (hz : t.worth.length ≤ 100) (hv : (!rsv t.worth) = true) (h : ∀ ta' h' tk', Fr h₀ L h' m → (∀ news', Upd dr (rdD k l nd a ta) (rdD k l nd (a + 1) ta') news news' → News h₀ L h' news') → Q (.str t.worth t.k2) { s with heap := h', toks := tk' }) : wpAny (model PG w) A (call (.ref 550) [.ref r]) Q E s := by
  refine' enterX [("self", .ref r)] [(r, instObj 617 dr), (dr, rdD k l nd a ta)] C (sub2 hr hd) ?k6 ?k7 ?k9 ?kB ?_
  case k6 => k_is
  case k7 => k_is
  case k9 => exact BindsTo.of_eq rfl
  walk_at "M sides"
  intro dp fr gd un Q₁ E₁ g L' h₁ tk env outer mean mg mb eA hQ hE₁ hPO ret retU FG st F' N' B' X' T' lt room hg
  k_lt lt
  (try dsimp only [AA] at room)
  have hT' := hT.keeps st
  have hne := rd_ne N'
  (try dsimp only)
  (try k_fold)
  have hI := hT'.inst t (List.mem_of_getElem? hx)
  k_steps
  all_goals (try with_reducible refine hQ _ _ ?_)
  all_goals (try dsimp only)
  (with_reducible rename Fr g _ _ _ => kF)
  (with_reducible rename News g _ _ _ => kN)
  exact h _ _ _ (FG.kept kF.keep) fun _ U => (retU _ _ _ _ _ _ _ _ kF kN U (.tail _ (.head _)) (fun p hp ne => by
    rcases List.mem_cons.mp hp with rfl | hp
    · exact .head _
    · rcases List.mem_cons.mp hp with rfl | hp
      · exact absurd rfl ne
      · cases hp)).2
end
local macro_rules | `(tactic| walk_at "call ref") => zap `Mine.c_name ["M x"]
def wordIs (ts : List TK) (i : Int) (x : Str) : Bool := match ts[i.toNat]? with
  | some t => t.kind == "word" && t.worth == x
  | none => false
theorem one_of_split {l : List (Str × Tok)} {x y : Str} (e : l.map (·.1) = Txt.split x y) (h : Txt.split x y = [x]) : ∃ t, l = [(x, t)] := by
  rw [h] at e
  obtain ⟨t, l', rfl, e'⟩ := KSpl.cons_of e
  exact ⟨t, by rw [KSpl.nil_of e']⟩
theorem split_one {prog : Program} {w : World} {A : Around} {E : Value → Shared → Prop} {s : Shared} {h₀ : Heap} {L : Addr} {m : Str → Option Value} {news : List (Addr × Obj)} {x y : Str} {t u : Tok} {Q : Value → Shared → Prop} (F : Fr h₀ L s.heap m) (N : News h₀ L s.heap news) (hS : Txt.split x y = [x]) (hy : (y.length == 0) = false) (hz : x.length ≤ 100)
    (h : ∀ l' t9 h' k', Fr h₀ L h' m → News h₀ L h' ((l', W.listOf (List.toArray [Value.str x t9]) 0) :: news) → StrsAre [Value.str x t9] [x] → (∀ p ∈ news, p.1 < l') → Q (.ref l') { s with heap := h', toks := k' }) : wpAny (model prog w) A (call (.builtin "str.split") [.str x t, .str y u]) Q E s := by
  refine KSpl.split1 F N hy (fun D l h' k e a F' N' l1 => ?_) (by show _ ≤ 2 ^ 24; omega)
  obtain ⟨t9, rfl⟩ := one_of_split e hS
  exact h D t9 h' k F' N' a l1
local macro_rules
  | `(tactic| walk_at "M sp") => `(tactic| (intro l' t9 h' k' F' N' a' l1; k_lt l1; (try k_sweep)))
  | `(tactic| walk_at "call builtin:str.split") => zap `Mine.split_one ["M z", "M sp"]
section
variable {w : World} {A : Around} {s : Shared} {base h₀ : Heap} {L : Addr} {m : Str → Option Value} {news news' : List (Addr × Obj)} {Q E : Value → Shared → Prop} {r dr l nd : Addr} {k : RK} {a : Int} {ta : Nat} {ts : List TK}
theorem c_isword0 {x : Str} {u : Nat} (C : Cx w A base h₀ L m s.heap news 6) (hr : (r, instObj 617 dr) ∈ news) (hd : (dr, rdD k l nd a ta) ∈ news) (hT : Toks h₀ l ts) (ha : 0 ≤ a) (hsp : Txt.split x " " = [x]) (hz : x.length ≤ 100)
    (hv : wordIs ts (a + 0) x = false) (h : ∀ h' tk', Fr h₀ L h' m → News h₀ L h' news → Q (.bool false) { s with heap := h', toks := tk' }) : wpAny (model PG w) A (call (.ref 507) [.ref r, .str x u]) Q E s := by
  refine' enterX [("self", .ref r), ("words", .str x u)] [(r, instObj 617 dr), (dr, rdD k l nd a ta)] C (sub2 hr hd) ?k6 ?k7 ?k9 ?kB ?_
  case k6 => k_is
  case k7 => k_is
  case k9 => exact BindsTo.of_eq rfl
  walk_at "M sides"
  intro dp fr gd un Q₁ E₁ g L' h₁ tk env outer mean mg mb eA hQ hE₁ hPO ret retU FG st F' N' B' X' T' lt room hg
  k_lt lt
  (try dsimp only [AA] at room)
  have hT' := hT.keeps st
  have hne := rd_ne N'
  (try dsimp only)
  (try k_fold)
  cases hx : ts[(a + 0).toNat]? with
  | none =>
    have hk : kindIs ts (a + 0) "word" = false := by unfold kindIs; rw [hx]
    k_steps
    all_goals (try with_reducible refine hQ _ _ ?_)
    all_goals (try dsimp only)
    (with_reducible rename Fr g _ _ _ => kF)
    (with_reducible rename News g _ _ _ => kN)
    exact (ret _ _ _ kF (cb_drop kN (by k_sub))).elim fun a b => h _ _ a b
  | some t =>
    have hp : pk ts (a + 0) = .ref t.x := pk_some hx
    have hI := hT'.inst t (List.mem_of_getElem? hx)
    cases hs : (t.kind == "word") with
    | false =>
      have hk : kindIs ts (a + 0) "word" = false := by unfold kindIs; rw [hx]; exact hs
      k_steps
      all_goals (try with_reducible refine hQ _ _ ?_)
      all_goals (try dsimp only)
      (with_reducible rename Fr g _ _ _ => kF)
      (with_reducible rename News g _ _ _ => kN)
      exact (ret _ _ _ kF (cb_drop kN (by k_sub))).elim fun a b => h _ _ a b
    | true =>
      have hk : kindIs ts (a + 0) "word" = true := by unfold kindIs; rw [hx]; exact hs
      have hw : (t.worth == x) = false := by unfold wordIs at hv; rw [hx] at hv; change (t.kind == "word" && t.worth == x) = false at hv; rw [hs] at hv; exact hv
      k_steps
      all_goals (try with_reducible refine hQ _ _ ?_)
      all_goals (try dsimp only)
      all_goals first
        | ((with_reducible rename Fr g _ _ _ => kF); (with_reducible rename News g _ _ _ => kN); exact (ret _ _ _ kF (cb_drop kN (by k_sub))).elim fun a b => h _ _ a b)
        | (exfalso; simp_all; done)
        | trace_state
theorem c_isword1 {x : Str} {u : Nat} (C : Cx w A base h₀ L m s.heap news 6) (hr : (r, instObj 617 dr) ∈ news) (hd : (dr, rdD k l nd a ta) ∈ news) (hT : Toks h₀ l ts) (ha : 0 ≤ a) (hsp : Txt.split x " " = [x]) (hz : x.length ≤ 100)
    (hv : wordIs ts (a + 0) x = true) (h : ∀ h' tk', Fr h₀ L h' m → News h₀ L h' news → Q (.bool true) { s with heap := h', toks := tk' }) : wpAny (model PG w) A (call (.ref 507) [.ref r, .str x u]) Q E s := by
  refine' enterX [("self", .ref r), ("words", .str x u)] [(r, instObj 617 dr), (dr, rdD k l nd a ta)] C (sub2 hr hd) ?k6 ?k7 ?k9 ?kB ?_
  case k6 => k_is
  case k7 => k_is
  case k9 => exact BindsTo.of_eq rfl
  walk_at "M sides"
  intro dp fr gd un Q₁ E₁ g L' h₁ tk env outer mean mg mb eA hQ hE₁ hPO ret retU FG st F' N' B' X' T' lt room hg
  k_lt lt
  (try dsimp only [AA] at room)
  have hT' := hT.keeps st
  have hne := rd_ne N'
  (try dsimp only)
  (try k_fold)
  cases hx : ts[(a + 0).toNat]? with
  | none => unfold wordIs at hv; rw [hx] at hv; cases hv
  | some t =>
    have hp : pk ts (a + 0) = .ref t.x := pk_some hx
    have hI := hT'.inst t (List.mem_of_getElem? hx)
    have hv' : (t.kind == "word" && t.worth == x) = true := by unfold wordIs at hv; rw [hx] at hv; exact hv
    have hs := (Bool.and_eq_true_iff.mp hv').1
    have hw := (Bool.and_eq_true_iff.mp hv').2
    have hk : kindIs ts (a + 0) "word" = true := by unfold kindIs; rw [hx]; exact hs
    k_steps
    all_goals (try with_reducible refine hQ _ _ ?_)
    all_goals (try dsimp only)
    all_goals first
      | ((with_reducible rename Fr g _ _ _ => kF); (with_reducible rename News g _ _ _ => kN); exact (ret _ _ _ kF (cb_drop kN (by k_sub))).elim fun a b => h _ _ a b)
      | (exfalso; simp_all; done)
      | trace_state
end
set_option maxHeartbeats 0
local macro_rules | `(tactic| walk_at "call ref") => zaps [(`Mine.c_isword0, ["M y"]), (`Mine.c_isword1, ["M y"])]
section
variable {w : World} {A : Around} {s : Shared} {base h₀ : Heap} {L : Addr} {m : Str → Option Value} {news news' : List (Addr × Obj)} {Q E : Value → Shared → Prop} {r dr l nd : Addr} {k : RK} {a : Int} {ta : Nat} {ts : List TK}
theorem c_skip0 {x : Str} {u : Nat} (C : Cx w A base h₀ L m s.heap news 8) (hr : (r, instObj 617 dr) ∈ news) (hd : (dr, rdD k l nd a ta) ∈ news) (hT : Toks h₀ l ts) (ha : 0 ≤ a) (hsp : Txt.split x " " = [x]) (hz : x.length ≤ 100)
    (hv : wordIs ts (a + 0) x = false) (h : ∀ h' tk', Fr h₀ L h' m → News h₀ L h' news → Q (.bool false) { s with heap := h', toks := tk' }) : wpAny (model PG w) A (call (.ref 514) [.ref r, .str x u]) Q E s := by
  refine' enterX [("self", .ref r), ("words", .str x u)] [(r, instObj 617 dr), (dr, rdD k l nd a ta)] C (sub2 hr hd) ?k6 ?k7 ?k9 ?kB ?_
  case k6 => k_is
  case k7 => k_is
  case k9 => exact BindsTo.of_eq rfl
  walk_at "M sides"
  intro dp fr gd un Q₁ E₁ g L' h₁ tk env outer mean mg mb eA hQ hE₁ hPO ret retU FG st F' N' B' X' T' lt room hg
  k_lt lt
  (try dsimp only [AA] at room)
  have hT' := hT.keeps st
  have hne := rd_ne N'
  (try dsimp only)
  (try k_fold)
  k_steps
  all_goals (try with_reducible refine hQ _ _ ?_)
  all_goals (try dsimp only)
  (with_reducible rename Fr g _ _ _ => kF)
  (with_reducible rename News g _ _ _ => kN)
  exact (ret _ _ _ kF (cb_drop kN (by k_sub))).elim fun a b => h _ _ a b
theorem c_skip1 {x : Str} {u : Nat} (C : Cx w A base h₀ L m s.heap news 8) (hr : (r, instObj 617 dr) ∈ news) (hd : (dr, rdD k l nd a ta) ∈ news) (hT : Toks h₀ l ts) (ha : 0 ≤ a) (hsp : Txt.split x " " = [x]) (hz : x.length ≤ 100)
    (hv : wordIs ts (a + 0) x = true) (h : ∀ ta' h' tk', Fr h₀ L h' m → (∀ news', Upd dr (rdD k l nd a ta) (rdD k l nd (a + 1) ta') news news' → News h₀ L h' news') → Q (.bool true) { s with heap := h', toks := tk' }) : wpAny (model PG w) A (call (.ref 514) [.ref r, .str x u]) Q E s := by
  refine' enterX [("self", .ref r), ("words", .str x u)] [(r, instObj 617 dr), (dr, rdD k l nd a ta)] C (sub2 hr hd) ?k6 ?k7 ?k9 ?kB ?_
  case k6 => k_is
  case k7 => k_is
  case k9 => exact BindsTo.of_eq rfl
  walk_at "M sides"
  intro dp fr gd un Q₁ E₁ g L' h₁ tk env outer mean mg mb eA hQ hE₁ hPO ret retU FG st F' N' B' X' T' lt room hg
  k_lt lt
  (try dsimp only [AA] at room)
  have hT' := hT.keeps st
  have hne := rd_ne N'
  (try dsimp only)
  (try k_fold)
  k_steps
  all_goals (try with_reducible refine hQ _ _ ?_)
  all_goals (try dsimp only)
  (with_reducible rename Fr g _ _ _ => kF)
  (with_reducible rename News g _ _ _ => kN)
  refine h _ _ _ (FG.kept kF.keep) fun _ U => (retU _ _ _ [(r, instObj 617 dr), (dr, _)] _ _ _ _ kF (cb_drop kN (by k_sub)) U (.tail _ (.head _)) (fun p hp ne => ?_)).2
  rcases List.mem_cons.mp hp with rfl | hp
  · exact .head _
  · rcases List.mem_cons.mp hp with rfl | hp
    · exact absurd rfl ne
    · cases hp
theorem c_needsign {kd : Str} {u : Nat} (C : Cx w A base h₀ L m s.heap news 10) (hr : (r, instObj 617 dr) ∈ news) (hd : (dr, rdD k l nd a ta) ∈ news) (hT : Toks h₀ l ts) (ha : 0 ≤ a)
    (hv : signIs ts (a + 0) kd = true) (h : ∀ ta' h' tk', Fr h₀ L h' m → (∀ news', Upd dr (rdD k l nd a ta) (rdD k l nd (a + 1) ta') news news' → News h₀ L h' news') → Q .none { s with heap := h', toks := tk' }) : wpAny (model PG w) A (call (.ref 579) [.ref r, .str kd u]) Q E s := by
  refine' enterX [("self", .ref r), ("sign", .str kd u)] [(r, instObj 617 dr), (dr, rdD k l nd a ta)] C (sub2 hr hd) ?k6 ?k7 ?k9 ?kB ?_
  case k6 => k_is
  case k7 => k_is
  case k9 => exact BindsTo.of_eq rfl
  walk_at "M sides"
  intro dp fr gd un Q₁ E₁ g L' h₁ tk env outer mean mg mb eA hQ hE₁ hPO ret retU FG st F' N' B' X' T' lt room hg
  k_lt lt
  (try dsimp only [AA] at room)
  have hT' := hT.keeps st
  have hne := rd_ne N'
  (try dsimp only)
  (try k_fold)
  k_steps
  all_goals (try with_reducible refine hQ _ _ ?_)
  all_goals (try dsimp only)
  (with_reducible rename Fr g _ _ _ => kF)
  (with_reducible rename News g _ _ _ => kN)
  exact h _ _ _ (FG.kept kF.keep) fun _ U => (retU _ _ _ _ _ _ _ _ kF kN U (.tail _ (.head _)) (fun p hp ne => by
    rcases List.mem_cons.mp hp with rfl | hp
    · exact .head _
    · rcases List.mem_cons.mp hp with rfl | hp
      · exact absurd rfl ne
      · cases hp)).2
end
set_option maxHeartbeats 0
local macro_rules | `(tactic| walk_at "M hv") => `(tactic| ((have hW9 := (by assumption : ∀ x, wordIs _ _ x = _)); rw [hW9]; decide +kernel))
local macro_rules | `(tactic| walk_at "call ref") => zaps [(`Mine.c_skip0, ["M y"]), (`Mine.c_skip1, ["M x"])]
section
variable {w : World} {A : Around} {s : Shared} {base h₀ : Heap} {L : Addr} {m : Str → Option Value} {news news' : List (Addr × Obj)} {Q E : Value → Shared → Prop} {r dr l nd : Addr} {k : RK} {a : Int} {ta : Nat} {ts : List TK}
theorem c_oneof_pic {u : Nat} (C : Cx w A base h₀ L m s.heap news 10) (hr : (r, instObj 617 dr) ∈ news) (hd : (dr, rdD k l nd a ta) ∈ news) (hT : Toks h₀ l ts) (ha : 0 ≤ a) (hW : ∀ x, wordIs ts (a + 0) x = (("BINARY" : Str) == x))
    (h : ∀ t h' tk', Fr h₀ L h' m → News h₀ L h' news → Q (.str "" t) { s with heap := h', toks := tk' }) : wpAny (model PG w) A (call (.ref 528) [.ref r, .str "PIC PICTURE" u]) Q E s := by
  refine' enterX [("self", .ref r), ("words", .str "PIC PICTURE" u)] [(r, instObj 617 dr), (dr, rdD k l nd a ta)] C (sub2 hr hd) ?k6 ?k7 ?k9 ?kB ?_
  case k6 => k_is
  case k7 => k_is
  case k9 => exact BindsTo.of_eq rfl
  walk_at "M sides"
  intro dp fr gd un Q₁ E₁ g L' h₁ tk env outer mean mg mb eA hQ hE₁ hPO ret retU FG st F' N' B' X' T' lt room hg
  k_lt lt
  (try dsimp only [AA] at room)
  have hT' := hT.keeps st
  have hne := rd_ne N'
  (try dsimp only)
  (try k_fold)
  k_steps
  all_goals (try with_reducible refine hQ _ _ ?_)
  all_goals (try dsimp only)
  (with_reducible rename Fr g _ _ _ => kF)
  (with_reducible rename News g _ _ _ => kN)
  exact (ret _ _ _ kF (cb_drop kN (by k_sub))).elim fun a b => h _ _ _ a b
theorem c_oneof_usage {u : Nat} (C : Cx w A base h₀ L m s.heap news 10) (hr : (r, instObj 617 dr) ∈ news) (hd : (dr, rdD k l nd a ta) ∈ news) (hT : Toks h₀ l ts) (ha : 0 ≤ a) (hW : ∀ x, wordIs ts (a + 0) x = (("BINARY" : Str) == x))
    (h : ∀ t ta' h' tk', Fr h₀ L h' m → (∀ news', Upd dr (rdD k l nd a ta) (rdD k l nd (a + 1) ta') news news' → News h₀ L h' news') → Q (.str "BINARY" t) { s with heap := h', toks := tk' }) : wpAny (model PG w) A (call (.ref 528) [.ref r, .str "DISPLAY COMP COMPUTATIONAL BINARY PACKED-DECIMAL COMP-3 COMPUTATIONAL-3 INDEX" u]) Q E s := by
  refine' enterX [("self", .ref r), ("words", .str "DISPLAY COMP COMPUTATIONAL BINARY PACKED-DECIMAL COMP-3 COMPUTATIONAL-3 INDEX" u)] [(r, instObj 617 dr), (dr, rdD k l nd a ta)] C (sub2 hr hd) ?k6 ?k7 ?k9 ?kB ?_
  case k6 => k_is
  case k7 => k_is
  case k9 => exact BindsTo.of_eq rfl
  walk_at "M sides"
  intro dp fr gd un Q₁ E₁ g L' h₁ tk env outer mean mg mb eA hQ hE₁ hPO ret retU FG st F' N' B' X' T' lt room hg
  k_lt lt
  (try dsimp only [AA] at room)
  have hT' := hT.keeps st
  have hne := rd_ne N'
  (try dsimp only)
  (try k_fold)
  k_steps
  all_goals (try with_reducible refine hQ _ _ ?_)
  all_goals (try dsimp only)
  rw [show (⟨#[66, 73, 78, 65, 82, 89]⟩ : Str) = "BINARY" by decide +kernel]
  all_goals (try dsimp only)
  (with_reducible rename Fr g _ _ _ => kF)
  (with_reducible rename News g _ _ _ => kN)
  refine h _ _ _ _ (FG.kept kF.keep) fun _ U => (retU _ _ _ [(r, instObj 617 dr), (dr, _)] _ _ _ _ kF (cb_drop kN (by k_sub)) U (.tail _ (.head _)) (fun p hp ne => ?_)).2
  rcases List.mem_cons.mp hp with rfl | hp
  · exact .head _
  · rcases List.mem_cons.mp hp with rfl | hp
    · exact absurd rfl ne
    · cases hp
end
open PySem PySem.W PyProof.Rows PySem.Calls PySem.Builtin
set_option maxHeartbeats 0
abbrev bm84 : List Value := [.ref 47, .type "Exception", .type "BaseException", .type "object"]
abbrev excObj (t : Addr) : Obj := { cls := .ref 84, data := .fields #[.ref t, .none, .none, .none, .bool false, .none] }
section
variable {w : World} {A : Around} {R : Result → Shared → Prop} {E : Value → Shared → Prop} {h : Heap} {g : Array GenState} {d : Drawn} {t : Nat} {os : OsState}
theorem cls84 (X : (KK w.params).In h) : h.get? 84 = some (excClassObj "GrammarFault" "GrammarFault" 84 83 [.ref 47] bm84 true [] [] false none none (some (.ref 75)) none (some (.str "GrammarFault" 268)) (some (.str "GrammarFault" 276)) (some (.bool true)) "Exception.__new__") :=
  X 84 _ (by k_is)
theorem exc84_new {rest : List Value} (X : (KK w.params).In h)
    (hq : R (.ok (.ret (.ref (h.objs.size + 1)))) ⟨(h.push { cls := .type "tuple", data := .seq rest.toArray }).push (excObj h.objs.size), g, d, t, os⟩) (hrest : rest.length ≤ sizeLine) :
    codeAny (model PG w) A (.builtin "Exception.__new__" ⟨.ref 84 :: rest, []⟩) R ⟨h, g, d, t, os⟩ := by
  have F := PySem.F.excBase_Exception
  have hC := cls84 X
  have hends := F.ends
  have hcB : (Value.ref 84 :: bm84).contains (.type "Exception") = true := by decide +kernel
  have hcA : (Value.ref 84 :: bm84).contains (.type "AttributeError") = false := by decide +kernel
  have hcN : (Value.ref 84 :: bm84).contains (.type "NameError") = false := by decide +kernel
  refine codeAny_builtinAt F.entry ?_
  unfold Builtin.«BaseException.__new__»
  refine PySem.wpAt_bind ?_
  show PySem.wpAt _ _ _ (stack >>= _) _ _ _
  refine PySem.wpAt_bind (PySem.wpAt_stack fun p below => PySem.wpAt_of_wpAny ?_)
  wp_walk
  refine PySem.wpAt_of_wpAny ?_
  rw [F.owner]
  repeat (first | with_reducible refine wpAny_madeHere_exc F.canon hC ?_ | with_reducible refine wpAny_loadPart_at hC ?_ | (with_reducible refine wpAny_isSubtype_exc hC ?_; first | rw [hcB] | rw [hcA] | rw [hcN]) | wp_step)
  show R _ _
  rw [Heap.size_push]
  exact hq
theorem exc84_check {M : Model} {rest : List Value} {Q : Unit → Shared → Prop} (X : (KK w.params).In h) (hq : Q () ⟨h, g, d, t, os⟩) : wpAny M A (checkBuiltinCall "Exception.__new__" ⟨.ref 84 :: rest, []⟩) Q E ⟨h, g, d, t, os⟩ := by
  have F := PySem.F.excBase_Exception
  have hC := cls84 X
  have hcB : (Value.ref 84 :: bm84).contains (.type "Exception") = true := by decide +kernel
  have hstar := F.noStar
  simp only [checkBuiltinCall, F.newKind, F.newSplit, F.newRow]
  repeat (first | refine wpAny_loadPart_at hC ?_ | (refine wpAny_isSubtype_exc hC ?_; rw [hcB]) | refine wpAny_staticBase_exc hC ?_ | refine wpAny_madeBy_exc hC ?_ | simp only [bne_self_eq_false, Bool.false_eq_true, if_false] | wp_step)
  exact hq
theorem exc84_make {rest : List Value} (X : (KK w.params).In h) (hrest : rest.length ≤ sizeLine)
    (hq : codeAny (model PG w) (A.under (.builtin "type.__call__" ⟨.ref 84 :: rest, []⟩)) (.call (.ref 37) ⟨.ref (h.objs.size + 1) :: rest, []⟩) (InitBack (h.objs.size + 1) R)
      ⟨(h.push { cls := .type "tuple", data := .seq rest.toArray }).push (excObj h.objs.size), g, d, t, os⟩) :
    codeAny (model PG w) A (.call (.ref 84) ⟨rest, []⟩) R ⟨h, g, d, t, os⟩ := by
  have hC := cls84 X
  have F := PySem.F.excBase_Exception
  have f1 := tc_lookup
  have f2 := tc_bind (.ref 84)
  have hT : (⟨h, g, d, t, os⟩ : Shared).TypeIs (.ref 84) "type" := ⟨_, hC, rfl⟩
  refine codeAny_of_tree ?_
  show wpAny _ _ (callAny (.ref 84) _) _ _ _
  repeat (any_goals (first | assumption | with_reducible refine wpAny_loadPart_at hC ?_ | wp_step))
  refine ⟨rfl, ?_⟩
  refine codeAny_call_builtin_at (Code.quiet_builtin _ (by decide +kernel)) entry_typeCall (wpAny_check_type_call_sub hC ?_)
  unfold Builtin.«type.__call__»
  repeat (first | with_reducible refine wpAny_loadPart_at hC ?_ | with_reducible refine wpAny_madeBy_exc hC ?_ | wp_step)
  refine codeAny_call_builtin_code (Code.quiet_builtin _ F.quiet) (exc84_check X ?_)
  refine exc84_new (rest := rest) X ?_ hrest
  have k : ∀ b o, h.get? b = some o → ((h.push { cls := .type "tuple", data := .seq rest.toArray }).push (excObj h.objs.size)).get? b = some o := fun b o e => Heap.get?_push_of_some _ (Heap.get?_push_of_some _ e)
  have X₁ : (KK w.params).In ((h.push { cls := .type "tuple", data := .seq rest.toArray }).push (excObj h.objs.size)) := X.keeps k
  have hC₁ := cls84 X₁
  have hget : ((h.push { cls := .type "tuple", data := .seq rest.toArray }).push (excObj h.objs.size)).get? (h.objs.size + 1) = some (excObj h.objs.size) := by heap_get
  have hi : Looks (model PG w) ((h.push { cls := .type "tuple", data := .seq rest.toArray }).push (excObj h.objs.size)) (typeLookup (.ref 84) "__init__") (some (.ref 37)) := looks_findIn X₁ (by k_is)
  have hb := bind_fn (M := model PG w) X₁ (f := 37) (.ref (h.objs.size + 1)) (by k_is)
  have t1 : Looks (model PG w) ((h.push { cls := .type "tuple", data := .seq rest.toArray }).push (excObj h.objs.size)) (typeOf (.ref (h.objs.size + 1))) (.ref 84) := (Looks.ld hget).andThen .now
  have s1 : Looks (model PG w) ((h.push { cls := .type "tuple", data := .seq rest.toArray }).push (excObj h.objs.size)) (isSubtype (.ref 84) (.ref 84)) true := looks_subIn X₁ (by k_is)
  show wpAny _ (A.under (.builtin "type.__call__" ⟨.ref 84 :: rest, []⟩)) _ _ _ _
  unfold isInstance callSpecial? specialOf
  repeat (first | with_reducible refine wpAny_call ?_ | lk)
  trace_state
  refine codeAny_mono hq fun r s' z => ?_
  rcases r with e | (v | _ | _ | _) <;> first | exact z | exact z.elim | skip
  obtain ⟨rfl, z⟩ := z
  exact wpAny_pure (wpAny_pure z)
end
set_option maxHeartbeats 0
theorem meta_exc : typeOf (.type "Exception") = pure (.type "type") := by kernel_rfl
section
variable {w : World} {A : Around} {E : Value → Shared → Prop} {h : Heap} {g : Array GenState} {d : Drawn} {t : Nat} {os : OsState}
theorem exc_init {x t0 : Addr} {v : Value} {Q : Value → Shared → Prop} (X : (KK w.params).In h) (hx : h.get? x = some (excObj t0))
    (hq : Q .none ⟨(h.push { cls := .type "tuple", data := .seq #[v] }).update x (Obj.mapFields fun y => y.setIfInBounds 0 (.ref h.objs.size)), g, d, t, os⟩) :
    wpAny (model PG w) A (call (.builtin "Exception.__init__") [.ref x, v]) Q E ⟨h, g, d, t, os⟩ := by
  have F := PySem.F.excBase_Exception
  have hC := cls84 X
  have hcB : (Value.ref 84 :: bm84).contains (.type "Exception") = true := by decide +kernel
  have hshort := F.noStar
  refine wpAny_call (codeAny_call_builtin F.init.plain F.initEntry ?_)
  simp only [checkBuiltinCall, F.initKind, F.initSplit, F.initRow]
  repeat (first | (with_reducible refine wpAny_loadPart_at hx ?_) | with_reducible refine wpAny_loadPart_at hC ?_ | (with_reducible refine wpAny_isSubtype_exc hC ?_; rw [hcB]) | wp_step)
  exact hq
end
theorem news_ne {h₀ h : Heap} {L a b : Addr} {o o' : Obj} {news : List (Addr × Obj)} (N : News h₀ L h news) (h1 : (a, o) ∈ news) (h2 : (b, o') ∈ news) (ne : o ≠ o') : a ≠ b := fun e => by
  have x1 := (N _ h1).1
  have x2 := (N _ h2).1
  subst e
  exact ne (Option.some.inj (x1.symm.trans x2))
section
variable {w : World} {A : Around} {s : Shared} {h₀ : Heap} {L : Addr} {m : Str → Option Value} {news : List (Addr × Obj)} {Q E : Value → Shared → Prop}
theorem exc_initK {x t0 : Addr} {v : Value} (F : Fr h₀ L s.heap m) (X : (KK w.params).In h₀) (N : News h₀ L s.heap news) (hx : (x, excObj t0) ∈ news)
    (h : ∀ t1 h', Fr h₀ L h' m → (∀ news', Upd x (excObj t0) (excObj t1) news news' → News h₀ L h' ((t1, { cls := .type "tuple", data := .seq #[v] }) :: news')) → (∀ p ∈ news, p.1 < t1) → Q .none { s with heap := h' }) :
    wpAny (model PG w) A (call (.builtin "Exception.__init__") [.ref x, v]) Q E s := by
  obtain ⟨hh, g, d, t, os⟩ := s
  have F1 := F.push { cls := .type "tuple", data := .seq #[v] }
  have N1 := N.push F { cls := .type "tuple", data := .seq #[v] }
  have hx1 := (N _ hx).1
  have hx2 : (hh.push { cls := .type "tuple", data := .seq #[v] }).get? x = some (excObj t0) := Heap.get?_push_of_some _ hx1
  have oth : ∀ b, b ≠ x → ((hh.push { cls := .type "tuple", data := .seq #[v] }).update x (Obj.mapFields fun y => y.setIfInBounds 0 (.ref hh.objs.size))).get? b = (hh.push { cls := .type "tuple", data := .seq #[v] }).get? b := fun b hb => Heap.get?_update_ne _ _ _ _ hb
  have self : ((hh.push { cls := .type "tuple", data := .seq #[v] }).update x (Obj.mapFields fun y => y.setIfInBounds 0 (.ref hh.objs.size))).get? x = some (excObj hh.objs.size) := by
    rw [Heap.get?_update_self _ hx2 rfl]; rfl
  refine exc_init (X.keeps F.keep) hx1 (h hh.objs.size _ ⟨?_, fun b o e => ?_, F1.above⟩ (fun news' U => ?_) fun p hp => Heap.lt_size (N p hp).1)
  · obtain ⟨oL, es, ep, hL, r⟩ := F1.ns
    exact ⟨oL, es, ep, by rw [oth _ (Ne.symm (N _ hx).2.1)]; exact hL, r⟩
  · have : b ≠ x := fun q => by rw [q, (N _ hx).2.2] at e; cases e
    rw [oth _ this]; exact F1.keep _ _ e
  · obtain ⟨pre, post, rfl, rfl, a, b⟩ := U.split
    have key : ∀ p ∈ (hh.objs.size, ({ cls := .type "tuple", data := .seq #[v] } : Obj)) :: (pre ++ (x, excObj t0) :: post), p.1 ≠ x → ((hh.push { cls := .type "tuple", data := .seq #[v] }).update x (Obj.mapFields fun y => y.setIfInBounds 0 (.ref hh.objs.size))).get? p.1 = some p.2 ∧ p.1 ≠ L ∧ h₀.get? p.1 = none :=
      fun p hp ne => ⟨(oth _ ne).trans (N1 p hp).1, (N1 p hp).2⟩
    intro p hp
    rcases List.mem_cons.mp hp with rfl | hp
    · exact key _ (.head _) (Nat.ne_of_gt (Heap.lt_size hx1))
    · rcases List.mem_append.mp hp with hp | hp
      · exact key p (.tail _ (List.mem_append_left _ hp)) (a p hp)
      · rcases List.mem_cons.mp hp with rfl | hp
        · exact ⟨self, (N _ hx).2⟩
        · exact key p (.tail _ (List.mem_append_right _ (.tail _ hp))) (b p hp)
end
open PySem PySem.W PyProof.Rows PySem.Calls PySem.Builtin PySem.Builtin.ObjectAttr
set_option maxHeartbeats 0
abbrev excObjD (t d : Addr) : Obj := { cls := .ref 84, dict := some d, data := .fields #[.ref t, .none, .none, .none, .bool false, .none] }
section
variable {w : World} {A : Around} {s : Shared} {h₀ : Heap} {L : Addr} {m : Str → Option Value} {news news' : List (Addr × Obj)} {E : Value → Shared → Prop} {R : Result → Shared → Prop}
theorem inst84 {h : Heap} {x t : Addr} (hx : h.get? x = some (excObj t)) : InstAt h x (excObj t) 84 none := ⟨hx, rfl, rfl, trivial⟩
theorem inst84D {h : Heap} {x t d : Addr} {od : Obj} (hx : h.get? x = some (excObjD t d)) (hd : h.get? d = some od) : InstAt h x (excObjD t d) 84 (some od) := ⟨hx, rfl, rfl, hd⟩
theorem exc_store {ox : Obj} {od : Option Obj} {x : Addr} {name : Str} {tk : Tok} {v : Value} (X : (KK w.params).In s.heap) (I : InstAt s.heap x ox 84 od) (ht : findIn (KK w.params) (.ref 84) name = some none)
    (h : ∀ b, wpAny (model PG w) A.in1 (storeInOwnDict (.ref x) (.ref 84) (.str name tk) name v b)
      (fun fin s' => match fin with | .done f => R (.ok f) s' | .again c' => c'.quiet = true ∧ codeAny (model PG w) A c' R s') (fun e s' => R (.error e) s') s) :
    codeAny (model PG w) A (.call (.builtin "object.__setattr__") ⟨[.ref x, .str name tk, v], []⟩) R s := by
  have SF := PySem.F.store_object
  have sub : Looks (model PG w) s.heap (isInstance (.ref x) (.type "object")) true := I.type.andThen (looks_subIn X (by k_is))
  refine codeAny_call_builtin SF.slot.plain SF.entry (@check_slot (model PG w) _ _ s "object.__setattr__" "object" "__setattr__" (.ref x) [.str name tk, v] [] _ SF.kind SF.split sub (SF.args (.ref x) (.str name tk) v) ?_)
  have hc : ∃ cd, clsIn (KK w.params) 84 = some cd ∧ cd.mro = .ref 84 :: bm84 := ⟨_, by k_is, rfl⟩
  obtain ⟨cd, hc, hcd⟩ := hc
  have hm : Looks (model PG w) s.heap (mroOf (.ref 84)) (.ref 84 :: bm84) := hcd ▸ (looks_clsIn X hc).andThen .now
  rw [osa_eq, refuse_eq]
  refine wpAny_bind (wpAny_bind (I.type.here (wpAny_bind (hm.here ?_))))
  rw [refuseLoop_ref, refuseLoop_ref, PySem.F.store_Exception.passes]
  have L3 : Looks (model PG w) s.heap (storeTaker? none) none := .now
  refine wpAny_pure (wpAny_bind (I.type.here (wpAny_bind ((looks_findIn X ht).here (wpAny_bind (L3.here ?_))))))
  exact h _
theorem exc_put0 {x t : Addr} {name : Str} {tk : Tok} {v : Value} (F : Fr h₀ L s.heap m) (X₀ : (KK w.params).In h₀) (N : News h₀ L s.heap news) (hx : (x, excObj t) ∈ news) (ht : findIn (KK w.params) (.ref 84) name = some none)
    (h : ∀ dd tk tk' h', Fr h₀ L h' m → (∀ news', Upd x (excObj t) (excObjD t dd) news news' → News h₀ L h' ((dd, dictOf [⟨PyData.keyHash w.params name, .str name tk, v⟩] 1) :: news')) → (∀ p ∈ news, p.1 < dd) → R (.ok (.ret .none)) { s with heap := h', toks := tk' }) :
    codeAny (model PG w) A (.call (.builtin "object.__setattr__") ⟨[.ref x, .str name tk, v], []⟩) R s := by
  have X := X₀.keeps F.keep
  have I := inst84 (N _ hx).1
  obtain ⟨hh, g, d, tt, os⟩ := s
  refine exc_store X I ht fun b => ?_
  have hc : ∃ cd, clsIn (KK w.params) 84 = some cd ∧ cd.hasDict = true := ⟨_, by k_is, rfl⟩
  obtain ⟨cd, hc, hcd⟩ := hc
  have hx1 := (N _ hx).1
  refine wpAny_bind (wpAny_pure (wpAny_bind (wpAny_bind (wpAny_loadPart hx1 (wpAny_bind ((looks_clsIn X hc).here ?_))))))
  rw [hcd]
  repeat (first | with_reducible refine wpAny_loadPart_at hx1 ?_ | wp_step)
  have hxs : hh.objs.size ≠ x := Nat.ne_of_gt (Heap.lt_size hx1)
  have D0 : (hh.push emptyDict).get? hh.objs.size = some emptyDict := Heap.get?_push_size _ rfl
  have F1 := F.push emptyDict
  have N1 := N.push F emptyDict
  generalize hH : (hh.push _).update x _ = H1
  have H1x : H1.get? x = some (excObjD t hh.objs.size) := by rw [← hH]; exact Heap.get?_update_self _ (Heap.get?_push_of_some _ hx1) rfl
  have H1o : ∀ b, b ≠ x → H1.get? b = (hh.push emptyDict).get? b := fun b hb => by rw [← hH]; exact Heap.get?_update_ne _ _ _ _ hb
  have D : H1.get? hh.objs.size = some emptyDict := (H1o _ hxs).trans D0
  refine wpAny_askSetting (wpAny_pure (wpAny_bind (wpAny_mkText (wpAny_bind (wpAny_loadPart D ?_)))))
  show wpAny _ _ (if aRefKeyMayBeTheName name #[] = true then _ else _) _ _ _
  have ar : aRefKeyMayBeTheName name #[] = false := by rw [aRefKeyMayBeTheName_at]; simp
  rw [if_neg (by rw [ar]; decide)]
  refine wpAny_updatePart D ?_
  have ep : Obj.putName name (PyData.keyHash w.params name) (.str name tt) v emptyDict = dictOf [⟨PyData.keyHash w.params name, .str name tt, v⟩] 1 := putName_dict name _ _ _ [] 0
  have D' : (H1.update hh.objs.size (Obj.putName name (PyData.keyHash w.params name) (.str name tt) v)).get? hh.objs.size = some (dictOf [⟨PyData.keyHash w.params name, .str name tt, v⟩] 1) := by
    rw [Heap.get?_update_self _ D (by rw [ep]; rfl), ep]
  have H2o : ∀ b, b ≠ hh.objs.size → (H1.update hh.objs.size (Obj.putName name (PyData.keyHash w.params name) (.str name tt) v)).get? b = H1.get? b := fun b hb => Heap.get?_update_ne _ _ _ _ hb
  have hL : hh.objs.size ≠ L := (N1 _ (.head _)).2.1
  have hxL : x ≠ L := (N _ hx).2.1
  refine wpAny_bind (wpAny_lookBehind D' (pastItsLine_dict (by show _ ≤ 2 ^ 24 + 1; simp)) (wpAny_pure (h hh.objs.size tt _ _ ⟨?_, fun b o e => ?_, F1.above⟩ (fun news' U => ?_) fun p hp => Heap.lt_size (N p hp).1)))
  · obtain ⟨oL, es, ep', hL', r⟩ := F1.ns
    exact ⟨oL, es, ep', ((H2o _ (Ne.symm hL)).trans (H1o _ (Ne.symm hxL))).trans hL', r⟩
  · have b1 : b ≠ x := fun q => by rw [q, (N _ hx).2.2] at e; cases e
    have b2 : b ≠ hh.objs.size := fun q => by rw [q, (N1 _ (.head _)).2.2] at e; cases e
    exact ((H2o _ b2).trans (H1o _ b1)).trans (F1.keep _ _ e)
  · obtain ⟨pre, post, rfl, rfl, a, b⟩ := U.split
    have key : ∀ p ∈ pre ++ (x, excObj t) :: post, p.1 ≠ x → (H1.update hh.objs.size (Obj.putName name (PyData.keyHash w.params name) (.str name tt) v)).get? p.1 = some p.2 ∧ p.1 ≠ L ∧ h₀.get? p.1 = none := fun p hp ne => by
      have l := Heap.lt_size (N p hp).1
      rw [H2o _ (Nat.ne_of_lt l), H1o _ ne]
      exact N1 p (.tail _ hp)
    intro p hp
    rcases List.mem_cons.mp hp with rfl | hp
    · exact ⟨D', (N1 _ (.head _)).2⟩
    · rcases List.mem_append.mp hp with hp | hp
      · exact key p (List.mem_append_left _ hp) (a p hp)
      · rcases List.mem_cons.mp hp with rfl | hp
        · exact ⟨(H2o _ (Ne.symm hxs)).trans H1x, (N _ hx).2⟩
        · exact key p (List.mem_append_right _ (.tail _ hp)) (b p hp)
theorem exc_put1 {x t dd : Addr} {name : Str} {tk : Tok} {v : Value} {es es' : List DictEntry} {n n' : Nat} (F : Fr h₀ L s.heap m) (X₀ : (KK w.params).In h₀) (N : News h₀ L s.heap news) (hx : (x, excObjD t dd) ∈ news) (hdd : (dd, dictOf es n) ∈ news) (ht : findIn (KK w.params) (.ref 84) name = some none)
    (hl : (getL name es).isSome = true) (e : (putL name (PyData.keyHash w.params name) (.str name s.toks) v es, putN name es n) = (es', n')) (hz : es'.length ≤ 1000) (U : Upd dd (dictOf es n) (dictOf es' n') news news')
    (h : ∀ h', Fr h₀ L h' m → News h₀ L h' news' → R (.ok (.ret .none)) { s with heap := h', toks := s.toks + 1 }) :
    codeAny (model PG w) A (.call (.builtin "object.__setattr__") ⟨[.ref x, .str name tk, v], []⟩) R s := by
  have X := X₀.keeps F.keep
  have I := inst84D (N _ hx).1 (N _ hdd).1
  obtain ⟨hh, g, d, tt, os⟩ := s
  refine exc_store X I ht fun b => ?_
  have hc : ∃ cd, clsIn (KK w.params) 84 = some cd ∧ cd.hasDict = true := ⟨_, by k_is, rfl⟩
  obtain ⟨cd, hc, hcd⟩ := hc
  have hx1 := (N _ hx).1
  have D := (N _ hdd).1
  obtain ⟨pre, post, rfl, rfl, h1, h2⟩ := U.split
  obtain ⟨e1, e2⟩ := Prod.mk.inj e
  have ep : Obj.putName name (PyData.keyHash w.params name) (.str name tt) v (dictOf es n) = dictOf es' n' := by rw [putName_dict]; exact congr (congrArg dictOf e1) e2
  obtain ⟨U1, U2⟩ := news_upd (f := Obj.putName name (PyData.keyHash w.params name) (.str name tt) v) F N h1 h2 ep rfl
  have D' := (U2 (dd, dictOf es' n') (by simp)).1
  refine wpAny_bind (wpAny_pure (wpAny_bind (wpAny_bind (wpAny_loadPart hx1 (wpAny_bind ((looks_clsIn X hc).here ?_))))))
  rw [hcd]
  refine wpAny_pure (a := some dd) (wpAny_bind (wpAny_pure (wpAny_bind ?_)))
  unfold nsSet
  refine wpAny_bind (wpAny_bind (wpAny_askSetting (wpAny_pure (wpAny_bind (wpAny_mkText (wpAny_bind (wpAny_loadPart D ?_)))))))
  have c : (!es.toArray.any (·.key.isStr name) && es.toArray.any (·.refKey)) = false := by
    simp only [List.any_toArray]
    unfold getL at hl
    split at hl
    · rename_i en he
      rw [List.any_eq_true.mpr ⟨en, List.mem_of_find?_eq_some he, List.find?_some he⟩]; rfl
    · split at hl
      · cases hl
      · rename_i z; rw [Bool.not_eq_true] at z; rw [z, Bool.and_false]
  dsimp only
  rw [aRefKeyMayBeTheName_at, c]
  refine wpAny_updatePart D ?_
  refine wpAny_bind (wpAny_lookBehind D' (pastItsLine_dict (by show _ ≤ 2 ^ 24 + 1; rw [List.size_toArray]; omega)) ?_)
  exact wpAny_pure (h _ U1 U2)
theorem exc_set0 {x t : Addr} {name : Str} {v : Value} {Q : Unit → Shared → Prop} (F : Fr h₀ L s.heap m) (X₀ : (KK w.params).In h₀) (N : News h₀ L s.heap news) (hx : (x, excObj t) ∈ news) (ht : findIn (KK w.params) (.ref 84) name = some none)
    (h : ∀ dd tk tk' h', Fr h₀ L h' m → (∀ news', Upd x (excObj t) (excObjD t dd) news news' → News h₀ L h' ((dd, dictOf [⟨PyData.keyHash w.params name, .str name tk, v⟩] 1) :: news')) → (∀ p ∈ news, p.1 < dd) → Q () { s with heap := h', toks := tk' }) :
    wpAny (model PG w) A (setAttr (.ref x) name v) Q E s :=
  set_plain (X₀.keeps F.keep) (inst84 (N _ hx).1) (by k_is) (exc_put0 (s := { s with toks := s.toks + 1 }) F X₀ N hx ht h)
theorem exc_set1 {x t dd : Addr} {name : Str} {v : Value} {es es' : List DictEntry} {n n' : Nat} {Q : Unit → Shared → Prop} (F : Fr h₀ L s.heap m) (X₀ : (KK w.params).In h₀) (N : News h₀ L s.heap news) (hx : (x, excObjD t dd) ∈ news) (hdd : (dd, dictOf es n) ∈ news) (ht : findIn (KK w.params) (.ref 84) name = some none)
    (hl : (getL name es).isSome = true) (e : (putL name (PyData.keyHash w.params name) (.str name (s.toks + 1)) v es, putN name es n) = (es', n')) (hz : es'.length ≤ 1000) (U : Upd dd (dictOf es n) (dictOf es' n') news news')
    (h : ∀ h', Fr h₀ L h' m → News h₀ L h' news' → Q () { s with heap := h', toks := s.toks + 2 }) :
    wpAny (model PG w) A (setAttr (.ref x) name v) Q E s :=
  set_plain (X₀.keeps F.keep) (inst84D (N _ hx).1 (N _ hdd).1) (by k_is) (exc_put1 (s := { s with toks := s.toks + 1 }) F X₀ N hx hdd ht hl e hz U h)
end
set_option maxHeartbeats 0
theorem cx_make {w : World} {A : Around} {base h₀ h h' : Heap} {L C₀ : Addr} {m : Str → Option Value} {news news' : List (Addr × Obj)} {c : Nat} {vals : List Value} (C : Cx w A base h₀ L m h news (c + 1)) (F : Fr h₀ L h' m) (N : News h₀ L h' news') :
    Cx w (A.under (.builtin "type.__call__" ⟨.ref C₀ :: vals, []⟩)) base h₀ L m h' news' c := by
  obtain ⟨⟨A₀, env, outer, mean, mg, mb, B, hA, hf, hke, T⟩, _, X, _, room, dp, fr, gd, un, rfl⟩ := C
  exact ⟨⟨A₀, env, outer, mean, mg, mb, B, hA, hf, hke, T⟩, F, X, N, by rw [depth_under_make]; omega, _, _, _, _, rfl⟩
section
local macro_rules | `(tactic| walk_at "setAttr ref") => zst
local macro_rules | `(tactic| walk_at "getMethod type:Exception") => zst
local macro_rules | `(tactic| walk_at "call builtin:Exception.__init__") => zst
variable {w : World} {A : Around} {s : Shared} {base h₀ : Heap} {L : Addr} {m : Str → Option Value} {news : List (Addr × Obj)} {R : Result → Shared → Prop} {Q E : Value → Shared → Prop}
abbrev faultD (P : Params) (y : Str) (u : Nat) (tp : Addr) (k1 k2 : Nat) : Obj := dictOf [⟨PyData.keyHash P "what", .str "what" k1, .str y u⟩, ⟨PyData.keyHash P "at", .str "at" k2, .ref tp⟩] 2
theorem c_init37 {x t0 tp : Addr} {y : Str} {u : Nat} (C : Cx w A base h₀ L m s.heap news 6) (hx : (x, excObj t0) ∈ news) (ht : (t0, ({ cls := .type "tuple", data := .seq #[.str y u, .ref tp] } : Obj)) ∈ news)
    (h : ∀ t1 dd k1 k2 h' tk', Fr h₀ L h' m → (∀ news', Upd x (excObj t0) (excObjD t1 dd) news news' → News h₀ L h' ((dd, faultD w.params y u tp k1 k2) :: (t1, { cls := .type "tuple", data := .seq #[.str y u] }) :: news')) → (∀ q ∈ news, q.1 ≠ dd ∧ q.1 ≠ t1) → @Ne Nat dd t1 → R (.ok (.ret .none)) { s with heap := h', toks := tk' }) :
    codeAny (model PG w) A (.call (.ref 37) ⟨[.ref x, .str y u, .ref tp], []⟩) R s := by
  refine' enterR [("self", .ref x), ("what", .str y u), ("at", .ref tp)] [(x, excObj t0), (t0, { cls := .type "tuple", data := .seq #[.str y u, .ref tp] })] C (sub2 hx ht) ?k6 ?k7 ?k9 ?kB ?_
  case k6 => k_is
  case k7 => k_is
  case k9 => walk_at "M bindK"
  walk_at "M sides"
  intro dp fr gd un Q₁ E₁ g L' h₁ tk env outer mean mg mb eA hQ hE₁ hPO ret retU FG st F' N' B' X' T' lt room hg
  k_lt lt
  have hne : @Ne Nat x t0 := news_ne C.N hx ht (by intro e; cases e)
  (try dsimp only [AA] at room)
  (try dsimp only)
  (try k_fold)
  k_steps
  all_goals (try with_reducible refine hQ _ _ ?_)
  refine Hold.mk ?_
  (with_reducible show wpAny _ _ (getMethod (Value.type "Exception") (Str.ofString "__init__") _) _ _ _)
  refine' method_type ?F ?X ?m (by decide +kernel) ?e ?h ?_
  (case F => k_asm)
  (case X => k_asm)
  (case m => exact meta_exc)
  (case e => k_dflt k_is)
  (case h => k_handed)
  k_steps
  all_goals (try with_reducible refine hQ _ _ ?_)
  refine Hold.mk ?_
  (refine' exc_initK ?k1 ?k2 ?k3 ?k4 ?_; (case k1 => k_asm); (case k2 => k_asm); (case k3 => k_asm); (case k4 => k_mem); k_whole)
  intro t1' h' F' hn' l1
  (have N' := hn' _ (by k_upd))
  clear hn'
  (k_lt l1)
  (try k_sweep)
  k_steps
  all_goals (try with_reducible refine hQ _ _ ?_)
  refine Hold.mk ?_
  refine' exc_set0 ?k1 ?k2 ?k3 ?k4 ?k5 ?_
  (case k1 => k_asm)
  (case k2 => k_asm)
  (case k3 => k_asm)
  (case k4 => k_mem)
  (case k5 => k_is)
  k_whole
  intro dd' tk9 tk' h' F' hn' l1
  (have N' := hn' _ (by k_upd))
  clear hn'
  (k_lt l1)
  (try k_sweep)
  k_steps
  all_goals (try with_reducible refine hQ _ _ ?_)
  refine Hold.mk ?_
  refine' exc_set1 ?k1 ?k2 ?k3 ?k4 ?k4b ?k5 ?k6 ?k7 ?k8 ?k9 ?_
  (case k1 => k_asm)
  (case k2 => k_asm)
  (case k3 => k_asm)
  (case k4 => k_mem)
  (case k4b => k_mem)
  (case k5 => k_is)
  (case k6 => rfl)
  (case k7 => k_put)
  (case k8 => exact Nat.le_of_ble_eq_true rfl)
  (case k9 => k_upd)
  k_whole
  intro h' F' N'
  (try k_sweep)
  k_steps
  all_goals (try with_reducible refine hQ _ _ ?_)
  all_goals (try dsimp only)
  (with_reducible rename Fr g _ _ _ => kF)
  (with_reducible rename News g _ _ _ => kN)
  have hx' := (kN _ (.tail _ (.tail _ (.head _)))).1
  have ht' := (kN _ (.tail _ (.tail _ (.tail _ (.head _))))).1
  have B := backNew (m'' := m) C hg FG st kN [_, _] (fun p hp => by
    rcases List.mem_cons.mp hp with rfl | hp
    · refine ⟨.head _, fun q => ?_⟩
      simp only [List.map_cons, List.map_nil, List.mem_cons, List.not_mem_nil, or_false] at q
      rcases q with q | q
      · (have q' : @Eq Nat _ _ := q; omega)
      · (have q' : @Eq Nat _ _ := q; omega)
    · rcases List.mem_cons.mp hp with rfl | hp
      · refine ⟨.tail _ (.head _), fun q => ?_⟩
        simp only [List.map_cons, List.map_nil, List.mem_cons, List.not_mem_nil, or_false] at q
        rcases q with q | q
        · (have q' : @Eq Nat _ _ := q; omega)
        · (have q' : @Eq Nat _ _ := q; omega)
      · cases hp)
  refine h _ _ _ _ _ _ (FG.kept kF.keep) (fun news' U => news_app B.1 (retU _ _ _ [(x, excObjD _ _), (t0, { cls := .type "tuple", data := .seq #[.str y u, .ref tp] })] news' _ _ _ kF (cb_drop kN (by k_sub)) U (.head _) (fun p hp ne => ?_)).2) (fun q hq => ⟨B.2 q hq _ (.head _), B.2 q hq _ (.tail _ (.head _))⟩) ?_
  · rcases List.mem_cons.mp hp with rfl | hp
    · exact absurd rfl ne
    · exact .tail _ hp
  · omega
theorem c_mkfault {tp : Addr} {y : Str} {u : Nat} (C : Cx w A base h₀ L m s.heap news 7)
    (h : ∀ x t1 dd k1 k2 h' tk', Fr h₀ L h' m → News h₀ L h' ((x, excObjD t1 dd) :: (dd, faultD w.params y u tp k1 k2) :: (t1, { cls := .type "tuple", data := .seq #[.str y u] }) :: news) → (∀ q ∈ news, q.1 ≠ x ∧ q.1 ≠ dd ∧ q.1 ≠ t1) →
      @Ne Nat x dd → @Ne Nat x t1 → @Ne Nat dd t1 → Q (.ref x) { s with heap := h', toks := tk' }) :
    wpAny (model PG w) A (call (.ref 84) [.str y u, .ref tp]) Q E s := by
  obtain ⟨hh, g, d, tt, os⟩ := s
  have F := C.F
  have N := C.N
  have F1 := F.push { cls := .type "tuple", data := .seq #[.str y u, .ref tp] }
  have N1 := N.push F { cls := .type "tuple", data := .seq #[.str y u, .ref tp] }
  have F2 := F1.push (excObj hh.objs.size)
  have N2 := N1.push F1 (excObj hh.objs.size)
  rw [Heap.size_push] at N2
  refine wpAny_call (exc84_make (C.X.keeps F.keep) (by show 2 ≤ 2 ^ 24; decide) ?_)
  refine c_init37 (cx_make C F2 N2) (.head _) (.tail _ (.head _)) fun t1 dd k1 k2 h' tk' F' hn lq ne => ⟨rfl, ?_⟩
  have lt : ∀ p ∈ news, p.1 < hh.objs.size := fun p hp => Heap.lt_size (N p hp).1
  have NN := hn _ (.head fun p hp => by
    rcases List.mem_cons.mp hp with rfl | hp
    · exact Nat.ne_of_lt (Nat.lt_succ_self _)
    · exact Nat.ne_of_lt (Nat.lt_succ_of_lt (lt p hp)))
  have qx := lq _ (.head _)
  refine h (hh.objs.size + 1) t1 dd k1 k2 h' tk' F' (cb_drop NN fun p hp => ?_) (fun q hq => ?_) qx.1 qx.2 ne
  · rcases List.mem_cons.mp hp with rfl | hp
    · exact .tail _ (.tail _ (.head _))
    · rcases List.mem_cons.mp hp with rfl | hp
      · exact .head _
      · rcases List.mem_cons.mp hp with rfl | hp
        · exact .tail _ (.head _)
        · exact .tail _ (.tail _ (.tail _ (.tail _ hp)))
  · have := lq q (.tail _ (.tail _ hq))
    exact ⟨Nat.ne_of_lt (Nat.lt_succ_of_lt (lt q hq)), this.1, this.2⟩
end
theorem zz3 : Hold True := by first | walk1 | exact ⟨trivial⟩
set_option maxHeartbeats 0
section
variable {prog : Program} {w : World} {A : Around} {E : Value → Shared → Prop} {s : Shared} {g : Heap} {L : Addr} {m : Str → Option Value} {l : Addr} {ts : List TK}
theorem my_truthy {Q : Bool → Shared → Prop} (F : Fr g L s.heap m) (T : Toks g l ts) (hn : 0 < ts.length) (h : Q true { s with toks := s.toks + 1 + 1 }) :
    wpAny (model prog w) A (truthy (.ref l)) Q E s :=
  wpAny_truthy_list (F.lst T.list) T.len (by
    have : (itemsOf ts).toArray.isEmpty = false := by
      cases ts with
      | nil => cases hn
      | cons t r => rfl
    rw [this]; exact h)
theorem my_item2 {value slice : Expr} {k : Int} {u : Tok} {t : TK} {Q : Value → Shared → Prop} (F : Fr g L s.heap m) (T : Toks g l ts) (h0 : 0 ≤ k) (hx : ts[k.toNat]? = some t) (h : Q (.ref t.x) s)
    (hs : subscripted slice false (.ref l) (.int k u) = operate [.ref l, .int k u] (getItem (.ref l) (.int k u)) := by with_unfolding_all rfl) (hg : ∀ r, letTemporaryGo value (.ref l) r = pure () := by intro _; with_unfolding_all rfl) :
    wpAny (model prog w) A (subscriptTail value slice (.ref l) (.int k u)) Q E s := my_item F T h0 hx h hs hg
end
theorem mkfault9 {w : World} {A : Around} {s : Shared} {base h₀ : Heap} {L : Addr} {m : Str → Option Value} {news : List (Addr × Obj)} {Q E : Value → Shared → Prop} {tp : Addr} {y : Str} {u : Nat} (C : Cx w A base h₀ L m s.heap news 7)
    (h : ∀ x t1 dd k1 k2 h' tk', Fr h₀ L h' m → News h₀ L h' ((x, excObjD t1 dd) :: (dd, faultD w.params y u tp k1 k2) :: (t1, { cls := .type "tuple", data := .seq #[.str y u] }) :: news) → AllAp x news → AllAp dd news → AllAp t1 news → Ap x dd → Ap x t1 → Ap dd t1 → Q (.ref x) { s with heap := h', toks := tk' }) :
    wpAny (model PG w) A (call (.ref 84) [.str y u, .ref tp]) Q E s := c_mkfault C fun x t1 dd k1 k2 h' tk' F N q a b c => h x t1 dd k1 k2 h' tk' F N (allAp3 q).1 (allAp3 q).2.1 (allAp3 q).2.2 ⟨a⟩ ⟨b⟩ ⟨c⟩
local macro_rules | `(tactic| walk_at "call ref") => zap `Mine.mkfault9 ["M z", "M s"]
section
local macro_rules | `(tactic| walk_at "truthy ref") => zst
local macro_rules | `(tactic| walk_at "subscriptTail") => zst
variable {w : World} {A : Around} {s : Shared} {base h₀ : Heap} {L : Addr} {m : Str → Option Value} {news news' : List (Addr × Obj)} {Q E : Value → Shared → Prop} {r dr l nd : Addr} {k : RK} {a : Int} {ta : Nat} {ts : List TK}
theorem c_fault {y : Str} {u : Nat} {t : TK} (C : Cx w A base h₀ L m s.heap news 9) (hr : (r, instObj 617 dr) ∈ news) (hd : (dr, rdD k l nd a ta) ∈ news) (hT : Toks h₀ l ts) (ha : 0 ≤ a) (hlen : 0 < ts.length) (hx : ts[(if (ts.length : Int) - 1 < a then (ts.length : Int) - 1 else a).toNat]? = some t)
    (h : ∀ x t1 dd k1 k2 h' tk', Fr h₀ L h' m → News h₀ L h' ((x, excObjD t1 dd) :: (dd, faultD w.params y u t.tup k1 k2) :: (t1, { cls := .type "tuple", data := .seq #[.str y u] }) :: news) → (∀ q ∈ news, q.1 ≠ x ∧ q.1 ≠ dd ∧ q.1 ≠ t1) → @Ne Nat x dd → @Ne Nat x t1 → @Ne Nat dd t1 → Q (.ref x) { s with heap := h', toks := tk' }) : wpAny (model PG w) A (call (.ref 485) [.ref r, .str y u]) Q E s := by
  refine' enterX [("self", .ref r), ("what", .str y u)] [(r, instObj 617 dr), (dr, rdD k l nd a ta)] C (sub2 hr hd) ?k6 ?k7 ?k9 ?kB ?_
  case k6 => k_is
  case k7 => k_is
  case k9 => exact BindsTo.of_eq rfl
  walk_at "M sides"
  intro dp fr gd un Q₁ E₁ g L' h₁ tk env outer mean mg mb eA hQ hE₁ hPO ret retU FG st F' N' B' X' T' lt room hg
  k_lt lt
  (try dsimp only [AA] at room)
  have hT' := hT.keeps st
  have hne := rd_ne N'
  (try dsimp only)
  (try k_fold)
  have hI := hT'.inst t (List.mem_of_getElem? hx)
  k_steps
  all_goals (try with_reducible refine hQ _ _ ?_)
  refine Hold.mk ?_
  (with_reducible show wpAny _ _ (truthy (Value.ref _)) _ _ _)
  (refine' my_truthy ?k1 ?k2 ?k3 ?_; (case k1 => k_asm); (case k2 => assumption); (case k3 => assumption); k_whole)
  k_steps
  all_goals (try with_reducible refine hQ _ _ ?_)
  refine Hold.mk ?_
  walk_at "last subscriptTail"
  (with_unfolding_all refine' my_item2 ?k1 ?k2 ?k3 ?k4 ?_ ?k6 ?k7; (case k1 => k_asm); (case k2 => assumption); (case k4 => assumption); (case k3 => (split <;> omega)); (case k6 => with_unfolding_all rfl); (case k7 => intro _; with_unfolding_all rfl); k_whole)
  k_steps
  all_goals (try with_reducible refine hQ _ _ ?_)
  all_goals (try dsimp only)
  (with_reducible rename Fr g _ _ _ => kF)
  (with_reducible rename News g _ _ _ => kN)
  have B := backNew (m'' := m) C hg FG st kN [_, _, _] (fun p hp => by
    simp only [List.mem_cons, List.not_mem_nil, or_false] at hp
    have hh : ∀ z : Nat, z ≠ r → z ≠ dr → z ∉ [(r, instObj 617 dr), (dr, rdD k l nd a ta)].map (·.1) := fun z z1 z2 q => by
      simp only [List.map_cons, List.map_nil, List.mem_cons, List.not_mem_nil, or_false] at q
      rcases q with q | q
      · exact z1 q
      · exact z2 q
    rcases hp with rfl | rfl | rfl
    · exact ⟨.head _, hh _ (by k_ne) (by k_ne)⟩
    · exact ⟨.tail _ (.head _), hh _ (by k_ne) (by k_ne)⟩
    · exact ⟨.tail _ (.tail _ (.head _)), hh _ (by k_ne) (by k_ne)⟩)
  exact h _ _ _ _ _ _ _ (FG.kept kF.keep) (news_app B.1 (ret _ _ _ kF (cb_drop kN (by k_sub))).2) (fun q hq => ⟨B.2 q hq _ (.head _), B.2 q hq _ (.tail _ (.head _)), B.2 q hq _ (.tail _ (.tail _ (.head _)))⟩) (Ap.ne (by assumption)) (Ap.ne (by assumption)) (Ap.ne (by assumption))
theorem fault9 {y : Str} {u : Nat} {t : TK} (C : Cx w A base h₀ L m s.heap news 9) (hr : (r, instObj 617 dr) ∈ news) (hd : (dr, rdD k l nd a ta) ∈ news) (hT : Toks h₀ l ts) (ha : 0 ≤ a) (hlen : 0 < ts.length) (hx : ts[(if (ts.length : Int) - 1 < a then (ts.length : Int) - 1 else a).toNat]? = some t)
    (h : ∀ x t1 dd k1 k2 h' tk', Fr h₀ L h' m → News h₀ L h' ((x, excObjD t1 dd) :: (dd, faultD w.params y u t.tup k1 k2) :: (t1, { cls := .type "tuple", data := .seq #[.str y u] }) :: news) → AllAp x news → AllAp dd news → AllAp t1 news → Ap x dd → Ap x t1 → Ap dd t1 → Q (.ref x) { s with heap := h', toks := tk' }) : wpAny (model PG w) A (call (.ref 485) [.ref r, .str y u]) Q E s :=
  c_fault C hr hd hT ha hlen hx fun x t1 dd k1 k2 h' tk' F N q a b c => h x t1 dd k1 k2 h' tk' F N (allAp3 q).1 (allAp3 q).2.1 (allAp3 q).2.2 ⟨a⟩ ⟨b⟩ ⟨c⟩
end
theorem zz4 : Hold True := by first | walk1 | exact ⟨trivial⟩
open PySem PySem.W PyProof.Rows PySem.Calls PySem.Builtin
set_option maxHeartbeats 0
def TrD (h base : Heap) (e d : Addr) (a0 fl : Value) : Prop :=
  ∃ oe vs T oT ts, h.get? e = some oe ∧ oe.cls = .ref 84 ∧ oe.dict = some d ∧ oe.data = .fields vs ∧ vs[0]? = some a0 ∧ vs[1]? = some (.ref T) ∧ base.get? T = none ∧ T ≠ e ∧ h.get? T = some oT ∧ oT.data = .fields ts ∧ ts[3]? = some fl
abbrev tbObj (head : Value) (L : Addr) (pl : List Value) : Obj := { cls := .type "traceback", dict := none, data := .fields ([head, .ref L, .none, rawInt L, .none] ++ (if pl.isEmpty then List.replicate 6 Value.none else pl)).toArray }
abbrev put1 (v : Value) : Obj → Obj := Obj.mapFields (·.setIfInBounds 1 v)
theorem dict_mapFields (o : Obj) (f : Array Value → Array Value) : (Obj.mapFields f o).dict = o.dict := by
  obtain ⟨c, d, dt, sl⟩ := o
  cases dt <;> rfl
section
variable {M : Model} {A : Around} {E : Value → Shared → Prop} {s : Shared} {base : Heap} {env : Env} {outer : List Env} {L e d : Addr} {a0 : Value} {Q : Unit → Shared → Prop}
theorem newEntryD {oe : Obj} {vs : Array Value} {head : Value} {hadNext : Bool}
    (hfr : A.frames = some (env :: outer)) (hl : s.heap.FunFrames base (env :: outer)) (hf : env.frame = some L) (he : s.heap.get? e = some oe) (hc : oe.cls = .ref 84) (hdc : oe.dict = some d)
    (hkb : base.StaysIn s.heap) (hen : base.get? e = none) (hd : oe.data = .fields vs) (hsz : 1 < vs.size) (h0 : vs[0]? = some a0)
    (h : ∀ h', base.StaysIn h' → h'.FunFrames base (env :: outer) → TrD h' base e d a0 (rawInt L) → s.heap.UpToSlots h' → Q () { s with heap := h' }) :
    wpAny M A (do let a ← frameOf env; let pl ← entryPlaceOf L hadNext; let b ← EntryCells.newEntry head a .none (rawInt L) .none pl; setField (.ref e) 1 b) Q E s := by
  have nf : ∀ b o, s.heap.get? b = some o → (∀ ws, o.data ≠ .fields ws) → b ≠ e := fun b o hb hn q => by
    rw [q, he] at hb; cases hb; exact hn vs hd
  have eo : e ∉ (env :: outer).filterMap (·.frame) := fun hm => by
    obtain ⟨_, o, ho, hn⟩ := hl.mem hm
    exact nf e o ho hn rfl
  refine wpAny_bind (wpAny_frameOf_fun hfr hl hf fun h₁ hs => wpAny_bind (wpAny_entryPlaceOf fun pl hpl => ?_))
  obtain ⟨_, hs2, hs3⟩ := hs
  have e1 : h₁.get? e = some oe := (hs2 e eo).trans he
  have k1 : base.StaysIn h₁ := fun b o hb => (hs2 b fun hm => by rw [(hl.mem hm).1] at hb; cases hb).trans (hkb b o hb)
  unfold EntryCells.newEntry newFields
  refine wpAny_bind (wpAny_newObj_type ?_ (hpl.sizeOk5 _ _ _ _ _))
  have e2 : (h₁.push (tbObj head L pl)).get? e = some oe := Heap.get?_push_of_some _ e1
  have ne : h₁.objs.size ≠ e := Nat.ne_of_gt (Heap.lt_size e1)
  have hd3 := Obj.data_mapFields hd (·.setIfInBounds 1 (Value.ref h₁.objs.size))
  have e3 := Heap.get?_update_self (put1 (.ref h₁.objs.size)) e2 (Obj.isFreed_of_fields hd3)
  have t3 : ((h₁.push (tbObj head L pl)).update e (put1 (.ref h₁.objs.size))).get? h₁.objs.size = some (tbObj head L pl) :=
    (Heap.get?_update_other _ _ (Ne.symm ne)).trans (Heap.get?_push_size h₁ rfl)
  have keep : ∀ b o, b ≠ e → h₁.get? b = some o → ((h₁.push (tbObj head L pl)).update e (put1 (.ref h₁.objs.size))).get? b = some o := fun b o hb q => by
    rw [Heap.get?_update_other _ _ (Ne.symm hb)]; exact Heap.get?_push_of_some _ q
  refine wpAny_setField e2 hd hsz (h _ (fun b o hb => keep b o (fun q => by rw [q, hen] at hb; cases hb) (k1 b o hb)) (hl.of_keeps fun b o hb hn => ?_) ?_ fun b o hb hn => ?_)
  · obtain ⟨sl, q⟩ := hs3 b o hb
    exact ⟨_, keep b _ (nf b o hb hn) q, rfl⟩
  · refine ⟨_, _, h₁.objs.size, _, _, e3, (Obj.cls_mapFields _ _).trans hc, (dict_mapFields _ _).trans hdc, hd3, by rw [Array.getElem?_setIfInBounds_ne (by decide)]; exact h0, by simp [hsz], k1.fresh, ne, t3, rfl, ?_⟩
    first | (simp; done) | (rcases hpl with rfl | ⟨_, _, _, _, _, _, _, rfl⟩ <;> simp)
  · obtain ⟨sl, q⟩ := hs3 b o hb
    exact ⟨sl, keep b _ (nf b o hb hn) q⟩
theorem noteFirstD {oe : Obj} {vs : Array Value} (hfr : A.frames = some (env :: outer)) (hl : s.heap.FunFrames base (env :: outer)) (hf : env.frame = some L) (he : s.heap.get? e = some oe) (hc : oe.cls = .ref 84) (hdc : oe.dict = some d)
    (hkb : base.StaysIn s.heap) (hen : base.get? e = none) (hd : oe.data = .fields vs) (h1 : vs[1]? = some .none) (h0 : vs[0]? = some a0)
    (h : ∀ h', base.StaysIn h' → h'.FunFrames base (env :: outer) → TrD h' base e d a0 (rawInt L) → s.heap.UpToSlots h' → Q () { s with heap := h' }) : wpAny M A (noteFrame (.ref e) env) Q E s := by
  unfold noteFrame
  simp only [hf]
  refine wpAny_bind (wpAny_field he hd h1 ?_)
  rw [if_neg (by decide)]
  exact newEntryD hfr hl hf he hc hdc hkb hen hd (Array.getElem?_eq_some_iff.mp h1).1 h0 h
theorem noteNextD (hfr : A.frames = some (env :: outer)) (hl : s.heap.FunFrames base (env :: outer)) (hf : env.frame = some L) (ht : TrD s.heap base e d a0 .none) (hkb : base.StaysIn s.heap) (hen : base.get? e = none)
    (h : ∀ h', base.StaysIn h' → h'.FunFrames base (env :: outer) → TrD h' base e d a0 (rawInt L) → s.heap.UpToSlots h' → Q () { s with heap := h' }) : wpAny M A (noteFrame (.ref e) env) Q E s := by
  obtain ⟨oe, vs, T, oT, ts, he, hc, hdc, hd, h0, h1, hnT, hTe, hT, hdT, h3⟩ := ht
  unfold noteFrame
  simp only [hf]
  refine wpAny_bind (wpAny_field he hd h1 ?_)
  rw [if_pos (show (Value.ref T != Value.none) = true by simp)]
  refine wpAny_bind (wpAny_field hT hdT h3 ?_)
  rw [if_neg (show ¬ ((Value.none == rawInt L) = true) by simp [rawInt])]
  refine wpAny_bind (wpAny_setField hT hdT (Array.getElem?_eq_some_iff.mp h3).1 ?_)
  have ot : ∀ b, b ≠ T → (s.heap.update T (Obj.mapFields (·.setIfInBounds 3 Value.none))).get? b = s.heap.get? b := fun b hb => Heap.get?_update_other _ _ (Ne.symm hb)
  have nf : ∀ b o, s.heap.get? b = some o → (∀ ws, o.data ≠ .fields ws) → b ≠ T := fun b o hb hn q => by
    rw [q, hT] at hb; cases hb; exact hn ts hdT
  exact newEntryD hfr (hl.of_keeps fun b o hb hn => ⟨o, (ot b (nf b o hb hn)).trans hb, rfl⟩) hf ((ot e (Ne.symm hTe)).trans he) hc hdc
    (fun b o hb => (ot b fun q => by rw [q, hnT] at hb; cases hb).trans (hkb b o hb)) hen hd (Array.getElem?_eq_some_iff.mp h1).1 h0
    fun h' x1 x2 x3 x4 => h h' x1 x2 x3 fun b o hb hn => x4 b o ((ot b (nf b o hb hn)).trans hb) hn
theorem flightD {l : List Env} {fl : Value} (hl : s.heap.FunFrames base l) (ht : TrD s.heap base e d a0 fl) (hkb : base.StaysIn s.heap)
    (h : ∀ h', base.StaysIn h' → h'.FunFrames base l → TrD h' base e d a0 .none → s.heap.UpToSlots h' → Q () { s with heap := h' }) : wpAny M A (setFlight (.ref e) none) Q E s := by
  obtain ⟨oe, vs, T, oT, ts, he, hc, hdc, hd, h0, h1, hnT, hTe, hT, hdT, h3⟩ := ht
  have h3s : 3 < ts.size := (Array.getElem?_eq_some_iff.mp h3).1
  have ot : ∀ b, b ≠ T → (s.heap.update T (Obj.mapFields (·.setIfInBounds 3 ((none : Option Addr).elim Value.none fun f => rawInt f)))).get? b = s.heap.get? b := fun b hb => Heap.get?_update_other _ _ (Ne.symm hb)
  have nf : ∀ b o, s.heap.get? b = some o → (∀ ws, o.data ≠ .fields ws) → b ≠ T := fun b o hb hn q => by
    rw [q, hT] at hb; cases hb; exact hn ts hdT
  unfold setFlight
  refine wpAny_bind (wpAny_field he hd h1 ?_)
  rw [if_pos (show (Value.ref T != Value.none) = true by simp)]
  refine wpAny_setField hT hdT h3s (h _ (fun b o hb => (ot b fun q => by rw [q, hnT] at hb; cases hb).trans (hkb b o hb))
    (hl.of_keeps fun b o hb hn => ⟨o, (ot b (nf b o hb hn)).trans hb, rfl⟩) ?_ fun b o hb hn => ⟨o.slots, (ot b (nf b o hb hn)).trans hb⟩)
  exact ⟨oe, vs, T, _, _, (ot e (Ne.symm hTe)).trans he, hc, hdc, hd, h0, h1, hnT, hTe, Heap.get?_update_self _ hT (Obj.isFreed_of_fields (Obj.data_mapFields hdT _)), Obj.data_mapFields hdT _, by simp [h3s]⟩
theorem leaveFirstD {oe : Obj} {vs : Array Value} (hfr : A.frames = some (env :: outer)) (hl : s.heap.FunFrames base (env :: outer)) (hf : env.frame = some L) (he : s.heap.get? e = some oe) (hc : oe.cls = .ref 84) (hdc : oe.dict = some d)
    (hkb : base.StaysIn s.heap) (hen : base.get? e = none) (hd : oe.data = .fields vs) (h1 : vs[1]? = some .none) (h0 : vs[0]? = some a0)
    (h : ∀ h', base.StaysIn h' → h'.FunFrames base (env :: outer) → TrD h' base e d a0 .none → s.heap.UpToSlots h' → Q () { s with heap := h' }) : wpAny M A (leaving env (.ref e)) Q E s := by
  unfold leaving
  exact wpAny_bind (noteFirstD hfr hl hf he hc hdc hkb hen hd h1 h0 fun h' x1 x2 x3 x4 => flightD x2 x3 x1 fun h'' y1 y2 y3 y4 => h h'' y1 y2 y3 (x4.trans y4))
theorem leaveNextD (hfr : A.frames = some (env :: outer)) (hl : s.heap.FunFrames base (env :: outer)) (hf : env.frame = some L) (ht : TrD s.heap base e d a0 .none) (hkb : base.StaysIn s.heap) (hen : base.get? e = none)
    (h : ∀ h', base.StaysIn h' → h'.FunFrames base (env :: outer) → TrD h' base e d a0 .none → s.heap.UpToSlots h' → Q () { s with heap := h' }) : wpAny M A (leaving env (.ref e)) Q E s := by
  unfold leaving
  exact wpAny_bind (noteNextD hfr hl hf ht hkb hen fun h' x1 x2 x3 x4 => flightD x2 x3 x1 fun h'' y1 y2 y3 y4 => h h'' y1 y2 y3 (x4.trans y4))
end
section
variable {w : World} {A : Around} {E : Value → Shared → Prop} {s : Shared} {env : Env} {pos : Pos} {Q : Flow → Shared → Prop}
theorem Raise_84 {x : PySem.Expr} (hh : A.handled = none)
    (h : wpAny (model PG w) A (eval x env) (fun v s₁ => ∃ e t d, v = .ref e ∧ (KK w.params).In s₁.heap ∧ s₁.heap.get? e = some (excObjD t d) ∧ E (.ref e) s₁) E s) :
    wpAny (model PG w) A (exec (.Raise (some x) none pos) env) Q E s := by
  show wpAny (model PG w) A (do standAt pos; raiseStmt env (some (do let v ← eval x env; standAt pos; pure v)) none) Q E s
  refine wpAny_bind (wpAny_standAt ?_)
  unfold raiseStmt
  refine wpAny_bind (wpAny_bind (wpAny_mono h (fun v s₁ h₁ => wpAny_bind (wpAny_standAt (wpAny_pure ?_))) fun _ _ x => x))
  obtain ⟨e, t, d, rfl, X, he, hE⟩ := h₁
  obtain ⟨hp, g, dd, tk, os⟩ := s₁
  have hC := cls84 X
  have hcB : (Value.ref 84 :: bm84).contains (.type "BaseException") = true := by decide +kernel
  repeat (first | with_reducible refine wpAny_loadPart_at he ?_ | with_reducible refine wpAny_loadPart_at hC ?_ | (with_reducible refine wpAny_isSubtype_exc hC ?_; rw [hcB]) | wp_step)
  exact wpAny_raiseNew_none hh hE
end
set_option maxHeartbeats 0
structure Rsd (A : Around) (h₁ : Heap) (mt : List Addr) (e d t : Addr) (kp h' : Heap) : Prop where
  stays : kp.StaysIn h'
  new : kp.get? e = none
  frames : ∀ fr, A.frames = some fr → h'.FunFrames kp fr
  tr : TrD h' kp e d (.ref t) .none
  ns : ∀ fr, A.frames = some fr → ∀ L ∈ fr.filterMap (·.frame), ∀ m, h₁.Ns L m → h'.Ns L m
  old : ∀ b o, h₁.get? b = some o → b ∉ mt → (∀ fr, A.frames = some fr → b ∉ fr.filterMap (·.frame)) → kp.get? b = some o
  dnew : h₁.get? d = none
section
variable {w : World} {A : Around} {s' : Shared} {base g h₁ : Heap} {env : Env} {outer : List Env} {L' f x t dd : Addr} {m' : Str → Option Value} {cd : Value} {name : Str} {scope : Scope} {led hide : List (Addr × Obj)} {Q : Unit → Shared → Prop} {E : Value → Shared → Prop}
theorem raise_out (B : Below A base (env :: outer) g) (F : Fr g L' s'.heap m') (N : News g L' s'.heap led) (hx : (x, excObjD t dd) ∈ led) {od : Obj} (hdd : (dd, od) ∈ led) (hdn : dd ∉ hide.map (·.1))
    (hg : ∀ b o, h₁.get? b = some o → b ∉ hide.map (·.1) → g.get? b = some o) (hn : ∀ p ∈ hide, g.get? p.1 = none) (hk : scope.kind = .function)
    (k : ∀ h'' kp, Rsd A h₁ (hide.map (·.1)) x dd t kp h'' → (∀ p ∈ led, p.1 ≠ x → kp.get? p.1 = some p.2) → Q () { s' with heap := h'' }) :
    wpAny (model PG w) (A.deeper (envOf name scope L' f cd)) (leaving (envOf name scope L' f cd) (.ref x)) Q E s' := by
  have B₁ := B.push (name := name) (scope := scope) (a := f) (cd := cd) F hk
  have hxe := (N _ hx).1
  have gf : ∀ b ∈ (env :: outer).filterMap (·.frame), ∃ o, g.get? b = some o := fun b hb => by
    obtain ⟨_, o, ho, _⟩ := B.frames.mem hb
    exact ⟨o, ho⟩
  have xg : g.get? x = none := (N _ hx).2.2
  generalize hK : hideAll s'.heap (x :: (envOf name scope L' f cd :: env :: outer).filterMap (·.frame)) = kp
  have kpS : kp.StaysIn s'.heap := fun b o q => by rw [← hK] at q; exact of_hideAll _ q
  have kpx : kp.get? x = none := by rw [← hK]; exact hideAll_none _ (.head _)
  have kpo : ∀ b o, s'.heap.get? b = some o → b ≠ x → b ∉ (envOf name scope L' f cd :: env :: outer).filterMap (·.frame) → kp.get? b = some o := fun b o q n1 n2 => by
    rw [← hK]; exact hideAll_get _ q fun q' => by
      rcases List.mem_cons.mp q' with q' | q'
      · exact n1 q'
      · exact n2 q'
  have hl : s'.heap.FunFrames kp (envOf name scope L' f cd :: env :: outer) := by
    rw [← hK]; exact funFrames_hide B₁.frames fun e' he a ha => .tail _ (List.mem_filterMap.mpr ⟨e', he, ha⟩)
  refine leaveFirstD (base := kp) (a0 := .ref t) B₁.stack hl rfl hxe rfl rfl kpS kpx rfl rfl rfl fun h'' y1 y2 y3 y4 => ?_
  have e1 : ∀ fr, A.frames = some fr → fr = env :: outer := fun fr hf => Option.some.inj (hf.symm.trans B.stack)
  have L'g : L' ∉ (env :: outer).filterMap (·.frame) := fun q => by
    obtain ⟨o, ho⟩ := gf _ q
    exact absurd (Nat.lt_of_lt_of_le (Heap.lt_size ho) F.above) (Nat.lt_irrefl _)
  have nfr : ∀ b, b ≠ L' → b ∉ (env :: outer).filterMap (·.frame) → b ∉ (envOf name scope L' f cd :: env :: outer).filterMap (·.frame) := fun b n1 n2 q => by
    change b ∈ L' :: (env :: outer).filterMap (·.frame) at q
    rcases List.mem_cons.mp q with q | q
    · exact n1 q
    · exact n2 q
  refine k h'' kp ⟨y1, kpx, fun fr hf => ?_, y3, fun fr hf L hL m hm => ?_, fun b o hb hm hfr => ?_, ?_⟩ fun p hp np => ?_
  · rw [e1 fr hf]; obtain ⟨_, _, y⟩ := y2; exact y
  · rw [e1 fr hf] at hL
    obtain ⟨o, ho⟩ := gf L hL
    have hn' : L ∉ hide.map (·.1) := fun q => by
      obtain ⟨p, hp, e⟩ := List.mem_map.mp q
      rw [← e, hn p hp] at ho; cases ho
    obtain ⟨oL, es, ep, hL1, r⟩ := hm
    exact y4.ns ⟨oL, es, ep, F.keep _ _ (hg _ _ hL1 hn'), r⟩
  · have gb := hg b o hb hm
    refine kpo b o (F.keep _ _ gb) (fun q => by rw [q, xg] at gb; cases gb) (nfr b (fun q => ?_) (hfr _ B.stack))
    rw [q] at gb
    exact absurd (Nat.lt_of_lt_of_le (Heap.lt_size gb) F.above) (Nat.lt_irrefl _)
  · cases q : h₁.get? dd with
    | none => rfl
    | some o => have := hg dd o q hdn; rw [(N _ hdd).2.2] at this; cases this
  · obtain ⟨p1, p2, p3⟩ := N p hp
    refine kpo _ _ p1 np (nfr _ p2 fun q => ?_)
    obtain ⟨o, ho⟩ := gf _ q
    rw [p3] at ho; cases ho
end
set_option maxHeartbeats 0
def Rz (w : World) (E : Value → Shared → Prop) (v : Value) (s₁ : Shared) : Prop := ∃ e t d, v = .ref e ∧ (KK w.params).In s₁.heap ∧ s₁.heap.get? e = some (excObjD t d) ∧ E (.ref e) s₁
theorem Raise_z {w : World} {A : Around} {E : Value → Shared → Prop} {s : Shared} {env : Env} {pos : Pos} {Q : Flow → Shared → Prop} {x : PySem.Expr} (hh : A.handled = none) (h : wpAny (model PG w) A (eval x env) (Rz w E) E s) :
    wpAny (model PG w) A (exec (.Raise (some x) none pos) env) Q E s := Raise_84 hh h
local macro_rules
  | `(tactic| walk_at "call ref") => zap `Mine.fault9 ["M z", "M s"]
  | `(tactic| walk_at "exec Raise some none") => `(tactic| (k_here; k_dflt (refine Raise_z (by rfl) ?_)))
section
variable {w : World} {A : Around} {s : Shared} {base h₀ : Heap} {L : Addr} {m : Str → Option Value} {news news' : List (Addr × Obj)} {Q E : Value → Shared → Prop} {r dr l nd : Addr} {k : RK} {a : Int} {ta : Nat} {ts : List TK}
theorem c_name_bad {t t' : TK} (C : Cx w A base h₀ L m s.heap news 11) (hr : (r, instObj 617 dr) ∈ news) (hd : (dr, rdD k l nd a ta) ∈ news) (hT : Toks h₀ l ts) (ha : 0 ≤ a) (hlen : 0 < ts.length)
    (hx : ts[(a + 0).toNat]? = some t) (hk : (t.kind == "word") = true) (hz : t.worth.length ≤ 100) (hv : (!rsv t.worth) = false) (hx' : ts[(if (ts.length : Int) - 1 < a then (ts.length : Int) - 1 else a).toNat]? = some t')
    (hE : ∀ e d t1 y u kp k1 k2 h' tk', Rsd A s.heap [r, dr] e d t1 kp h' → kp.get? d = some (faultD w.params y u t'.tup k1 k2) → kp.get? r = some (instObj 617 dr) → kp.get? dr = some (rdD k l nd a ta) → E (.ref e) { s with heap := h', toks := tk' }) :
    wpAny (model PG w) A (call (.ref 550) [.ref r]) Q E s := by
  refine' enterX [("self", .ref r)] [(r, instObj 617 dr), (dr, rdD k l nd a ta)] C (sub2 hr hd) ?k6 ?k7 ?k9 ?kB ?_
  case k6 => k_is
  case k7 => k_is
  case k9 => exact BindsTo.of_eq rfl
  walk_at "M sides"
  intro dp fr gd un Q₁ E₁ g L' h₁ tk env outer mean mg mb eA hQ hE₁ hPO ret retU FG st F' N' B' X' T' lt room hg
  subst eA
  k_lt lt
  (try dsimp only [AA] at room)
  have hT' := hT.keeps st
  have hne := rd_ne N'
  (try dsimp only)
  (try k_fold)
  have hn0 : ∀ p ∈ [(r, instObj 617 dr), (dr, rdD k l nd a ta)], g.get? p.1 = none := fun p hp => (N' p hp).2.2
  have hI := hT'.inst t (List.mem_of_getElem? hx)
  k_steps
  all_goals (try with_reducible refine hQ _ _ ?_)
  all_goals (try dsimp only)
  (with_reducible rename Fr g _ _ _ => kF)
  (with_reducible rename News g _ _ _ => kN)
  refine ⟨_, _, _, rfl, X'.keeps kF.keep, (kN _ (.head _)).1, ?_⟩
  refine hE₁ _ _ ?_
  refine raise_out (hide := [(r, instObj 617 dr), (dr, rdD k l nd a ta)]) B' kF kN (.head _) (.tail _ (.head _)) (fun q => by
    rcases List.mem_cons.mp q with q | q
    · exact (by k_ne : @Ne Nat _ _) q
    · rcases List.mem_cons.mp q with q | q
      · exact (by k_ne : @Ne Nat _ _) q
      · cases q) hg hn0 rfl fun h'' kp Z hl => ?_
  exact hE _ _ _ _ _ _ _ _ _ _ Z (hl _ (.tail _ (.head _)) (by k_ne)) (hl _ (.tail _ (.tail _ (.tail _ (.head _)))) (by k_ne)) (hl _ (.tail _ (.tail _ (.tail _ (.tail _ (.head _))))) (by k_ne))
end
set_option maxHeartbeats 0
theorem upd_second {a b : Addr} {x o o' : Obj} {l : List (Addr × Obj)} (h1 : a ≠ b) (h2 : ∀ p ∈ l, p.1 ≠ b) : Upd b o o' ((a, x) :: (b, o) :: l) ((a, x) :: (b, o') :: l) := .tail h1 (.head h2)
section
variable {w : World} {A : Around} {s : Shared} {base h₀ : Heap} {L : Addr} {m : Str → Option Value} {news : List (Addr × Obj)} {Q E : Value → Shared → Prop} {R : Result → Shared → Prop}
def TokEs (P : Params) (kd wd : Str) (k1 k2 : Nat) (tp : Addr) (es : List DictEntry) : Prop := ∃ a b c d, es = [⟨PyData.keyHash P "kind", .str "kind" a, .str kd k1⟩, ⟨PyData.keyHash P "worth", .str "worth" b, .str wd k2⟩, ⟨PyData.keyHash P "at", .str "at" c, .ref tp⟩, ⟨PyData.keyHash P "is_in_a", .str "is_in_a" d, .bool false⟩]
theorem c_init_token {x dx : Addr} {kd wd : Str} {k1 k2 : Nat} {tp : Addr} (C : Cx w A base h₀ L m s.heap news 2) (hx : (x, instObj 647 dx) ∈ news) (hd : (dx, emptyDict) ∈ news)
    (h : ∀ es h' tk', TokEs w.params kd wd k1 k2 tp es → Fr h₀ L h' m → (∀ news', Upd dx emptyDict (dictOf es es.length) news news' → News h₀ L h' news') → R (.ok (.ret .none)) { s with heap := h', toks := tk' }) :
    codeAny (model PG w) A (.call (.ref 637) ⟨[.ref x, .str kd k1, .str wd k2, .ref tp], []⟩) R s := by
  refine' enterR [("self", .ref x), ("kind", .str kd k1), ("worth", .str wd k2), ("at", .ref tp), ("is_in_a", .bool false)] [(x, instObj 647 dx), (dx, emptyDict)] C (sub2 hx hd) ?k6 ?k7 ?k9 ?kB ?_
  case k6 => k_is
  case k7 => k_is
  case k9 => walk_at "M bindK"
  walk_at "M sides"
  intro dp fr gd un Q₁ E₁ g L' h₁ tk env outer mean mg mb eA hQ hE₁ hPO ret retU FG st F' N' B' X' T' lt room hg
  k_lt lt
  have hne : @Ne Nat x dx := news_ne C.N hx hd (by intro e; cases e)
  (try dsimp only [AA] at room)
  (try dsimp only)
  (try k_fold)
  k_steps
  all_goals (try with_reducible refine hQ _ _ ?_)
  all_goals (try dsimp only)
  (with_reducible rename Fr g _ _ _ => kF)
  (with_reducible rename News g _ _ _ => kN)
  refine h _ _ _ ⟨_, _, _, _, rfl⟩ (FG.kept kF.keep) (fun news' U => (retU _ _ _ _ _ _ _ _ kF (cb_drop kN (by k_sub)) U (.tail _ (.head _)) (fun p hp np => ?_)).2)
  rcases List.mem_cons.mp hp with rfl | hp
  · exact .head _
  · rcases List.mem_cons.mp hp with rfl | hp
    · exact absurd rfl np
    · cases hp
theorem c_mktoken {kd wd : Str} {k1 k2 : Nat} {tp : Addr} (C : Cx w A base h₀ L m s.heap news 3)
    (h : ∀ x dx es h' tk', TokEs w.params kd wd k1 k2 tp es → Fr h₀ L h' m → News h₀ L h' ((x, instObj 647 dx) :: (dx, dictOf es es.length) :: news) → (∀ q ∈ news, q.1 < dx) → dx < x → Q (.ref x) { s with heap := h', toks := tk' }) :
    wpAny (model PG w) A (call (.ref 647) [.str kd k1, .str wd k2, .ref tp]) Q E s := by
  refine wpAny_call (make_K C.F C.N (C.X.keeps C.F.keep) (by k_is) (by k_is) (by k_is) fun x dx h' F' N' lt1 lt2 => ?_)
  refine c_init_token (cx_make C F' N') (.head _) (.tail _ (.head _)) fun es h'' tk' hes F'' hn => ⟨rfl, ?_⟩
  exact h x dx es h'' tk' hes F'' (hn _ (upd_second (Nat.ne_of_gt lt2) (fun p hp => Nat.ne_of_lt (lt1 p hp)))) lt1 lt2
def RdEs (P : Params) (l : Addr) (es : List DictEntry) : Prop := ∃ a b c nd, es = [⟨PyData.keyHash P "tokens", .str "tokens" a, .ref l⟩, ⟨PyData.keyHash P "at", .str "at" b, .int 0 880⟩, ⟨PyData.keyHash P "named", .str "named" c, .ref nd⟩]
theorem c_init_reader {x dx : Addr} {l : Addr} (C : Cx w A base h₀ L m s.heap news 2) (hx : (x, instObj 617 dx) ∈ news) (hd : (dx, emptyDict) ∈ news)
    (h : ∀ es h' tk', RdEs w.params l es → Fr h₀ L h' m → (∀ news', Upd dx emptyDict (dictOf es es.length) news news' → News h₀ L h' news') → R (.ok (.ret .none)) { s with heap := h', toks := tk' }) :
    codeAny (model PG w) A (.call (.ref 463) ⟨[.ref x, .ref l], []⟩) R s := by
  refine' enterR [("self", .ref x), ("tokens", .ref l), ("at", .int 0 880)] [(x, instObj 617 dx), (dx, emptyDict)] C (sub2 hx hd) ?k6 ?k7 ?k9 ?kB ?_
  case k6 => k_is
  case k7 => k_is
  case k9 => walk_at "M bindK"
  walk_at "M sides"
  intro dp fr gd un Q₁ E₁ g L' h₁ tk env outer mean mg mb eA hQ hE₁ hPO ret retU FG st F' N' B' X' T' lt room hg
  k_lt lt
  have hne : @Ne Nat x dx := news_ne C.N hx hd (by intro e; cases e)
  (try dsimp only [AA] at room)
  (try dsimp only)
  (try k_fold)
  k_steps
  all_goals (try with_reducible refine hQ _ _ ?_)
  all_goals (try dsimp only)
  (with_reducible rename Fr g _ _ _ => kF)
  (with_reducible rename News g _ _ _ => kN)
  refine h _ _ _ ⟨_, _, _, _, rfl⟩ (FG.kept kF.keep) (fun news' U => (retU _ _ _ _ _ _ _ _ kF (cb_drop kN (by k_sub)) U (.tail _ (.head _)) (fun p hp np => ?_)).2)
  rcases List.mem_cons.mp hp with rfl | hp
  · exact .head _
  · rcases List.mem_cons.mp hp with rfl | hp
    · exact absurd rfl np
    · cases hp
theorem c_mkreader {l : Addr} (C : Cx w A base h₀ L m s.heap news 3)
    (h : ∀ x dx es h' tk', RdEs w.params l es → Fr h₀ L h' m → News h₀ L h' ((x, instObj 617 dx) :: (dx, dictOf es es.length) :: news) → (∀ q ∈ news, q.1 < dx) → dx < x → Q (.ref x) { s with heap := h', toks := tk' }) :
    wpAny (model PG w) A (call (.ref 617) [.ref l]) Q E s := by
  refine wpAny_call (make_K C.F C.N (C.X.keeps C.F.keep) (by k_is) (by k_is) (by k_is) fun x dx h' F' N' lt1 lt2 => ?_)
  refine c_init_reader (cx_make C F' N') (.head _) (.tail _ (.head _)) fun es h'' tk' hes F'' hn => ⟨rfl, ?_⟩
  exact h x dx es h'' tk' hes F'' (hn _ (upd_second (Nat.ne_of_gt lt2) (fun p hp => Nat.ne_of_lt (lt1 p hp)))) lt1 lt2
end
set_option maxHeartbeats 0
abbrev lst (vs : Array Value) (n : Nat) : Obj := { cls := .type "list", data := .seq vs n }
def DataEs (P : Params) (fd sd : Addr) (es : List DictEntry) : Prop := ∃ a b c d e f wl ll ix z, es = [⟨PyData.keyHash P "working", .str "working" a, .ref wl⟩, ⟨PyData.keyHash P "linkage", .str "linkage" b, .ref ll⟩, ⟨PyData.keyHash P "files", .str "files" c, .ref fd⟩,
  ⟨PyData.keyHash P "sorts", .str "sorts" d, .ref sd⟩, ⟨PyData.keyHash P "size", .str "size" e, .int 0 z⟩, ⟨PyData.keyHash P "indexes", .str "indexes" f, .ref ix⟩]
def ItemEs (P : Params) (lv : Int) (t : Nat) (nm : Str) (u : Nat) (cl kl : Addr) (es : List DictEntry) : Prop :=
  ∃ (k : Fin 19 → Nat) (uv pv : Value) (u2 u3 u4 z1 z2 : Nat), es = [⟨PyData.keyHash P "level", .str "level" (k 0), .int lv t⟩, ⟨PyData.keyHash P "name", .str "name" (k 1), .str nm u⟩, ⟨PyData.keyHash P "picture_text", .str "picture_text" (k 2), .none⟩,
    ⟨PyData.keyHash P "usage", .str "usage" (k 3), uv⟩, ⟨PyData.keyHash P "sign", .str "sign" (k 4), .str "" u2⟩, ⟨PyData.keyHash P "is_separate", .str "is_separate" (k 5), .bool false⟩, ⟨PyData.keyHash P "occurs", .str "occurs" (k 6), .none⟩,
    ⟨PyData.keyHash P "redefines", .str "redefines" (k 7), .str "" u3⟩, ⟨PyData.keyHash P "value", .str "value" (k 8), .none⟩, ⟨PyData.keyHash P "is_justified", .str "is_justified" (k 9), .bool false⟩, ⟨PyData.keyHash P "is_blank_zero", .str "is_blank_zero" (k 10), .bool false⟩,
    ⟨PyData.keyHash P "conditions", .str "conditions" (k 11), .ref cl⟩, ⟨PyData.keyHash P "kids", .str "kids" (k 12), .ref kl⟩, ⟨PyData.keyHash P "parent", .str "parent" (k 13), pv⟩, ⟨PyData.keyHash P "renames", .str "renames" (k 14), .none⟩,
    ⟨PyData.keyHash P "base", .str "base" (k 15), .str "" u4⟩, ⟨PyData.keyHash P "offset", .str "offset" (k 16), .int 0 z1⟩, ⟨PyData.keyHash P "size", .str "size" (k 17), .int 0 z2⟩, ⟨PyData.keyHash P "shape", .str "shape" (k 18), .none⟩]
theorem nin2 {r d z : Addr} {o o' : Obj} (h1 : z ≠ r) (h2 : z ≠ d) : z ∉ [(r, o), (d, o')].map (·.1) := fun q => by
  rcases List.mem_cons.mp q with q | q
  · exact h1 q
  · rcases List.mem_cons.mp q with q | q
    · exact h2 q
    · cases q
section
variable {w : World} {A : Around} {s : Shared} {base h₀ : Heap} {L : Addr} {m : Str → Option Value} {news : List (Addr × Obj)} {Q E : Value → Shared → Prop} {R : Result → Shared → Prop}
theorem c_init_data {x dx : Addr} (C : Cx w A base h₀ L m s.heap news 2) (hx : (x, instObj 214 dx) ∈ news) (hd : (dx, emptyDict) ∈ news)
    (h : ∀ es fd sd o h' tk', DataEs w.params fd sd es → (fd == sysModules) = false → o.IsDictOf (PySem.strKind PG w) [] → Fr h₀ L h' m → (∀ news', Upd dx emptyDict (dictOf es es.length) news news' → News h₀ L h' ((sd, lst #[] 0) :: (fd, o) :: news')) →
      (∀ q ∈ news, q.1 ≠ fd ∧ q.1 ≠ sd) → @Ne Nat fd sd → R (.ok (.ret .none)) { s with heap := h', toks := tk' }) :
    codeAny (model PG w) A (.call (.ref 206) ⟨[.ref x], []⟩) R s := by
  refine' enterR [("self", .ref x)] [(x, instObj 214 dx), (dx, emptyDict)] C (sub2 hx hd) ?k6 ?k7 ?k9 ?kB ?_
  case k6 => k_is
  case k7 => k_is
  case k9 => exact BindsTo.of_eq rfl
  walk_at "M sides"
  intro dp fr gd un Q₁ E₁ g L' h₁ tk env outer mean mg mb eA hQ hE₁ hPO ret retU FG st F' N' B' X' T' lt room hg
  k_lt lt
  have hne : @Ne Nat x dx := news_ne C.N hx hd (by intro e; cases e)
  (try dsimp only [AA] at room)
  (try dsimp only)
  (try k_fold)
  k_steps
  all_goals (try with_reducible refine hQ _ _ ?_)
  all_goals (try dsimp only)
  (with_reducible rename Fr g _ _ _ => kF)
  (with_reducible rename News g _ _ _ => kN)
  have B := backNew (m'' := m) C hg FG st kN [_, _] (fun p hp => by
    rcases List.mem_cons.mp hp with rfl | hp
    · exact ⟨.tail _ (.head _), nin2 (Nat.ne_of_gt (by omega)) (Nat.ne_of_gt (by omega))⟩
    · rcases List.mem_cons.mp hp with rfl | hp
      · exact ⟨.tail _ (.tail _ (.head _)), nin2 (Nat.ne_of_gt (by omega)) (Nat.ne_of_gt (by omega))⟩
      · cases hp)
  refine h _ _ _ _ _ _ ⟨_, _, _, _, _, _, _, _, _, _, rfl⟩ (by assumption) (by assumption) (FG.kept kF.keep) (fun news' U => news_app B.1 (retU _ _ _ [(x, instObj 214 dx), (dx, _)] news' _ _ _ kF (cb_drop kN (fun p hp => .tail _ (.tail _ (.tail _ (.tail _ (.tail _ hp)))))) U (.tail _ (.head _)) (fun p hp np => ?_)).2) (fun q hq => ⟨B.2 q hq _ (.tail _ (.head _)), B.2 q hq _ (.head _)⟩) (Nat.ne_of_lt (by omega))
  rcases List.mem_cons.mp hp with rfl | hp
  · exact .head _
  · rcases List.mem_cons.mp hp with rfl | hp
    · exact absurd rfl np
    · cases hp
theorem item_fin {g h' : Heap} {L' : Addr} {m' : Str → Option Value} {x dx cl kl : Addr} {lv : Int} {t : Nat} {nm : Str} {u : Nat} {es : List DictEntry} {tk' : Nat} {c : Nat} (C : Cx w A base h₀ L m s.heap news c)
    (h : ∀ es cl kl h' tk', ItemEs w.params lv t nm u cl kl es → Fr h₀ L h' m → (∀ news', Upd dx emptyDict (dictOf es es.length) news news' → News h₀ L h' ((kl, lst #[] 0) :: (cl, lst #[] 0) :: news')) →
      (∀ q ∈ news, q.1 ≠ cl ∧ q.1 ≠ kl) → @Ne Nat cl kl → R (.ok (.ret .none)) { s with heap := h', toks := tk' })
    (hg : HidG s.heap g [(x, instObj 188 dx), (dx, emptyDict)]) (FG : Fr h₀ L g m) (st : h₀.StaysIn g) (retU : RetU g h₀ L m [(x, instObj 188 dx), (dx, emptyDict)] news) (hes : ItemEs w.params lv t nm u cl kl es)
    (kF : Fr g L' h' m') (kN : News g L' h' ((kl, lst #[] 0) :: (cl, lst #[] 0) :: (x, instObj 188 dx) :: (dx, dictOf es es.length) :: [])) (n1 : @Ne Nat kl x) (n2 : @Ne Nat kl dx) (n3 : @Ne Nat cl x) (n4 : @Ne Nat cl dx) (n5 : @Ne Nat cl kl) : R (.ok (.ret .none)) { s with heap := h', toks := tk' } := by
  have B := backNew (m'' := m) C hg FG st kN [_, _] (fun p hp => by
    rcases List.mem_cons.mp hp with rfl | hp
    · exact ⟨.head _, nin2 n1 n2⟩
    · rcases List.mem_cons.mp hp with rfl | hp
      · exact ⟨.tail _ (.head _), nin2 n3 n4⟩
      · cases hp)
  refine h _ _ _ _ _ hes (FG.kept kF.keep) (fun news' U => news_app B.1 (retU _ _ _ [(x, instObj 188 dx), (dx, _)] news' _ _ _ kF (cb_drop kN (by k_sub)) U (.tail _ (.head _)) (fun p hp np => ?_)).2) (fun q hq => ⟨B.2 q hq _ (.tail _ (.head _)), B.2 q hq _ (.head _)⟩) n5
  rcases List.mem_cons.mp hp with rfl | hp
  · exact .head _
  · rcases List.mem_cons.mp hp with rfl | hp
    · exact absurd rfl np
    · cases hp
theorem c_init_item {x dx : Addr} {lv : Int} {t : Nat} {nm : Str} {u : Nat} (C : Cx w A base h₀ L m s.heap news 2) (hx : (x, instObj 188 dx) ∈ news) (hd : (dx, emptyDict) ∈ news)
    (h : ∀ es cl kl h' tk', ItemEs w.params lv t nm u cl kl es → Fr h₀ L h' m → (∀ news', Upd dx emptyDict (dictOf es es.length) news news' → News h₀ L h' ((kl, lst #[] 0) :: (cl, lst #[] 0) :: news')) →
      (∀ q ∈ news, q.1 ≠ cl ∧ q.1 ≠ kl) → @Ne Nat cl kl → R (.ok (.ret .none)) { s with heap := h', toks := tk' }) :
    codeAny (model PG w) A (.call (.ref 159) ⟨[.ref x, .int lv t, .str nm u], []⟩) R s := by
  refine' enterR [("self", .ref x), ("level", .int lv t), ("name", .str nm u)] [(x, instObj 188 dx), (dx, emptyDict)] C (sub2 hx hd) ?k6 ?k7 ?k9 ?kB ?_
  case k6 => k_is
  case k7 => k_is
  case k9 => exact BindsTo.of_eq rfl
  walk_at "M sides"
  intro dp fr gd un Q₁ E₁ g L' h₁ tk env outer mean mg mb eA hQ hE₁ hPO ret retU FG st F' N' B' X' T' lt room hg
  k_lt lt
  have hne : @Ne Nat x dx := news_ne C.N hx hd (by intro e; cases e)
  (try dsimp only [AA] at room)
  (try dsimp only)
  (try k_fold)
  k_steps
  all_goals (try with_reducible refine hQ _ _ ?_)
  all_goals (try dsimp only)
  (with_reducible rename Fr g _ _ _ => kF)
  (with_reducible rename News g _ _ _ => kN)
  exact item_fin C h hg FG st retU ⟨fun i => [_, _, _, _, _, _, _, _, _, _, _, _, _, _, _, _, _, _, _].get i, _, _, _, _, _, _, _, rfl⟩ kF kN (Nat.ne_of_gt (by omega)) (Nat.ne_of_gt (by omega)) (Nat.ne_of_gt (by omega)) (Nat.ne_of_gt (by omega)) (Nat.ne_of_lt (by omega))
theorem c_mkdata  (C : Cx w A base h₀ L m s.heap news 3)
    (h : ∀ x dx es fd sd o h' tk', DataEs w.params fd sd es → (fd == sysModules) = false → o.IsDictOf (PySem.strKind PG w) [] → Fr h₀ L h' m → News h₀ L h' ((sd, lst #[] 0) :: (fd, o) :: (x, instObj 214 dx) :: (dx, dictOf es es.length) :: news) → (∀ q ∈ (x, instObj 214 dx) :: (dx, emptyDict) :: news, q.1 ≠ fd ∧ q.1 ≠ sd) → @Ne Nat fd sd → (∀ q ∈ news, q.1 < dx) → dx < x → Q (.ref x) { s with heap := h', toks := tk' }) :
    wpAny (model PG w) A (call (.ref 214) []) Q E s := by
  refine wpAny_call (make_K C.F C.N (C.X.keeps C.F.keep) (by k_is) (by k_is) (by k_is) fun x dx h' F' N' lt1 lt2 => ?_)
  refine c_init_data (cx_make C F' N') (.head _) (.tail _ (.head _)) fun es fd sd o h'' tk' hes lo ho F'' hn ne1 ne2 => ⟨rfl, ?_⟩
  exact h x dx es fd sd o h'' tk' hes lo ho F'' (hn _ (upd_second (Nat.ne_of_gt lt2) (fun p hp => Nat.ne_of_lt (lt1 p hp)))) ne1 ne2 lt1 lt2
theorem c_mkitem {lv : Int} {t : Nat} {nm : Str} {u : Nat} (C : Cx w A base h₀ L m s.heap news 3)
    (h : ∀ x dx es cl kl h' tk', ItemEs w.params lv t nm u cl kl es → Fr h₀ L h' m → News h₀ L h' ((kl, lst #[] 0) :: (cl, lst #[] 0) :: (x, instObj 188 dx) :: (dx, dictOf es es.length) :: news) → (∀ q ∈ (x, instObj 188 dx) :: (dx, emptyDict) :: news, q.1 ≠ cl ∧ q.1 ≠ kl) → @Ne Nat cl kl → (∀ q ∈ news, q.1 < dx) → dx < x → Q (.ref x) { s with heap := h', toks := tk' }) :
    wpAny (model PG w) A (call (.ref 188) [.int lv t, .str nm u]) Q E s := by
  refine wpAny_call (make_K C.F C.N (C.X.keeps C.F.keep) (by k_is) (by k_is) (by k_is) fun x dx h' F' N' lt1 lt2 => ?_)
  refine c_init_item (cx_make C F' N') (.head _) (.tail _ (.head _)) fun es cl kl h'' tk' hes F'' hn ne1 ne2 => ⟨rfl, ?_⟩
  exact h x dx es cl kl h'' tk' hes F'' (hn _ (upd_second (Nat.ne_of_gt lt2) (fun p hp => Nat.ne_of_lt (lt1 p hp)))) ne1 ne2 lt1 lt2
end
set_option maxHeartbeats 0
local macro_rules | `(tactic| walk_at "call ref") => zaps [(`Mine.c_oneof_pic, ["M z", "M s"]), (`Mine.c_oneof_usage, ["M z", "M t9", "M upd"])]
section
variable {w : World} {A : Around} {s : Shared} {base h₀ : Heap} {L : Addr} {m : Str → Option Value} {news news' : List (Addr × Obj)} {Q E : Value → Shared → Prop} {r dr l nd : Addr} {k : RK} {a : Int} {ta : Nat} {ts : List TK}
theorem c_islevel {b : Bool} (C : Cx w A base h₀ L m s.heap news 4) (hr : (r, instObj 617 dr) ∈ news) (hd : (dr, rdD k l nd a ta) ∈ news) (hT : Toks h₀ l ts) (ha : 0 ≤ a) (hv : kindIs ts (a + 0) "number" = b) (h : ∀ h' tk', Fr h₀ L h' m → News h₀ L h' news → Q (.bool b) { s with heap := h', toks := tk' }) : wpAny (model PG w) A (call (.ref 351) [.ref r]) Q E s := by
  refine' enterX [("reader", .ref r)] [(r, instObj 617 dr), (dr, rdD k l nd a ta)] C (sub2 hr hd) ?k6 ?k7 ?k9 ?kB ?_
  case k6 => k_is
  case k7 => k_is
  case k9 => exact BindsTo.of_eq rfl
  walk_at "M sides"
  intro dp fr gd un Q₁ E₁ g L' h₁ tk env outer mean mg mb eA hQ hE₁ hPO ret retU FG st F' N' B' X' T' lt room hg
  k_lt lt
  (try dsimp only [AA] at room)
  have hT' := hT.keeps st
  have hne := rd_ne N'
  (try dsimp only)
  (try k_fold)
  cases hx : ts[(a + 0).toNat]? with
  | none =>
    have hp : pk ts (a + 0) = .none := pk_none hx
    have hq : kindIs ts (a + 0) "number" = false := by unfold kindIs; rw [hx]
    rw [hq] at hv; subst hv
    k_steps
    all_goals (try with_reducible refine hQ _ _ ?_)
    all_goals (try dsimp only)
    (with_reducible rename Fr g _ _ _ => kF)
    (with_reducible rename News g _ _ _ => kN)
    exact (ret _ _ _ kF (cb_drop kN (by k_sub))).elim fun a b => h _ _ a b
  | some t =>
    have hp : pk ts (a + 0) = .ref t.x := pk_some hx
    have hq : kindIs ts (a + 0) "number" = (t.kind == "number") := by unfold kindIs; rw [hx]
    rw [hq] at hv; subst hv
    have hI := hT'.inst t (List.mem_of_getElem? hx)
    k_steps
    all_goals (try with_reducible refine hQ _ _ ?_)
    all_goals (try dsimp only)
    (with_reducible rename Fr g _ _ _ => kF)
    (with_reducible rename News g _ _ _ => kN)
    exact (ret _ _ _ kF (cb_drop kN (by k_sub))).elim fun a b => h _ _ a b
end
open Builtin Builtin.Str Builtin.Int
set_option maxHeartbeats 0
section
variable {prog : Program} {w : World} {A : Around} {E : Value → Shared → Prop} {s : Shared} {I d : Addr} {kvs : List (Str × Value)} {ep : Nat}
theorem slot_nolen : typeLookup (.type "dict_keyiterator") "__len__" = pure none := by rw [typeLookup_type, builtinLookup_eq_fast]; kernel_rfl
theorem slot_hint : typeLookup (.type "dict_keyiterator") "__length_hint__" = pure (some (.builtin "dict_keyiterator.__length_hint__")) := by rw [typeLookup_type, builtinLookup_eq_fast]; kernel_rfl
theorem collect_keyiter {Q : List Value → Shared → Prop} (hh : A.handled = none) (hit : s.heap.IsKeyIter I d 0 kvs.length ep) (hm : s.heap.DictAt (strKind prog w) d kvs ep) (hne : d ≠ I)
    (hQ : ∀ s' acc, Moved [I] (fun a b => b = a) s s' → ItemsOf (fun i v => ∃ k x, kvs[i]? = some (k, x) ∧ (strKind prog w).is k v = true) acc kvs.length → Q acc.toList s') (hn : kvs.length ≤ sizeLine) : wpAny (model prog w) A (collect (.ref I)) Q E s := by
  have W := (Walks.dictKeys (A := A.in1) (knd := strKind prog w) hh I d hne kvs ep).toS
  have hI : I < s.heap.objs.size := by obtain ⟨o, ho, _⟩ := hit; exact Heap.lt_size ho
  have hSf : s.heap.objs.size ∉ [I, d] := fun q => by
    rcases List.mem_cons.mp q with e | q
    · exact Nat.lt_irrefl _ (e ▸ hI)
    · rw [List.mem_singleton] at q; exact Nat.lt_irrefl _ (q ▸ hm.lt_size)
  have hSI : s.heap.objs.size ≠ I := Nat.ne_of_gt hI
  have hT : ∀ s₁ : Shared, (s₁.heap.IsKeyIter I d 0 kvs.length ep ∧ s₁.heap.DictAt (strKind prog w) d kvs ep) → s₁.TypeIs (.ref I) "dict_keyiterator" := fun s₁ st => let ⟨o, ho, hc, _⟩ := st.1; ⟨o, ho, hc⟩
  unfold collect
  refine wpAny_bind (wpAny_runValue (codeAny_builtin F.entry_proto_collect ?_))
  rw [Around.under_plainId F.plain_proto_collect _]
  show wpAny _ A.in1 (newList [] >>= fun l => again (.builtin "list.__iadd__" ⟨[l, .ref I], []⟩)) _ _ s
  refine wpAny_bind (wpAny_newObj_type ?_)
  refine wpAny_pure ⟨plainId_quiet F.plain_list_iadd _, codeAny_builtin F.entry_list_iadd ?_⟩
  rw [Around.under_plainId F.plain_list_iadd _]
  have hst₁ := W.frame 0 s (s.heap.push { cls := .type "list", data := .seq ([] : List Value).toArray }) s.toks ⟨hit, hm⟩ (Nat.le_refl _) fun b _ o e => Heap.get?_push_of_some _ e
  have hS₁ : (s.heap.push { cls := .type "list", data := .seq ([] : List Value).toArray }).get? s.heap.objs.size = some { cls := .type "list", data := .seq ([] : List Value).toArray } := Heap.get?_push_size _ rfl
  have h1 : Builtin.List.listSameRef (.ref s.heap.objs.size) (.ref I) = false := by simp [Builtin.List.listSameRef, hSI]
  show wpAny _ A.in1 (Builtin.List.listExtendWith (.ref s.heap.objs.size) (.ref I) (.ref s.heap.objs.size)) _ _ _
  unfold Builtin.List.listExtendWith
  refine wpAny_bind (wpAny_typeOf (hT _ hst₁) ?_)
  rw [if_neg (by rw [h1]; decide)]
  refine wpAny_bind (W.self 0 _ _ _ hst₁ ?_)
  refine wpAny_bind (wpAny_holding ?_)
  unfold Builtin.List.listLengthHint
  refine wpAny_bind (wpAny_specialOf (hT _ hst₁) slot_nolen ?_)
  show wpAny _ A.in1 (specialOf (Value.ref I) (Str.ofString "__length_hint__") >>= _) _ _ _
  refine wpAny_bind (wpAny_specialOf (hT _ hst₁) slot_hint ?_)
  (generalize hid : ("dict_keyiterator.__length_hint__" : String) = id0; (fail_if_success (clear hid id0)); wp_delta; rw [show splitId id0 = some ("dict_keyiterator", "__length_hint__") from by subst hid; decide +kernel]; subst hid)
  refine wpAny_bind (wpAny_isInstance (b := true) (hT _ hst₁) (by rw [isSubtype_type]; kernel_rfl) ?_)
  refine wpAny_pure ?_
  rw [if_neg (by decide)]
  refine wpAny_pure ⟨plainId_quiet F.plain_extend_loop _, codeAny_extend_loopS W hn _ hSf _ kvs.length 0 _ _ _ rfl (Nat.zero_le _) hst₁ hS₁ (ItemsOf.nil _) fun s' acc' c' hm' hS' hacc => ?_⟩
  show wpAny _ A (load s.heap.objs.size >>= _) _ _ s'
  refine wpAny_bind (wpAny_load hS' ?_)
  exact wpAny_pure (hQ s' acc' (Moved.drop_new (o := { cls := .type "list", data := .seq ([] : List Value).toArray }) (tk := s.toks) hm' (Nat.le_refl _)) hacc)
theorem strs_of {knd : KeyKind prog w Str} (hk : ∀ k v, knd.is k v = true → ∃ t, v = .str k t) : ∀ (kvs : List (Str × Value)) (vs : List Value), vs.length = kvs.length → (∀ (i : Nat) k x v, kvs[i]? = some (k, x) → vs[i]? = some v → knd.is k v = true) → ∃ l : List (Str × Tok), strValues l = vs ∧ l.map (·.1) = kvs.map (·.1)
  | [], [], _, _ => ⟨[], rfl, rfl⟩
  | (k, x) :: kvs, v :: vs, hl, h => by
    obtain ⟨t, rfl⟩ := hk k v (h 0 k x v rfl rfl)
    obtain ⟨l, e1, e2⟩ := strs_of hk kvs vs (Nat.succ.inj hl) fun i k x v a b => h (i + 1) k x v a b
    exact ⟨(k, t) :: l, by rw [← e1]; rfl, by rw [List.map_cons, e2]; rfl⟩
theorem join_dict {Q : Value → Shared → Prop} {y : Str} {t : Tok} (hh : A.handled = none) (hm : s.heap.DictAt (strKind prog w) d kvs ep) (lo : (d == sysModules) = false) (hn : kvs.length ≤ sizeLine) (hok : JoinOk y (kvs.map (·.1)) = true)
    (h : ∀ t' h' tk, (∀ b o, s.heap.get? b = some o → h'.get? b = some o) → Q (.str (Txt.join y (kvs.map (·.1))) t') { s with heap := h', toks := tk }) :
    wpAny (model prog w) A (call (.builtin "str.join") [.str y t, .ref d]) Q E s := by
  refine wpAny_call (codeAny_call_builtin F.slot_str_join.plain F.entry_str_join (F.slot_str_join.check _ _ _ _ _ _ _ _ (typeIs_str _ _ _) (F.args_str_join_2 _ _) ?_))
  rw [join_tree_other]
  refine wpAny_bind (wpAny_typeOf hm.dictOf.typeIs ?_)
  show wpAny _ A.in1 ((pyIter (.ref d)).tryCatch _ >>= fun it => collect it >>= fun items => joinTail y items) _ _ s
  refine wpAny_bind (wpAny_tryCatch (wpAny_pyIter_dict lo hm ?_))
  have hne : d ≠ s.heap.objs.size := Nat.ne_of_lt hm.lt_size
  refine wpAny_bind (collect_keyiter (A := A.in1) hh ⟨_, Heap.get?_push_size _ rfl, rfl, rfl⟩ (hm.push _) hne (fun s' acc hmv hacc => ?_) hn)
  obtain ⟨l, hl, hl2⟩ := strs_of (knd := strKind prog w) (fun k v q => Value.isStrOf_shape q) kvs acc.toList (by simpa using hacc.1) fun i k x v a b => by
    obtain ⟨k', x', e1, e2⟩ := hacc.2 i v (by simpa using b)
    rw [a] at e1; cases e1; exact e2
  rw [← hl]
  unfold JoinOk at hok
  rw [Bool.not_eq_true', ← hl2] at hok
  have g : Gives (joinTail y (strValues l)) (joinMade y l) := by
    have g0 := gives_joinTail y l hok
    cases l with
    | nil => exact g0
    | cons p r => cases r with
      | nil => exact g0
      | cons q r' => exact g0
  refine g prog w A (wants Q E) s' (post_join l ⟨joinFit_length hok, fun t' k => ?_⟩)
  rw [hl2, Moved.eq_with hmv]
  refine h t' s'.heap k fun b o e => hmv.heap b o (fun q => ?_) (Heap.get?_push_of_some _ e)
  rw [List.mem_singleton.mp q] at e
  exact Nat.lt_irrefl _ (Heap.lt_size e)
end
def uKeys : List (Str × Value) := [("DISPLAY", .str "display" 602), ("COMP", .str "binary" 604), ("COMPUTATIONAL", .str "binary" 606), ("BINARY", .str "binary" 608), ("PACKED-DECIMAL", .str "packed" 610), ("COMP-3", .str "packed" 612), ("COMPUTATIONAL-3", .str "packed" 614), ("INDEX", .str "index" 616)]
theorem usage_at {w : World} {h : Heap} (X : (KK w.params).In h) : h.DictAt (strKind PG w) 269 uKeys 8 := by
  refine ⟨_, _, X 269 _ rfl, ⟨rfl, rfl, rfl⟩, rfl, fun e he => ?_, ?_, by decide⟩
  · simp only [List.mem_toArray, List.mem_cons, List.not_mem_nil, or_false] at he
    rcases he with rfl | rfl | rfl | rfl | rfl | rfl | rfl | rfl
    all_goals exact ⟨_, strKind_is PG w _ _, rfl⟩
  · exact .cons (strKind_is PG w _ _) rfl (.cons (strKind_is PG w _ _) rfl (.cons (strKind_is PG w _ _) rfl (.cons (strKind_is PG w _ _) rfl (.cons (strKind_is PG w _ _) rfl (.cons (strKind_is PG w _ _) rfl (.cons (strKind_is PG w _ _) rfl (.cons (strKind_is PG w _ _) rfl .nil)))))))
theorem join_usage {w : World} {A : Around} {s : Shared} {h₀ : Heap} {L : Addr} {m : Str → Option Value} {news : List (Addr × Obj)} {Q E : Value → Shared → Prop} {t : Nat} (hh : A.handled = none) (F : Fr h₀ L s.heap m) (N : News h₀ L s.heap news) (X : (KK w.params).In h₀)
    (h : ∀ t' h' tk, Fr h₀ L h' m → News h₀ L h' news → Q (.str "DISPLAY COMP COMPUTATIONAL BINARY PACKED-DECIMAL COMP-3 COMPUTATIONAL-3 INDEX" t') { s with heap := h', toks := tk }) :
    wpAny (model PG w) A (call (.builtin "str.join") [.str " " t, .ref 269]) Q E s := by
  refine join_dict hh (usage_at (X.keeps F.keep)) (by decide) (by decide) (by decide +kernel) fun t' h' tk k => ?_
  have e : Txt.join " " (uKeys.map (·.1)) = "DISPLAY COMP COMPUTATIONAL BINARY PACKED-DECIMAL COMP-3 COMPUTATIONAL-3 INDEX" := by decide +kernel
  rw [e]
  exact h t' h' tk (F.keeps k) fun p hp => ⟨k _ _ (N p hp).1, (N p hp).2⟩
set_option maxHeartbeats 0
theorem upd_mem {d : Addr} {o o' : Obj} {n n' : List (Addr × Obj)} (U : Upd d o o' n n') : (d, o) ∈ n ∧ ∀ p ∈ n', p = (d, o') ∨ p ∈ n ∧ p.1 ≠ d := by
  obtain ⟨pre, post, rfl, rfl, a, b⟩ := U.split
  refine ⟨List.mem_append_right _ (.head _), fun p hp => ?_⟩
  rcases List.mem_append.mp hp with hp | hp
  · exact .inr ⟨List.mem_append_left _ hp, a p hp⟩
  · rcases List.mem_cons.mp hp with rfl | hp
    · exact .inl rfl
    · exact .inr ⟨List.mem_append_right _ (.tail _ hp), b p hp⟩
section
variable {w : World} {A : Around} {base h₀ h g h' : Heap} {L L'' : Addr} {m m'' : Str → Option Value} {news hide hide' n1 n2 n3 : List (Addr × Obj)} {c : Nat} {d1 d2 d3 : Addr} {o1 o1' o2 o2' o3 o3' : Obj}
theorem backG (C : Cx w A base h₀ L m h news c) (hsub : ∀ p ∈ hide, p ∈ news) (hg : ∀ b o, h.get? b = some o → b ∉ hide.map (·.1) → g.get? b = some o) (kF : Fr g L'' h' m'') (kN : News g L'' h' hide')
    (H : ∀ p ∈ n1, (p ∈ hide' ∧ ∃ q ∈ news, q.1 = p.1) ∨ (p ∈ news ∧ (p ∈ hide → p ∈ hide'))) : News h₀ L h' n1 := fun p hp => by
  rcases H p hp with ⟨h1, q, hq, e⟩ | ⟨h1, h2⟩
  · exact ⟨(kN p h1).1, e ▸ (C.N q hq).2⟩
  · refine ⟨?_, (C.N p h1).2⟩
    by_cases q : p.1 ∈ hide.map (·.1)
    · obtain ⟨p', hp', e⟩ := List.mem_map.mp q
      have x1 := (C.N _ (hsub _ hp')).1
      have x2 := (C.N _ h1).1
      rw [e] at x1
      rw [x1] at x2
      have : p' = p := Prod.ext e (Option.some.inj x2)
      exact (kN _ (h2 (this ▸ hp'))).1
    · exact kF.keep _ _ (hg _ _ (C.N p h1).1 q)
theorem back2 (C : Cx w A base h₀ L m h news c) (hsub : ∀ p ∈ hide, p ∈ news) (hg : ∀ b o, h.get? b = some o → b ∉ hide.map (·.1) → g.get? b = some o) (kF : Fr g L'' h' m'') (kN : News g L'' h' hide')
    (U1 : Upd d1 o1 o1' news n1) (U2 : Upd d2 o2 o2' n1 n2) (h1 : (d1, o1') ∈ hide') (h2 : (d2, o2') ∈ hide') (hr : ∀ p ∈ hide, p.1 ≠ d1 → p.1 ≠ d2 → p ∈ hide') : News h₀ L h' n2 := by
  obtain ⟨m1, M1⟩ := upd_mem U1
  obtain ⟨m2, M2⟩ := upd_mem U2
  refine backG C hsub hg kF kN fun p hp => ?_
  have key : ∀ q ∈ n1, ∃ q' ∈ news, q'.1 = q.1 := fun q hq => (M1 q hq).elim (fun e => ⟨_, m1, by rw [e]⟩) fun e => ⟨q, e.1, rfl⟩
  rcases M2 p hp with rfl | ⟨hp, ne⟩
  · exact .inl ⟨h2, key (d2, o2) m2⟩
  · rcases M1 p hp with rfl | ⟨hp, ne'⟩
    · exact .inl ⟨h1, key _ hp⟩
    · exact .inr ⟨hp, fun x => hr p x ne' ne⟩
theorem sub4 {news : List (Addr × Obj)} {a b c d : Addr × Obj} (h1 : a ∈ news) (h2 : b ∈ news) (h3 : c ∈ news) (h4 : d ∈ news) : ∀ p ∈ [a, b, c, d], p ∈ news := fun p hp => by
  rcases List.mem_cons.mp hp with rfl | hp
  · exact h1
  · rcases List.mem_cons.mp hp with rfl | hp
    · exact h2
    · exact sub2 h3 h4 p hp
theorem in4 {r dr x dx : Addr} {o1 o2 o3 o4 : Obj} {l : List (Addr × Obj)} (h1 : (r, o1) ∈ l) (h3 : (x, o3) ∈ l) : ∀ p ∈ [(r, o1), (dr, o2), (x, o3), (dx, o4)], p.1 ≠ dr → p.1 ≠ dx → p ∈ l := fun p hp e1 e2 => by
  rcases List.mem_cons.mp hp with rfl | hp
  · exact h1
  · rcases List.mem_cons.mp hp with rfl | hp
    · exact absurd rfl e1
    · rcases List.mem_cons.mp hp with rfl | hp
      · exact h3
      · rcases List.mem_cons.mp hp with rfl | hp
        · exact absurd rfl e2
        · cases hp
end
theorem usage_item {w : World} {A : Around} {s : Shared} {h₀ : Heap} {L : Addr} {m : Str → Option Value} {Q E : Value → Shared → Prop} {t : Nat} {value slice : PySem.Expr} (F : Fr h₀ L s.heap m) (X : (KK w.params).In h₀)
    (h : Q (.str "binary" 608) { s with toks := s.toks + 1 })
    (hs : subscripted slice false (.ref 269) (.str "BINARY" t) = operate [.ref 269, .str "BINARY" t] (getItem (.ref 269) (.str "BINARY" t))) (hq : ∀ r, letTemporaryGo value (.ref 269) r = pure ()) :
    wpAny (model PG w) A (subscriptTail value slice (.ref 269) (.str "BINARY" t)) Q E s := by
  have hD := (usage_at (X.keeps F.keep)).dictOf
  exact subscriptTail_builtin hD.typeIs slot_dict_getitem.lookup (wpAny_getItem_of (strKind_is PG w _ _) hD.mapOf (by rfl) h) hs hq
section
local macro_rules | `(tactic| walk_at "call builtin:str.join") => zst
local macro_rules | `(tactic| walk_at "subscriptTail") => zst
variable {w : World} {A : Around} {s : Shared} {base h₀ : Heap} {L : Addr} {m : Str → Option Value} {news news' : List (Addr × Obj)} {Q E : Value → Shared → Prop} {r dr l nd : Addr} {k : RK} {a : Int} {ta : Nat} {ts : List TK}
theorem c_bare {x dx cl kl : Addr} {es : List DictEntry} {lv : Int} {t : Nat} {nm : Str} {u : Nat} (C : Cx w A base h₀ L m s.heap news 13) (hr : (r, instObj 617 dr) ∈ news) (hd : (dr, rdD k l nd a ta) ∈ news) (hT : Toks h₀ l ts) (ha : 0 ≤ a) (hW : ∀ x, wordIs ts (a + 0) x = (("BINARY" : Str) == x))
    (hx : (x, instObj 188 dx) ∈ news) (hdx : (dx, dictOf es 19) ∈ news) (hes : ItemEs w.params lv t nm u cl kl es)
    (h : ∀ t9 es' ta' h' tk', ItemEs w.params lv t nm u cl kl es' → Fr h₀ L h' m → (∀ n1 n2, Upd dr (rdD k l nd a ta) (rdD k l nd (a + 1) ta') news n1 → Upd dx (dictOf es 19) (dictOf es' 19) n1 n2 → News h₀ L h' n2) → Q (.str "USAGE" t9) { s with heap := h', toks := tk' }) :
    wpAny (model PG w) A (call (.ref 316) [.ref r, .ref x]) Q E s := by
  refine' enterX [("reader", .ref r), ("item", .ref x)] [(r, instObj 617 dr), (dr, rdD k l nd a ta), (x, instObj 188 dx), (dx, dictOf es 19)] C (sub4 hr hd hx hdx) ?k6 ?k7 ?k9 ?kB ?_
  case k6 => k_is
  case k7 => k_is
  case k9 => exact BindsTo.of_eq rfl
  walk_at "M sides"
  intro dp fr gd un Q₁ E₁ g L' h₁ tk env outer mean mg mb eA hQ hE₁ hPO ret retU FG st F' N' B' X' T' lt room hg
  clear ret retU
  k_lt lt
  (try dsimp only [AA] at room)
  have hT' := hT.keeps st
  have n12 : @Ne Nat r dr := news_ne C.N hr hd (by intro e; cases e)
  have n13 : @Ne Nat r x := news_ne C.N hr hx (by intro e; cases e)
  have n14 : @Ne Nat r dx := news_ne C.N hr hdx (by intro e; cases e)
  have n23 : @Ne Nat dr x := news_ne C.N hd hx (by intro e; cases e)
  have n24 : @Ne Nat dr dx := news_ne C.N hd hdx (by intro e; cases e)
  have n34 : @Ne Nat x dx := news_ne C.N hx hdx (by intro e; cases e)
  obtain ⟨kk, uv, pv, u2, u3, u4, z1, z2, rfl⟩ := hes
  (try dsimp only)
  (try k_fold)
  k_steps
  all_goals (try with_reducible refine hQ _ _ ?_)
  refine Hold.mk ?_
  (with_reducible show wpAny _ _ (call (Value.builtin "str.join") [Value.str _ _, Value.ref 269]) _ _ _)
  (refine' join_usage ?k1 ?k2 ?k3 ?k4 ?_; (case k1 => rfl); (case k2 => k_asm); (case k3 => k_asm); (case k4 => assumption); intro t8 h' tk' F' N'; (try k_sweep))
  k_steps
  all_goals (try with_reducible refine hQ _ _ ?_)
  refine Hold.mk ?_
  (with_reducible show wpAny _ _ (subscriptTail _ _ (Value.ref 269) (Value.str _ _)) _ _ _)
  (with_unfolding_all refine' usage_item ?k1 ?k2 ?_ ?k6 ?k7; (case k1 => k_asm); (case k2 => assumption); (case k6 => with_unfolding_all rfl); (case k7 => intro _; with_unfolding_all rfl); k_whole)
  k_steps
  all_goals (try with_reducible refine hQ _ _ ?_)
  all_goals (try dsimp only)
  (with_reducible rename Fr g _ _ _ => kF)
  (with_reducible rename News g _ _ _ => kN)
  refine h _ _ _ _ _ ⟨_, _, _, _, _, _, _, _, rfl⟩ (FG.kept kF.keep) fun n1 n2 U1 U2 => back2 C (sub4 hr hd hx hdx) hg kF (cb_drop kN (by k_sub)) U1 U2 (.tail _ (.head _)) (.tail _ (.tail _ (.tail _ (.head _)))) (in4 (.head _) (.tail _ (.tail _ (.head _))))
end
theorem zz5 : Hold True := by first | walk1 | exact ⟨trivial⟩
set_option maxHeartbeats 0
local macro_rules
  | `(tactic| walk_at "M u2") => `(tactic| (intro es' ta' h' tk' hes' F' hn'; (have N' := hn' _ _ (by k_upd) (by k_upd)); clear hn'; (try k_sweep)))
  | `(tactic| walk_at "call ref") => zap `Mine.c_bare ["M z", "M t9", "M u2"]
section
variable {w : World} {A : Around} {s : Shared} {base h₀ : Heap} {L : Addr} {m : Str → Option Value} {news news' : List (Addr × Obj)} {Q E : Value → Shared → Prop} {r dr l nd : Addr} {k : RK} {a : Int} {ta : Nat} {ts : List TK}
theorem c_clauses0 {x dx cl kl : Addr} {es : List DictEntry} {lv : Int} {t : Nat} {nm : Str} {u : Nat} (C : Cx w A base h₀ L m s.heap news 15) (hr : (r, instObj 617 dr) ∈ news) (hd : (dr, rdD k l nd a ta) ∈ news) (hT : Toks h₀ l ts) (ha : 0 ≤ a) (hs : signIs ts (a + 0) "." = true)
    (hx : (x, instObj 188 dx) ∈ news) (hdx : (dx, dictOf es 19) ∈ news) (hes : ItemEs w.params lv t nm u cl kl es)
    (h : ∀ h' tk', Fr h₀ L h' m → News h₀ L h' news → Q .none { s with heap := h', toks := tk' }) :
    wpAny (model PG w) A (call (.ref 323) [.ref r, .ref x]) Q E s := by
  refine' enterX [("reader", .ref r), ("item", .ref x)] [(r, instObj 617 dr), (dr, rdD k l nd a ta), (x, instObj 188 dx), (dx, dictOf es 19)] C (sub4 hr hd hx hdx) ?k6 ?k7 ?k9 ?kB ?_
  case k6 => k_is
  case k7 => k_is
  case k9 => exact BindsTo.of_eq rfl
  walk_at "M sides"
  intro dp fr gd un Q₁ E₁ g L' h₁ tk env outer mean mg mb eA hQ hE₁ hPO ret retU FG st F' N' B' X' T' lt room hg
  clear retU
  k_lt lt
  (try dsimp only [AA] at room)
  have hT' := hT.keeps st
  have n12 : @Ne Nat r dr := news_ne C.N hr hd (by intro e; cases e)
  have n13 : @Ne Nat r x := news_ne C.N hr hx (by intro e; cases e)
  have n14 : @Ne Nat r dx := news_ne C.N hr hdx (by intro e; cases e)
  have n23 : @Ne Nat dr x := news_ne C.N hd hx (by intro e; cases e)
  have n24 : @Ne Nat dr dx := news_ne C.N hd hdx (by intro e; cases e)
  have n34 : @Ne Nat x dx := news_ne C.N hx hdx (by intro e; cases e)
  (try dsimp only)
  (try k_fold)
  k_steps
  all_goals (try with_reducible refine hQ _ _ ?_)
  all_goals (try dsimp only)
  (with_reducible rename Fr g _ _ _ => kF)
  (with_reducible rename News g _ _ _ => kN)
  exact (ret _ _ _ kF (cb_drop kN (by k_sub))).elim fun a b => h _ _ a b
theorem c_clauses1 {x dx cl kl : Addr} {es : List DictEntry} {lv : Int} {t : Nat} {nm : Str} {u : Nat} (C : Cx w A base h₀ L m s.heap news 15) (hr : (r, instObj 617 dr) ∈ news) (hd : (dr, rdD k l nd a ta) ∈ news) (hT : Toks h₀ l ts) (ha : 0 ≤ a) (hs : signIs ts (a + 0) "." = false) {tx : TK} (hp : pk ts (a + 0) = .ref tx.x) (hW : ∀ x, wordIs ts (a + 0) x = (("BINARY" : Str) == x)) (hs1 : signIs ts (a + 1 + 0) "." = true)
    (hx : (x, instObj 188 dx) ∈ news) (hdx : (dx, dictOf es 19) ∈ news) (hes : ItemEs w.params lv t nm u cl kl es)
    (h : ∀ es' ta' h' tk', ItemEs w.params lv t nm u cl kl es' → Fr h₀ L h' m → (∀ n1 n2, Upd dr (rdD k l nd a ta) (rdD k l nd (a + 1) ta') news n1 → Upd dx (dictOf es 19) (dictOf es' 19) n1 n2 → News h₀ L h' n2) → Q .none { s with heap := h', toks := tk' }) :
    wpAny (model PG w) A (call (.ref 323) [.ref r, .ref x]) Q E s := by
  refine' enterX [("reader", .ref r), ("item", .ref x)] [(r, instObj 617 dr), (dr, rdD k l nd a ta), (x, instObj 188 dx), (dx, dictOf es 19)] C (sub4 hr hd hx hdx) ?k6 ?k7 ?k9 ?kB ?_
  case k6 => k_is
  case k7 => k_is
  case k9 => exact BindsTo.of_eq rfl
  walk_at "M sides"
  intro dp fr gd un Q₁ E₁ g L' h₁ tk env outer mean mg mb eA hQ hE₁ hPO ret retU FG st F' N' B' X' T' lt room hg
  clear retU
  k_lt lt
  (try dsimp only [AA] at room)
  have hT' := hT.keeps st
  have n12 : @Ne Nat r dr := news_ne C.N hr hd (by intro e; cases e)
  have n13 : @Ne Nat r x := news_ne C.N hr hx (by intro e; cases e)
  have n14 : @Ne Nat r dx := news_ne C.N hr hdx (by intro e; cases e)
  have n23 : @Ne Nat dr x := news_ne C.N hd hx (by intro e; cases e)
  have n24 : @Ne Nat dr dx := news_ne C.N hd hdx (by intro e; cases e)
  have n34 : @Ne Nat x dx := news_ne C.N hx hdx (by intro e; cases e)
  (try dsimp only)
  (try k_fold)
  k_steps
  all_goals (try with_reducible refine hQ _ _ ?_)
  all_goals (try dsimp only)
  (with_reducible rename Fr g _ _ _ => kF)
  (with_reducible rename News g _ _ _ => kN)
  refine h _ _ _ _ (by assumption) (FG.kept kF.keep) fun n1 n2 U1 U2 => back2 C (sub4 hr hd hx hdx) hg kF (cb_drop kN (by k_sub)) U1 U2 (.tail _ (.head _)) (.tail _ (.tail _ (.tail _ (.head _)))) (in4 (.head _) (.tail _ (.tail _ (.head _))))
end
set_option maxHeartbeats 0
section
variable {prog : Program} {w : World} {A : Around} {E : Value → Shared → Prop} {s : Shared} {x y : Str} {t u : Nat} {b : Bool} {Q : Value → Shared → Prop}
theorem lit_in (e : (!(Builtin.Str.occurrences x y 0 x.length 1).isEmpty) = b) (h : Q (.bool b) s) : wpAny (model prog w) A (compareOp .In (.str y u) (.str x t)) Q E s := PyProof.Rows.in_str (e ▸ h)
theorem lit_notin (e : (Builtin.Str.occurrences x y 0 x.length 1).isEmpty = b) (h : Q (.bool b) s) : wpAny (model prog w) A (compareOp .NotIn (.str y u) (.str x t)) Q E s := PyProof.Rows.notIn_str (by rw [e, Bool.not_not]; exact h)
theorem lit_len {k : Int} (e : (x.length : Int) = k) (hk : k < 1000) (h : Q (.int k (s.toks + 1)) { s with toks := s.toks + 1 + 1 }) : wpAny (model prog w) A (call (.builtin "len") [.str x t]) Q E s := by
  subst e; exact PySem.P.len_str (by omega) h
theorem lit_item {value slice : PySem.Expr} {i : Int} (e : Txt.item x i = y) (hr : fitsSsize i = true) (h1 : -(x.length : Int) ≤ i) (h2 : i < x.length) (h : Q (.str y s.toks) { s with toks := s.toks + 1 })
    (hs : subscripted slice false (.str x t) (.int i u) = operate [.str x t, .int i u] (getItem (.str x t) (.int i u))) (ht : ∀ r, letTemporaryGo value (.str x t) r = pure ()) :
    wpAny (model prog w) A (subscriptTail value slice (.str x t) (.int i u)) Q E s := PyProof.Rows.item_str hr h1 h2 (fun _ => e ▸ h) hs ht
theorem lit_in0 (e : (!(Builtin.Str.occurrences x y 0 x.length 1).isEmpty) = false) (h : Q (.bool false) s) : wpAny (model prog w) A (compareOp .In (.str y u) (.str x t)) Q E s := lit_in e h
theorem lit_in1 (e : (!(Builtin.Str.occurrences x y 0 x.length 1).isEmpty) = true) (h : Q (.bool true) s) : wpAny (model prog w) A (compareOp .In (.str y u) (.str x t)) Q E s := lit_in e h
theorem lit_nin0 (e : (Builtin.Str.occurrences x y 0 x.length 1).isEmpty = false) (h : Q (.bool false) s) : wpAny (model prog w) A (compareOp .NotIn (.str y u) (.str x t)) Q E s := lit_notin e h
theorem lit_nin1 (e : (Builtin.Str.occurrences x y 0 x.length 1).isEmpty = true) (h : Q (.bool true) s) : wpAny (model prog w) A (compareOp .NotIn (.str y u) (.str x t)) Q E s := lit_notin e h
theorem lit_len2 (e : (x.length : Int) = 2) (h : Q (.int 2 (s.toks + 1)) { s with toks := s.toks + 1 + 1 }) : wpAny (model prog w) A (call (.builtin "len") [.str x t]) Q E s := lit_len e (by decide) h
theorem index0 (e : Builtin.Str.occurrences x y 0 x.length 1 = [0]) (h : Q (.int ((0 : Nat) : Int) s.toks) { s with toks := s.toks + 1 }) : wpAny (model prog w) A (call (.builtin "str.index") [.str x t, .str y u]) Q E s := SC.index e h
theorem index1 (e : Builtin.Str.occurrences x y 0 x.length 1 = [1]) (h : Q (.int ((1 : Nat) : Int) s.toks) { s with toks := s.toks + 1 }) : wpAny (model prog w) A (call (.builtin "str.index") [.str x t, .str y u]) Q E s := SC.index e h
theorem index5 (e : Builtin.Str.occurrences x y 0 x.length 1 = [5]) (h : Q (.int ((5 : Nat) : Int) s.toks) { s with toks := s.toks + 1 }) : wpAny (model prog w) A (call (.builtin "str.index") [.str x t, .str y u]) Q E s := SC.index e h
end
local macro_rules
  | `(tactic| walk_at "compareOp In str str") => zaps [(`Mine.lit_in0, ["M z"]), (`Mine.lit_in1, ["M z"])]
  | `(tactic| walk_at "compareOp NotIn str str") => zaps [(`Mine.lit_nin0, ["M z"]), (`Mine.lit_nin1, ["M z"])]
  | `(tactic| walk_at "call builtin:len") => zap `Mine.lit_len2 ["M z"]
  | `(tactic| walk_at "call builtin:str.index") => zaps [(`Mine.index0, ["M z"]), (`Mine.index1, ["M z"]), (`Mine.index5, ["M z"])]
  | `(tactic| walk_at "subscriptTail Name Name str int") => zst
section
variable {prog : Program} {w : World} {A : Around} {E : Value → Shared → Prop} {s : Shared} {env : Env} {h₀ : Heap} {x : Str} {body : List Stmt} {Q : Flow → Shared → Prop}
def StrRest (prog : Program) (w : World) (A : Around) (E : Value → Shared → Prop) (h₀ : Heap) (env : Env) (x : Str) (body : List Stmt) (Q : Flow → Shared → Prop) (s : Shared) (I : Addr) : List Str → (Str → Option Value) → Prop
  | [], m => ∀ h tk, Fr h₀ env.locals h m → News h₀ env.locals h [] → Q .next { s with heap := h, toks := tk }
  | y :: r, m => ∀ (u : Tok) (it : Obj) h tk, Fr h₀ env.locals h (fun z => if z = x then some (.str y u) else m z) → News h₀ env.locals h [(I, it)] →
      wpAny (model prog w) A (execs body env) (UnrPost h₀ env.locals { s with heap := h, toks := tk } I it (fun m' _ => StrRest prog w A E h₀ env x body Q s I r m') Q) E { s with heap := h, toks := tk }
theorem StrRest.zero {I : Addr} {m : Str → Option Value} (h : ∀ h tk, Fr h₀ env.locals h m → News h₀ env.locals h [] → Q .next { s with heap := h, toks := tk }) : StrRest prog w A E h₀ env x body Q s I [] m := h
theorem StrRest.succ {I : Addr} {y : Str} {r : List Str} {m : Str → Option Value}
    (h : ∀ (u : Tok) (it : Obj) h tk, Fr h₀ env.locals h (fun z => if z = x then some (.str y u) else m z) → News h₀ env.locals h [(I, it)] →
      wpAny (model prog w) A (execs body env) (UnrPost h₀ env.locals { s with heap := h, toks := tk } I it (fun m' _ => StrRest prog w A E h₀ env x body Q s I r m') Q) E { s with heap := h, toks := tk }) :
    StrRest prog w A E h₀ env x body Q s I (y :: r) m := h
theorem StrEnd {h₀ : Heap} {L I : Addr} {it : Obj} {rest : (Str → Option Value) → List (Addr × Obj) → Prop} {s₁ : Shared} {h' : Heap} {tk : Nat} {m' : Str → Option Value} {all : List (Addr × Obj)} (F : Fr h₀ L h' m') (N : News h₀ L h' all) (hI : (I, it) ∈ all) (r : rest m' []) :
    UnrEnd h₀ L s₁ I it rest { s₁ with heap := h', toks := tk } := UnrEnd.intro F N [] (fun p hp => by rcases List.mem_cons.mp hp with rfl | hp; exact hI; cases hp) (fun p hp => nomatch hp) r
theorem iter_strUnr {z : Str} {t : Tok} {ys : List Str} {m₀ : Str → Option Value}
    (hh : A.handled = none) (ha : z.cps.all (· < 128) = true) (hys : z.cps.toList.map (fun c => (⟨#[c]⟩ : Str)) = ys) (F : Fr h₀ env.locals s.heap m₀)
    (rest₀ : ∀ I : Addr, StrRest prog w A E h₀ env x body Q s I ys m₀) :
    wpAny (model prog w) A (pyIter (.str z t)) (fun it s₂ => LoopAtV prog w A h₀ env x body Q E it s₂) E s := by
  refine wpAny_pyIter_ascii ha ?_
  have rest := rest₀ s.heap.objs.size
  have W := Walks.strAscii (prog := prog) (w := w) hh s.heap.objs.size z t
  have hnew := next_is_new F
  let J : Nat → (Str → Option Value) → List (Addr × Obj) → Prop := fun i m₁ news₁ => news₁ = [] ∧ StrRest prog w A E h₀ env x body Q s s.heap.objs.size (ys.drop i) m₁
  refine ⟨_, _, _, z.cps.size, _, _, m₀, [], J, rfl, W, ?_, ?_, ?_, ⟨_, Heap.get?_push_size _ rfl, rfl, rfl⟩, F.push _, (fun p hp => nomatch hp), ⟨rfl, by rw [List.drop_zero]; exact rest⟩, ?_, ?_⟩
  · intro hmm
    exact absurd F.ns.lt ((List.mem_singleton.mp hmm) ▸ Nat.lt_irrefl _)
  · intro b hb
    rw [List.mem_singleton.mp hb]
    exact hnew
  · intro p hp
    cases hp
  · rintro i v m₁ news₁ s₁ own ⟨hh', tk', rfl⟩ hin hP ⟨rfl, hJ⟩ hoff hown hget hall hst F₁ N₁
    obtain ⟨it, hit, hic, hid⟩ := hst
    have hmemI := hall s.heap.objs.size (List.mem_cons_self ..) hnew _ hit
    obtain ⟨c, u, hc, rfl⟩ := hP
    have hdrop : ys.drop i = ⟨#[c]⟩ :: ys.drop (i + 1) := by
      have hl : i < ys.length := by rw [← hys, List.length_map, Array.length_toList]; exact hin
      have hv : ys[i]? = some (⟨#[c]⟩ : Str) := by rw [← hys, List.getElem?_map, Array.getElem?_toList, hc]; rfl
      rw [List.drop_eq_getElem_cons hl]
      congr 1
      exact Option.some.inj ((List.getElem?_eq_getElem hl).symm.trans hv)
    rw [hdrop] at hJ
    have N₂ : News h₀ env.locals hh' [(s.heap.objs.size, it)] := fun p hp => by
      rcases List.mem_cons.mp hp with rfl | hp
      · exact N₁ _ (List.mem_append_left _ hmemI)
      · cases hp
    refine wpAny_mono (hJ u it hh' tk' F₁ N₂) (fun f s₂ p => ?_) fun _ _ e => e
    have fin : UnrEnd h₀ env.locals { s with heap := hh', toks := tk' } s.heap.objs.size it (fun m' _ => StrRest prog w A E h₀ env x body Q s s.heap.objs.size (ys.drop (i + 1)) m') s₂ →
        LoopStepU h₀ env.locals [s.heap.objs.size] own (J (i + 1)) { s with heap := hh', toks := tk' } .next s₂ := by
      rintro ⟨h', tk, m', news', e, F', N', ho, r⟩
      refine ⟨rfl, h', tk, m', [], e, F', fun p hp => ?_, (fun p hp => nomatch hp), rfl, r⟩
      rw [List.append_nil] at hp
      have h2 : hh'.get? p.1 = some p.2 := hget p hp
      have h1 := List.mem_singleton.mp (hown p hp)
      have h3 : p = (s.heap.objs.size, it) := by
        rw [h1, hit] at h2
        exact Prod.ext h1 (Option.some.inj h2).symm
      rw [h3]; exact N' _ (List.mem_cons_self ..)
    cases f with
    | ret v => exact .ret p
    | brk => exact .brk p
    | next => exact .next (fin p)
    | cont => exact .cont (fin p)
  · rintro h' tk m' news' F' N' _ ⟨rfl, hJ⟩
    have zz : ys.drop z.cps.size = [] := by
      have : ys.length = z.cps.size := by rw [← hys, List.length_map, Array.length_toList]
      rw [← this]; exact List.drop_length
    rw [zz] at hJ
    exact hJ h' tk F' N'
end
section
local macro_rules
  | `(tactic| walk_at "exec For Name Name cons nil") => zst
  | `(tactic| walk_at "pyIter str") => zst
  | `(tactic| walk_at "UnrEnd") => zst
  | `(tactic| walk_at "StrRest") => zaps [(`Mine.StrRest.succ, ["M s"]), (`Mine.StrRest.zero, ["M s"])]
variable {w : World} {A : Around} {s : Shared} {base h₀ : Heap} {L : Addr} {m : Str → Option Value} {news : List (Addr × Obj)} {Q E : Value → Shared → Prop}
theorem c_worth1 {x : Str} {u : Nat} (hx : x = "01") (C : Cx w A base h₀ L m s.heap news 2)
    (h : ∀ t h' tk', Fr h₀ L h' m → News h₀ L h' news → Q (.int 1 t) { s with heap := h', toks := tk' }) : wpAny (model PG w) A (call (.ref 429) [.str x u]) Q E s := by
  subst hx
  refine' enterX [("figures", .str "01" u)] [] C (fun _ h => (nomatch h)) ?k6 ?k7 ?k9 ?kB ?_
  case k6 => k_is
  case k7 => k_is
  case k9 => exact BindsTo.of_eq rfl
  walk_at "M sides"
  intro dp fr gd un Q₁ E₁ g L' h₁ tk env outer mean mg mb eA hQ hE₁ hPO ret retU FG st F' N' B' X' T' lt room hg
  (try dsimp only [AA] at room)
  (try dsimp only)
  (try k_fold)
  k_steps
  refine Hold.mk ?_
  (rename Fr _ _ _ _ => lF')
  (with_unfolding_all refine' For_invVF lF' ?k1 ?k2 ?_; (case k1 => exact rfl); (case k2 => exact rfl); k_whole)
  k_steps
  refine Hold.mk ?_
  (rename Fr _ _ _ _ => lF')
  (refine iter_strUnr (ys := ["0", "1"]) (by rfl) (by decide +kernel) (by decide +kernel) lF' (fun i' => ?_))
  k_steps
  refine Hold.mk ?_
  refine StrEnd (by k_asm) (by k_asm) (by k_mem) ?_
  k_steps
  refine Hold.mk ?_
  refine StrEnd (by k_asm) (by k_asm) (by k_mem) ?_
  k_steps
  all_goals (try with_reducible refine hQ _ _ ?_)
  all_goals (try dsimp only)
  (with_reducible rename Fr g _ _ _ => kF)
  (with_reducible rename News g _ _ _ => kN)
  exact (ret _ _ _ kF (cb_drop kN (by k_sub))).elim fun a b => h _ _ _ a b
theorem c_worth5 {x : Str} {u : Nat} (hx : x = "05") (C : Cx w A base h₀ L m s.heap news 2)
    (h : ∀ t h' tk', Fr h₀ L h' m → News h₀ L h' news → Q (.int 5 t) { s with heap := h', toks := tk' }) : wpAny (model PG w) A (call (.ref 429) [.str x u]) Q E s := by
  subst hx
  refine' enterX [("figures", .str "05" u)] [] C (fun _ h => (nomatch h)) ?k6 ?k7 ?k9 ?kB ?_
  case k6 => k_is
  case k7 => k_is
  case k9 => exact BindsTo.of_eq rfl
  walk_at "M sides"
  intro dp fr gd un Q₁ E₁ g L' h₁ tk env outer mean mg mb eA hQ hE₁ hPO ret retU FG st F' N' B' X' T' lt room hg
  (try dsimp only [AA] at room)
  (try dsimp only)
  (try k_fold)
  k_steps
  refine Hold.mk ?_
  (rename Fr _ _ _ _ => lF')
  (with_unfolding_all refine' For_invVF lF' ?k1 ?k2 ?_; (case k1 => exact rfl); (case k2 => exact rfl); k_whole)
  k_steps
  refine Hold.mk ?_
  (rename Fr _ _ _ _ => lF')
  (refine iter_strUnr (ys := ["0", "5"]) (by rfl) (by decide +kernel) (by decide +kernel) lF' (fun i' => ?_))
  k_steps
  refine Hold.mk ?_
  refine StrEnd (by k_asm) (by k_asm) (by k_mem) ?_
  k_steps
  refine Hold.mk ?_
  refine StrEnd (by k_asm) (by k_asm) (by k_mem) ?_
  k_steps
  all_goals (try with_reducible refine hQ _ _ ?_)
  all_goals (try dsimp only)
  (with_reducible rename Fr g _ _ _ => kF)
  (with_reducible rename News g _ _ _ => kN)
  exact (ret _ _ _ kF (cb_drop kN (by k_sub))).elim fun a b => h _ _ _ a b
end
theorem zz6 : Hold True := by first | walk1 | exact ⟨trivial⟩
local macro_rules | `(tactic| walk_at "call ref") => zaps [(`Mine.c_worth1, ["M z", "M s"]), (`Mine.c_worth5, ["M z", "M s"])]
section
local macro_rules | `(tactic| walk_at "exec While") => zst
variable {w : World} {A : Around} {s : Shared} {base h₀ : Heap} {L : Addr} {m : Str → Option Value} {news : List (Addr × Obj)} {Q E : Value → Shared → Prop}
abbrev tupO (a b : Value) : Obj := { cls := .type "tuple", data := .seq #[a, b] }
theorem c_decimal {i : Int} {ti tz : Nat} (C : Cx w A base h₀ L m s.heap news 3)
    (h : ∀ p t1 t2 h' tk', Fr h₀ L h' m → News h₀ L h' ((p, tupO (.int i t1) (.int 0 t2)) :: news) → AllAp p news → Q (.ref p) { s with heap := h', toks := tk' }) : wpAny (model PG w) A (call (.ref 394) [.int i ti, .int 0 tz]) Q E s := by
  refine' enterX [("units", .int i ti), ("scale", .int 0 tz)] [] C (fun _ h => (nomatch h)) ?k6 ?k7 ?k9 ?kB ?_
  case k6 => k_is
  case k7 => k_is
  case k9 => walk_at "M bindK"
  walk_at "M sides"
  intro dp fr gd un Q₁ E₁ g L' h₁ tk env outer mean mg mb eA hQ hE₁ hPO ret retU FG st F' N' B' X' T' lt room hg
  (try dsimp only [AA] at room)
  (try dsimp only)
  (try k_fold)
  k_steps
  refine Hold.mk ?_
  k_dflt (refine whl_start 4 ?_)
  k_steps
  all_goals (try with_reducible refine hQ _ _ ?_)
  all_goals (try dsimp only)
  (with_reducible rename Fr g _ _ _ => kF)
  (with_reducible rename News g _ _ _ => kN)
  have B := backNew (m'' := m) C hg FG st kN [_] (fun p hp => by
    rcases List.mem_cons.mp hp with rfl | hp
    · exact ⟨.head _, fun q => nomatch q⟩
    · cases hp)
  exact h _ _ _ _ _ (FG.kept kF.keep) (news_app B.1 (ret _ _ _ kF (cb_drop kN (by k_sub))).2) (allAp_of fun q hq => B.2 q hq _ (.head _))
theorem c_iswhole {i : Int} {p : Addr} {t1 t2 : Nat} (C : Cx w A base h₀ L m s.heap news 2) (hp : (p, tupO (.int i t1) (.int 0 t2)) ∈ news)
    (h : ∀ h' tk', Fr h₀ L h' m → News h₀ L h' news → Q (.bool true) { s with heap := h', toks := tk' }) : wpAny (model PG w) A (call (.ref 415) [.ref p]) Q E s := by
  refine' enterX [("a", .ref p)] [] C (fun _ h => (nomatch h)) ?k6 ?k7 ?k9 ?kB ?_
  case k6 => k_is
  case k7 => k_is
  case k9 => exact BindsTo.of_eq rfl
  walk_at "M sides"
  intro dp fr gd un Q₁ E₁ g L' h₁ tk env outer mean mg mb eA hQ hE₁ hPO ret retU FG st F' N' B' X' T' lt room hg
  (try dsimp only [AA] at room)
  (try dsimp only)
  (try k_fold)
  have hg0 := hg p _ (C.N _ hp).1 (fun q => nomatch q)
  have hT : IsTup g p #[.int i t1, .int 0 t2] := ⟨_, hg0, rfl, _, rfl⟩
  k_steps
  all_goals (try with_reducible refine hQ _ _ ?_)
  all_goals (try dsimp only)
  (with_reducible rename Fr g _ _ _ => kF)
  (with_reducible rename News g _ _ _ => kN)
  exact (ret _ _ _ kF (cb_drop kN (by k_sub))).elim fun a b => h _ _ a b
theorem c_unitsat {i : Int} {p : Addr} {t1 t2 t3 : Nat} (C : Cx w A base h₀ L m s.heap news 2) (hp : (p, tupO (.int i t1) (.int 0 t2)) ∈ news) (hi : 0 ≤ i ∧ i < 100)
    (h : ∀ t h' tk', Fr h₀ L h' m → News h₀ L h' news → Q (.int i t) { s with heap := h', toks := tk' }) : wpAny (model PG w) A (call (.ref 408) [.ref p, .int 0 t3, .bool false]) Q E s := by
  refine' enterX [("a", .ref p), ("scale", .int 0 t3), ("is_rounded", .bool false)] [] C (fun _ h => (nomatch h)) ?k6 ?k7 ?k9 ?kB ?_
  case k6 => k_is
  case k7 => k_is
  case k9 => exact BindsTo.of_eq rfl
  walk_at "M sides"
  intro dp fr gd un Q₁ E₁ g L' h₁ tk env outer mean mg mb eA hQ hE₁ hPO ret retU FG st F' N' B' X' T' lt room hg
  (try dsimp only [AA] at room)
  (try dsimp only)
  (try k_fold)
  have hg0 := hg p _ (C.N _ hp).1 (fun q => nomatch q)
  have hT : IsTup g p #[.int i t1, .int 0 t2] := ⟨_, hg0, rfl, _, rfl⟩
  have e9 : i * 10 ^ ((0 : Int) - 0).toNat = i := by simp
  have h9 : ∀ t h' tk', Fr h₀ L h' m → News h₀ L h' news → Q (.int (i * 10 ^ ((0 : Int) - 0).toNat) t) { s with heap := h', toks := tk' } := by simpa only [e9] using h
  k_steps
  all_goals (try with_reducible refine hQ _ _ ?_)
  all_goals (try dsimp only)
  (with_reducible rename Fr g _ _ _ => kF)
  (with_reducible rename News g _ _ _ => kN)
  exact (ret _ _ _ kF (cb_drop kN (by k_sub))).elim fun a b => h9 _ _ _ a b
end
theorem zz7 : Hold True := by first | walk1 | exact ⟨trivial⟩
local macro_rules | `(tactic| walk_at "call ref") => zaps [(`Mine.c_iswhole, ["M z", "M s"]), (`Mine.c_unitsat, ["M z", "M s"])]
section
local macro_rules | `(tactic| walk_at "call ref") => zstR 394
variable {w : World} {A : Around} {s : Shared} {base h₀ : Heap} {L : Addr} {m : Str → Option Value} {news : List (Addr × Obj)} {Q E : Value → Shared → Prop}
theorem c_wholeof {i : Int} {p : Addr} {t1 t2 : Nat} (C : Cx w A base h₀ L m s.heap news 4) (hp : (p, tupO (.int i t1) (.int 0 t2)) ∈ news) (hi : 0 ≤ i ∧ i < 100)
    (h : ∀ t h' tk', Fr h₀ L h' m → News h₀ L h' news → Q (.int i t) { s with heap := h', toks := tk' }) : wpAny (model PG w) A (call (.ref 422) [.ref p]) Q E s := by
  refine' enterX [("a", .ref p)] [(p, tupO (.int i t1) (.int 0 t2))] C (fun q hq => by rcases List.mem_cons.mp hq with rfl | hq; exact hp; cases hq) ?k6 ?k7 ?k9 ?kB ?_
  case k6 => k_is
  case k7 => k_is
  case k9 => exact BindsTo.of_eq rfl
  walk_at "M sides"
  intro dp fr gd un Q₁ E₁ g L' h₁ tk env outer mean mg mb eA hQ hE₁ hPO ret retU FG st F' N' B' X' T' lt room hg
  (try dsimp only [AA] at room)
  (try dsimp only)
  (try k_fold)
  k_steps
  all_goals (try with_reducible refine hQ _ _ ?_)
  all_goals (try dsimp only)
  (with_reducible rename Fr g _ _ _ => kF)
  (with_reducible rename News g _ _ _ => kN)
  exact (ret _ _ _ kF (cb_drop kN (by k_sub))).elim fun a b => h _ _ _ a b
theorem c_readdec1 {x : Str} {u : Nat} (hx : x = "01") (C : Cx w A base h₀ L m s.heap news 5)
    (h : ∀ p t1 t2 h' tk', Fr h₀ L h' m → News h₀ L h' ((p, tupO (.int 1 t1) (.int 0 t2)) :: news) → AllAp p news → Q (.ref p) { s with heap := h', toks := tk' }) : wpAny (model PG w) A (call (.ref 436) [.str x u]) Q E s := by
  subst hx
  refine' enterX [("text", .str "01" u)] [] C (fun _ h => (nomatch h)) ?k6 ?k7 ?k9 ?kB ?_
  case k6 => k_is
  case k7 => k_is
  case k9 => exact BindsTo.of_eq rfl
  walk_at "M sides"
  intro dp fr gd un Q₁ E₁ g L' h₁ tk env outer mean mg mb eA hQ hE₁ hPO ret retU FG st F' N' B' X' T' lt room hg
  (try dsimp only [AA] at room)
  (try dsimp only)
  (try k_fold)
  k_steps
  refine Hold.mk ?_
  (with_unfolding_all refine' lit_item (y := "0") ?e ?k1 ?k2 ?k3 ?_ ?k6 ?k7; (case e => decide +kernel); (case k1 => decide +kernel); (case k2 => decide +kernel); (case k3 => decide +kernel); (case k6 => with_unfolding_all rfl); (case k7 => intro _; with_unfolding_all rfl); k_whole)
  k_steps
  refine Hold.mk ?_
  (with_unfolding_all refine' lit_item (y := "1") ?e ?k1 ?k2 ?k3 ?_ ?k6 ?k7; (case e => decide +kernel); (case k1 => decide +kernel); (case k2 => decide +kernel); (case k3 => decide +kernel); (case k6 => with_unfolding_all rfl); (case k7 => intro _; with_unfolding_all rfl); k_whole)
  k_steps
  refine Hold.mk ?_
  apply c_decimal
  walk_at "M z"
  walk_at "M s"
  k_steps
  all_goals (try with_reducible refine hQ _ _ ?_)
  all_goals (try dsimp only)
  (with_reducible rename Fr g _ _ _ => kF)
  (with_reducible rename News g _ _ _ => kN)
  have B := backNew (m'' := m) C hg FG st kN [_] (fun p hp => by
    rcases List.mem_cons.mp hp with rfl | hp
    · exact ⟨.head _, fun q => nomatch q⟩
    · cases hp)
  exact h _ _ _ _ _ (FG.kept kF.keep) (news_app B.1 (ret _ _ _ kF (cb_drop kN (by k_sub))).2) (allAp_of fun q hq => B.2 q hq _ (.head _))
theorem c_readdec5 {x : Str} {u : Nat} (hx : x = "05") (C : Cx w A base h₀ L m s.heap news 5)
    (h : ∀ p t1 t2 h' tk', Fr h₀ L h' m → News h₀ L h' ((p, tupO (.int 5 t1) (.int 0 t2)) :: news) → AllAp p news → Q (.ref p) { s with heap := h', toks := tk' }) : wpAny (model PG w) A (call (.ref 436) [.str x u]) Q E s := by
  subst hx
  refine' enterX [("text", .str "05" u)] [] C (fun _ h => (nomatch h)) ?k6 ?k7 ?k9 ?kB ?_
  case k6 => k_is
  case k7 => k_is
  case k9 => exact BindsTo.of_eq rfl
  walk_at "M sides"
  intro dp fr gd un Q₁ E₁ g L' h₁ tk env outer mean mg mb eA hQ hE₁ hPO ret retU FG st F' N' B' X' T' lt room hg
  (try dsimp only [AA] at room)
  (try dsimp only)
  (try k_fold)
  k_steps
  refine Hold.mk ?_
  (with_unfolding_all refine' lit_item (y := "0") ?e ?k1 ?k2 ?k3 ?_ ?k6 ?k7; (case e => decide +kernel); (case k1 => decide +kernel); (case k2 => decide +kernel); (case k3 => decide +kernel); (case k6 => with_unfolding_all rfl); (case k7 => intro _; with_unfolding_all rfl); k_whole)
  k_steps
  refine Hold.mk ?_
  (with_unfolding_all refine' lit_item (y := "5") ?e ?k1 ?k2 ?k3 ?_ ?k6 ?k7; (case e => decide +kernel); (case k1 => decide +kernel); (case k2 => decide +kernel); (case k3 => decide +kernel); (case k6 => with_unfolding_all rfl); (case k7 => intro _; with_unfolding_all rfl); k_whole)
  k_steps
  refine Hold.mk ?_
  apply c_decimal
  walk_at "M z"
  walk_at "M s"
  k_steps
  all_goals (try with_reducible refine hQ _ _ ?_)
  all_goals (try dsimp only)
  (with_reducible rename Fr g _ _ _ => kF)
  (with_reducible rename News g _ _ _ => kN)
  have B := backNew (m'' := m) C hg FG st kN [_] (fun p hp => by
    rcases List.mem_cons.mp hp with rfl | hp
    · exact ⟨.head _, fun q => nomatch q⟩
    · cases hp)
  exact h _ _ _ _ _ (FG.kept kF.keep) (news_app B.1 (ret _ _ _ kF (cb_drop kN (by k_sub))).2) (allAp_of fun q hq => B.2 q hq _ (.head _))
end
theorem zz8 : Hold True := by first | walk1 | exact ⟨trivial⟩
set_option maxHeartbeats 0
local macro_rules | `(tactic| walk_at "call ref") => zaps [(`Mine.c_readdec1, ["M z", "M s"]), (`Mine.c_readdec5, ["M z", "M s"]), (`Mine.c_wholeof, ["M z", "M s"])]
section
variable {w : World} {A : Around} {s : Shared} {base h₀ : Heap} {L : Addr} {m : Str → Option Value} {news news' : List (Addr × Obj)} {Q E : Value → Shared → Prop} {r dr l nd : Addr} {k : RK} {a : Int} {ta : Nat} {ts : List TK}
theorem c_whole1 {t : TK} (C : Cx w A base h₀ L m s.heap news 7) (hr : (r, instObj 617 dr) ∈ news) (hd : (dr, rdD k l nd a ta) ∈ news) (hT : Toks h₀ l ts) (ha : 0 ≤ a) (hx : ts[(a + 0).toNat]? = some t) (hk : (t.kind == "number") = true) (hz : t.worth = "01")
    (h : ∀ t9 ta' h' tk', Fr h₀ L h' m → (∀ news', Upd dr (rdD k l nd a ta) (rdD k l nd (a + 1) ta') news news' → News h₀ L h' news') → Q (.int 1 t9) { s with heap := h', toks := tk' }) : wpAny (model PG w) A (call (.ref 600) [.ref r]) Q E s := by
  refine' enterX [("self", .ref r)] [(r, instObj 617 dr), (dr, rdD k l nd a ta)] C (sub2 hr hd) ?k6 ?k7 ?k9 ?kB ?_
  case k6 => k_is
  case k7 => k_is
  case k9 => exact BindsTo.of_eq rfl
  walk_at "M sides"
  intro dp fr gd un Q₁ E₁ g L' h₁ tk env outer mean mg mb eA hQ hE₁ hPO ret retU FG st F' N' B' X' T' lt room hg
  k_lt lt
  (try dsimp only [AA] at room)
  have hT' := hT.keeps st
  have hne := rd_ne N'
  (try dsimp only)
  (try k_fold)
  have hkk : kindIs ts (a + 0) "number" = true := by unfold kindIs; rw [hx]; exact hk
  have hp : pk ts (a + 0) = .ref t.x := pk_some hx
  have hI := hT'.inst t (List.mem_of_getElem? hx)
  k_steps
  all_goals (try with_reducible refine hQ _ _ ?_)
  all_goals (try dsimp only)
  (with_reducible rename Fr g _ _ _ => kF)
  (with_reducible rename News g _ _ _ => kN)
  refine h _ _ _ _ (FG.kept kF.keep) fun _ U => (retU _ _ _ [(r, instObj 617 dr), (dr, _)] _ _ _ _ kF (cb_drop kN (by k_sub)) U (.tail _ (.head _)) (fun p hp ne => ?_)).2
  rcases List.mem_cons.mp hp with rfl | hp
  · exact .head _
  · rcases List.mem_cons.mp hp with rfl | hp
    · exact absurd rfl ne
    · cases hp
theorem c_whole5 {t : TK} (C : Cx w A base h₀ L m s.heap news 7) (hr : (r, instObj 617 dr) ∈ news) (hd : (dr, rdD k l nd a ta) ∈ news) (hT : Toks h₀ l ts) (ha : 0 ≤ a) (hx : ts[(a + 0).toNat]? = some t) (hk : (t.kind == "number") = true) (hz : t.worth = "05")
    (h : ∀ t9 ta' h' tk', Fr h₀ L h' m → (∀ news', Upd dr (rdD k l nd a ta) (rdD k l nd (a + 1) ta') news news' → News h₀ L h' news') → Q (.int 5 t9) { s with heap := h', toks := tk' }) : wpAny (model PG w) A (call (.ref 600) [.ref r]) Q E s := by
  refine' enterX [("self", .ref r)] [(r, instObj 617 dr), (dr, rdD k l nd a ta)] C (sub2 hr hd) ?k6 ?k7 ?k9 ?kB ?_
  case k6 => k_is
  case k7 => k_is
  case k9 => exact BindsTo.of_eq rfl
  walk_at "M sides"
  intro dp fr gd un Q₁ E₁ g L' h₁ tk env outer mean mg mb eA hQ hE₁ hPO ret retU FG st F' N' B' X' T' lt room hg
  k_lt lt
  (try dsimp only [AA] at room)
  have hT' := hT.keeps st
  have hne := rd_ne N'
  (try dsimp only)
  (try k_fold)
  have hkk : kindIs ts (a + 0) "number" = true := by unfold kindIs; rw [hx]; exact hk
  have hp : pk ts (a + 0) = .ref t.x := pk_some hx
  have hI := hT'.inst t (List.mem_of_getElem? hx)
  k_steps
  all_goals (try with_reducible refine hQ _ _ ?_)
  all_goals (try dsimp only)
  (with_reducible rename Fr g _ _ _ => kF)
  (with_reducible rename News g _ _ _ => kN)
  refine h _ _ _ _ (FG.kept kF.keep) fun _ U => (retU _ _ _ [(r, instObj 617 dr), (dr, _)] _ _ _ _ kF (cb_drop kN (by k_sub)) U (.tail _ (.head _)) (fun p hp ne => ?_)).2
  rcases List.mem_cons.mp hp with rfl | hp
  · exact .head _
  · rcases List.mem_cons.mp hp with rfl | hp
    · exact absurd rfl ne
    · cases hp
end
set_option maxHeartbeats 1500000
theorem updF_at {d : Addr} {o o' : Obj} {l : List (Addr × Obj)} {g : Obj → List (Addr × Obj)} (U : UpdF d o l g) : Upd d o o' l (g o') := by
  induction U with
  | head h => exact .head h
  | tail h _ ih => exact .tail h ih
section
variable {w : World} {A : Around} {s : Shared} {h₀ : Heap} {L : Addr} {m : Str → Option Value} {news : List (Addr × Obj)} {g : Obj → List (Addr × Obj)} {E : Value → Shared → Prop} {x dx cl kl : Addr} {es : List DictEntry} {lv : Int} {t : Nat} {nm : Str} {u : Nat} {expr : Bool}
theorem it_level {Q : Value → Shared → Prop} (F : Fr h₀ L s.heap m) (X₀ : (KK w.params).In h₀) (N : News h₀ L s.heap news) (hx : (x, instObj 188 dx) ∈ news) (hd : (dx, dictOf es 19) ∈ news) (he : ItemEs w.params lv t nm u cl kl es) (h : Q (.int lv t) { s with toks := s.toks + 1 }) :
    wpAny (model PG w) A (getAttr (.ref x) "level" expr) Q E s := by
  obtain ⟨k, uv, pv, u2, u3, u4, z1, z2, rfl⟩ := he
  exact get_own (attr := none) F X₀ (InstAt.of_news N hx hd) (by k_is) (by k_is) (by k_is) (by k_is) (by k_get) (by k_handed) h
theorem it_name {Q : Value → Shared → Prop} (F : Fr h₀ L s.heap m) (X₀ : (KK w.params).In h₀) (N : News h₀ L s.heap news) (hx : (x, instObj 188 dx) ∈ news) (hd : (dx, dictOf es 19) ∈ news) (he : ItemEs w.params lv t nm u cl kl es) (h : Q (.str nm u) { s with toks := s.toks + 1 }) :
    wpAny (model PG w) A (getAttr (.ref x) "name" expr) Q E s := by
  obtain ⟨k, uv, pv, u2, u3, u4, z1, z2, rfl⟩ := he
  exact get_own (attr := none) F X₀ (InstAt.of_news N hx hd) (by k_is) (by k_is) (by k_is) (by k_is) (by k_get) (by k_handed) h
theorem it_conditions {Q : Value → Shared → Prop} (F : Fr h₀ L s.heap m) (X₀ : (KK w.params).In h₀) (N : News h₀ L s.heap news) (hx : (x, instObj 188 dx) ∈ news) (hd : (dx, dictOf es 19) ∈ news) (he : ItemEs w.params lv t nm u cl kl es) (h : Q (.ref cl) { s with toks := s.toks + 1 }) :
    wpAny (model PG w) A (getAttr (.ref x) "conditions" expr) Q E s := by
  obtain ⟨k, uv, pv, u2, u3, u4, z1, z2, rfl⟩ := he
  exact get_own (attr := none) F X₀ (InstAt.of_news N hx hd) (by k_is) (by k_is) (by k_is) (by k_is) (by k_get) (by k_handed) h
theorem it_kids {Q : Value → Shared → Prop} (F : Fr h₀ L s.heap m) (X₀ : (KK w.params).In h₀) (N : News h₀ L s.heap news) (hx : (x, instObj 188 dx) ∈ news) (hd : (dx, dictOf es 19) ∈ news) (he : ItemEs w.params lv t nm u cl kl es) (h : Q (.ref kl) { s with toks := s.toks + 1 }) :
    wpAny (model PG w) A (getAttr (.ref x) "kids" expr) Q E s := by
  obtain ⟨k, uv, pv, u2, u3, u4, z1, z2, rfl⟩ := he
  exact get_own (attr := none) F X₀ (InstAt.of_news N hx hd) (by k_is) (by k_is) (by k_is) (by k_is) (by k_get) (by k_handed) h
theorem it_set_name {y : Str} {v : Nat} {Q : Unit → Shared → Prop} (F : Fr h₀ L s.heap m) (X₀ : (KK w.params).In h₀) (N : News h₀ L s.heap news) (hx : (x, instObj 188 dx) ∈ news) (hd : (dx, dictOf es 19) ∈ news) (he : ItemEs w.params lv t nm u cl kl es) (U : UpdF dx (dictOf es 19) news g)
    (h : ∀ es' h', ItemEs w.params lv t y v cl kl es' → Fr h₀ L h' m → News h₀ L h' (g (dictOf es' 19)) → Q () { s with heap := h', toks := s.toks + 2 }) :
    wpAny (model PG w) A (setAttr (.ref x) "name" (.str y v)) Q E s := by
  obtain ⟨k, uv, pv, u2, u3, u4, z1, z2, rfl⟩ := he
  refine' set_dict F X₀ N (InstAt.of_news N hx hd) rfl ?k6 ?k7 ?k8 ?k9 ?k10 ?k11 (updF_at U) ?k13 ?_
  case k6 => k_is
  case k7 => k_is
  case k8 => k_is
  case k9 => k_is
  case k10 => k_get
  case k11 => k_put
  case k13 => exact Nat.le_of_ble_eq_true rfl
  intro h' F' N'
  exact h _ h' ⟨fun i => [_, _, _, _, _, _, _, _, _, _, _, _, _, _, _, _, _, _, _].get i, _, _, _, _, _, _, _, rfl⟩ F' N'
theorem it_set_parent {y : Addr} {Q : Unit → Shared → Prop} (F : Fr h₀ L s.heap m) (X₀ : (KK w.params).In h₀) (N : News h₀ L s.heap news) (hx : (x, instObj 188 dx) ∈ news) (hd : (dx, dictOf es 19) ∈ news) (he : ItemEs w.params lv t nm u cl kl es) (U : UpdF dx (dictOf es 19) news g)
    (h : ∀ es' h', ItemEs w.params lv t nm u cl kl es' → Fr h₀ L h' m → News h₀ L h' (g (dictOf es' 19)) → Q () { s with heap := h', toks := s.toks + 2 }) :
    wpAny (model PG w) A (setAttr (.ref x) "parent" (.ref y)) Q E s := by
  obtain ⟨k, uv, pv, u2, u3, u4, z1, z2, rfl⟩ := he
  refine' set_dict F X₀ N (InstAt.of_news N hx hd) rfl ?k6 ?k7 ?k8 ?k9 ?k10 ?k11 (updF_at U) ?k13 ?_
  case k6 => k_is
  case k7 => k_is
  case k8 => k_is
  case k9 => k_is
  case k10 => k_get
  case k11 => k_put
  case k13 => exact Nat.le_of_ble_eq_true rfl
  intro h' F' N'
  exact h _ h' ⟨fun i => [_, _, _, _, _, _, _, _, _, _, _, _, _, _, _, _, _, _, _].get i, _, _, _, _, _, _, _, rfl⟩ F' N'
theorem it_add {Q : Value × List Value → Shared → Prop} {pl : Sem Bool} (F : Fr h₀ L s.heap m) (X₀ : (KK w.params).In h₀) (N : News h₀ L s.heap news) (hx : (x, instObj 188 dx) ∈ news) (hd : (dx, dictOf es 19) ∈ news) (he : ItemEs w.params lv t nm u cl kl es) (h : Q (.ref 166, [.ref x]) s) :
    wpAny (model PG w) A (getMethod (.ref x) "add" pl) Q E s := by
  obtain ⟨k, uv, pv, u2, u3, u4, z1, z2, rfl⟩ := he
  refine' method_inst F X₀ (InstAt.of_news N hx hd) ?k4 ?k5 ?k6 ?k7 h
  case k4 => k_is
  case k5 => k_is
  case k6 => k_is
  case k7 => k_get
end
set_option maxHeartbeats 1500000
theorem allAp2 {a b : Addr} {l : List (Addr × Obj)} (h : ∀ q ∈ l, q.1 ≠ a ∧ q.1 ≠ b) : AllAp a l ∧ AllAp b l := ⟨allAp_of fun q hq => (h q hq).1, allAp_of fun q hq => (h q hq).2⟩
theorem ItemEs.len {P : Params} {lv : Int} {t : Nat} {nm : Str} {u : Nat} {cl kl : Addr} {es : List DictEntry} (h : ItemEs P lv t nm u cl kl es) : es.length = 19 := by obtain ⟨_, _, _, _, _, _, _, _, rfl⟩ := h; rfl
theorem mkitem19 {w : World} {A : Around} {s : Shared} {base h₀ : Heap} {L : Addr} {m : Str → Option Value} {news : List (Addr × Obj)} {Q E : Value → Shared → Prop} {lv : Int} {t : Nat} {nm : Str} {u : Nat} (C : Cx w A base h₀ L m s.heap news 3)
    (h : ∀ x dx es cl kl h' tk', ItemEs w.params lv t nm u cl kl es → Fr h₀ L h' m → News h₀ L h' ((kl, lst #[] 0) :: (cl, lst #[] 0) :: (x, instObj 188 dx) :: (dx, dictOf es 19) :: news) → AllAp cl news → AllAp kl news → AllAp x news → AllAp dx news → Ap cl kl → Ap x cl → Ap x kl → Ap dx cl → Ap dx kl → Ap x dx → Q (.ref x) { s with heap := h', toks := tk' }) :
    wpAny (model PG w) A (call (.ref 188) [.int lv t, .str nm u]) Q E s :=
  c_mkitem C fun x dx es cl kl h' tk' hes F' N' q1 n1 l1 l2 => h x dx es cl kl h' tk' hes F' (hes.len ▸ N') (allAp_of fun q hq => (q1 q (.tail _ (.tail _ hq))).1) (allAp_of fun q hq => (q1 q (.tail _ (.tail _ hq))).2) (allAp_of fun q hq => Nat.ne_of_lt (Nat.lt_trans (l1 q hq) l2)) (allAp_of fun q hq => Nat.ne_of_lt (l1 q hq)) ⟨n1⟩ ⟨(q1 _ (.head _)).1⟩ ⟨(q1 _ (.head _)).2⟩ ⟨(q1 _ (.tail _ (.head _))).1⟩ ⟨(q1 _ (.tail _ (.head _))).2⟩ ⟨Nat.ne_of_gt l2⟩
local macro_rules
  | `(tactic| walk_at "call ref") => zaps [(`Mine.fault9, ["M z", "M s"]), (`Mine.c_whole1, ["M z", "M t9", "M upd"]), (`Mine.c_whole5, ["M z", "M t9", "M upd"]), (`Mine.mkitem19, ["M z", "M s"]), (`Mine.c_clauses0, ["M z", "M s"]), (`Mine.c_clauses1, ["M z", "M u2"]), (`Mine.c_needsign, ["M x"])]
  | `(tactic| walk_at "getAttr ref") => zaps [(`Mine.it_level, ["M z"]), (`Mine.it_name, ["M z"]), (`Mine.it_conditions, ["M z"]), (`Mine.it_kids, ["M z"])]
  | `(tactic| walk_at "getMethod ref") => zap `Mine.it_add ["M z"]
  | `(tactic| walk_at "setAttr ref") => zaps [(`Mine.it_set_name, ["M z", "M s"]), (`Mine.it_set_parent, ["M z", "M s"])]
section
variable {w : World} {A : Around} {s : Shared} {base h₀ : Heap} {L : Addr} {m : Str → Option Value} {news news' : List (Addr × Obj)} {Q E : Value → Shared → Prop} {r dr l nd : Addr} {k : RK} {a : Int} {ta : Nat} {ts : List TK}
theorem c_entry1 {t0 t1 t' : TK} (C : Cx w A base h₀ L m s.heap news 17) (hr : (r, instObj 617 dr) ∈ news) (hd : (dr, rdD k l nd a ta) ∈ news) (hT : Toks h₀ l ts) (ha : 0 ≤ a) (hlen : 0 < ts.length) (hxf : ts[(if (ts.length : Int) - 1 < a then (ts.length : Int) - 1 else a).toNat]? = some t')
    (hx0 : ts[(a + 0).toNat]? = some t0) (hk0 : (t0.kind == "number") = true) (hz0 : t0.worth = "01") (hx1 : ts[(a + 1 + 0).toNat]? = some t1) (hk1 : (t1.kind == "word") = true) (hz1 : t1.worth.length ≤ 100) (hv1 : (!rsv t1.worth) = true)
    (hs : signIs ts (a + 1 + 1 + 0) "." = true)
    (h : ∀ x dx cl kl es t9 ta' h' tk', ItemEs w.params 1 t9 t1.worth t1.k2 cl kl es → Fr h₀ L h' m → (∀ news', Upd dr (rdD k l nd a ta) (rdD k l nd (a + 1 + 1 + 1) ta') news news' → News h₀ L h' ((kl, lst #[] 0) :: (cl, lst #[] 0) :: (x, instObj 188 dx) :: (dx, dictOf es 19) :: news')) → (∀ q ∈ news, (q.1 ≠ cl ∧ q.1 ≠ kl) ∧ q.1 ≠ x ∧ q.1 ≠ dx) → @Ne Nat cl kl → @Ne Nat x cl → @Ne Nat x kl → @Ne Nat dx cl → @Ne Nat dx kl → @Ne Nat x dx → Q (.ref x) { s with heap := h', toks := tk' }) :
    wpAny (model PG w) A (call (.ref 344) [.ref r]) Q E s := by
  refine' enterX [("reader", .ref r)] [(r, instObj 617 dr), (dr, rdD k l nd a ta)] C (sub2 hr hd) ?k6 ?k7 ?k9 ?kB ?_
  case k6 => k_is
  case k7 => k_is
  case k9 => exact BindsTo.of_eq rfl
  walk_at "M sides"
  intro dp fr gd un Q₁ E₁ g L' h₁ tk env outer mean mg mb eA hQ hE₁ hPO ret retU FG st F' N' B' X' T' lt room hg
  k_lt lt
  (try dsimp only [AA] at room)
  have hT' := hT.keeps st
  have hne := rd_ne N'
  (try dsimp only)
  (try k_fold)
  k_steps
  all_goals (try with_reducible refine hQ _ _ ?_)
  all_goals (try dsimp only)
  (with_reducible rename Fr g _ _ _ => kF)
  (with_reducible rename News g _ _ _ => kN)
  have B := backNew (m'' := m) C hg FG st kN [_, _, _, _] (fun p hp => by
    simp only [List.mem_cons, List.not_mem_nil, or_false] at hp
    rcases hp with rfl | rfl | rfl | rfl
    · exact ⟨.head _, nin2 (by k_ne) (by k_ne)⟩
    · exact ⟨.tail _ (.head _), nin2 (by k_ne) (by k_ne)⟩
    · exact ⟨.tail _ (.tail _ (.head _)), nin2 (by k_ne) (by k_ne)⟩
    · exact ⟨.tail _ (.tail _ (.tail _ (.head _))), nin2 (by k_ne) (by k_ne)⟩)
  refine h _ _ _ _ _ _ _ _ _ (by first | assumption | exact ⟨_, _, _, _, _, _, _, _, rfl⟩) (FG.kept kF.keep) (fun news' U => news_app B.1 (retU _ _ _ [(r, instObj 617 dr), (dr, _)] news' _ _ _ kF (cb_drop kN (fun p hp => .tail _ (.tail _ (.tail _ (.tail _ (.tail _ (.tail _ (.tail _ hp)))))))) U (.tail _ (.head _)) (fun p hp np => ?_)).2)
    (fun q hq => ⟨⟨B.2 q hq _ (.tail _ (.head _)), B.2 q hq _ (.head _)⟩, B.2 q hq _ (.tail _ (.tail _ (.head _))), B.2 q hq _ (.tail _ (.tail _ (.tail _ (.head _))))⟩) (by k_ne) (by k_ne) (by k_ne) (by k_ne) (by k_ne) (by k_ne)
  rcases List.mem_cons.mp hp with rfl | hp
  · exact .head _
  · rcases List.mem_cons.mp hp with rfl | hp
    · exact absurd rfl np
    · cases hp
theorem c_entry5 {t0 t1 t' : TK} (C : Cx w A base h₀ L m s.heap news 17) (hr : (r, instObj 617 dr) ∈ news) (hd : (dr, rdD k l nd a ta) ∈ news) (hT : Toks h₀ l ts) (ha : 0 ≤ a) (hlen : 0 < ts.length) (hxf : ts[(if (ts.length : Int) - 1 < a then (ts.length : Int) - 1 else a).toNat]? = some t')
    (hx0 : ts[(a + 0).toNat]? = some t0) (hk0 : (t0.kind == "number") = true) (hz0 : t0.worth = "05") (hx1 : ts[(a + 1 + 0).toNat]? = some t1) (hk1 : (t1.kind == "word") = true) (hz1 : t1.worth.length ≤ 100) (hv1 : (!rsv t1.worth) = true)
    (hs : signIs ts (a + 1 + 1 + 0) "." = false) {tx : TK} (hp : pk ts (a + 1 + 1 + 0) = .ref tx.x) (hW : ∀ x, wordIs ts (a + 1 + 1 + 0) x = (("BINARY" : Str) == x)) (hs1 : signIs ts (a + 1 + 1 + 1 + 0) "." = true)
    (h : ∀ x dx cl kl es t9 ta' h' tk', ItemEs w.params 5 t9 t1.worth t1.k2 cl kl es → Fr h₀ L h' m → (∀ news', Upd dr (rdD k l nd a ta) (rdD k l nd (a + 1 + 1 + 1 + 1) ta') news news' → News h₀ L h' ((kl, lst #[] 0) :: (cl, lst #[] 0) :: (x, instObj 188 dx) :: (dx, dictOf es 19) :: news')) → (∀ q ∈ news, (q.1 ≠ cl ∧ q.1 ≠ kl) ∧ q.1 ≠ x ∧ q.1 ≠ dx) → @Ne Nat cl kl → @Ne Nat x cl → @Ne Nat x kl → @Ne Nat dx cl → @Ne Nat dx kl → @Ne Nat x dx → Q (.ref x) { s with heap := h', toks := tk' }) :
    wpAny (model PG w) A (call (.ref 344) [.ref r]) Q E s := by
  refine' enterX [("reader", .ref r)] [(r, instObj 617 dr), (dr, rdD k l nd a ta)] C (sub2 hr hd) ?k6 ?k7 ?k9 ?kB ?_
  case k6 => k_is
  case k7 => k_is
  case k9 => exact BindsTo.of_eq rfl
  walk_at "M sides"
  intro dp fr gd un Q₁ E₁ g L' h₁ tk env outer mean mg mb eA hQ hE₁ hPO ret retU FG st F' N' B' X' T' lt room hg
  k_lt lt
  (try dsimp only [AA] at room)
  have hT' := hT.keeps st
  have hne := rd_ne N'
  (try dsimp only)
  (try k_fold)
  k_steps
  all_goals (try with_reducible refine hQ _ _ ?_)
  all_goals (try dsimp only)
  (with_reducible rename Fr g _ _ _ => kF)
  (with_reducible rename News g _ _ _ => kN)
  have B := backNew (m'' := m) C hg FG st kN [_, _, _, _] (fun p hp => by
    simp only [List.mem_cons, List.not_mem_nil, or_false] at hp
    rcases hp with rfl | rfl | rfl | rfl
    · exact ⟨.head _, nin2 (by k_ne) (by k_ne)⟩
    · exact ⟨.tail _ (.head _), nin2 (by k_ne) (by k_ne)⟩
    · exact ⟨.tail _ (.tail _ (.head _)), nin2 (by k_ne) (by k_ne)⟩
    · exact ⟨.tail _ (.tail _ (.tail _ (.head _))), nin2 (by k_ne) (by k_ne)⟩)
  refine h _ _ _ _ _ _ _ _ _ (by first | assumption | exact ⟨_, _, _, _, _, _, _, _, rfl⟩) (FG.kept kF.keep) (fun news' U => news_app B.1 (retU _ _ _ [(r, instObj 617 dr), (dr, _)] news' _ _ _ kF (cb_drop kN (fun p hp => .tail _ (.tail _ (.tail _ (.tail _ (.tail _ (.tail _ (.tail _ hp)))))))) U (.tail _ (.head _)) (fun p hp np => ?_)).2)
    (fun q hq => ⟨⟨B.2 q hq _ (.tail _ (.head _)), B.2 q hq _ (.head _)⟩, B.2 q hq _ (.tail _ (.tail _ (.head _))), B.2 q hq _ (.tail _ (.tail _ (.tail _ (.head _))))⟩) (by k_ne) (by k_ne) (by k_ne) (by k_ne) (by k_ne) (by k_ne)
  rcases List.mem_cons.mp hp with rfl | hp
  · exact .head _
  · rcases List.mem_cons.mp hp with rfl | hp
    · exact absurd rfl np
    · cases hp
end
set_option maxHeartbeats 1500000
section
variable {prog : Program} {w : World} {A₀ A : Around} {s : Shared} {base h₀ : Heap} {L : Addr} {m : Str → Option Value} {news : List (Addr × Obj)} {K : Frag} {p : Program} {loose : List Str} {mean : ExcName → Option Value} {mg mb : Str → Option Value}
  {env : Env} {outer : List Env} {R : Result → Shared → Prop} {name qual : Str} {params : Arguments} {body : List Stmt} {scope : Scope} {dV kV doc pm cdv ct oc : Value} {an od : Option Addr} {osl : Array (Option Value)} {f : Addr} {v u : Value}
theorem code2 (x z : Str)
    (B : Below A₀ base outer h₀) (F : Fr h₀ L s.heap m) (X₀ : K.In h₀) (N : News h₀ L s.heap news) (T : Top p loose mean mg mb h₀) (hA : A.frames = some (env :: outer)) (hf : env.frame = some L) (hke : env.scope.kind = .function)
    (ho : K.lookup f = some ⟨oc, od, .func (fnOf name qual params body scope dV kV doc pm an cdv ct), osl⟩) (hcd : codeIn K cdv qual = true) (hroom : A.depth < recursionLimit)
    (hbind : BindsTo s (fnOf name qual params body scope dV kV doc pm an cdv ct) ⟨[v, u], []⟩ [(x, v), (z, u)]) (hloc : ∀ y ∈ [(x, v), (z, u)], scope.names.lookup y.1 = some .local)
    (h : ∀ g L' h₁, Fr h₀ L g m → Fr g L' h₁ (fun y => ([(x, v), (z, u)] : List (Str × Value)).reverse.lookup y) → News g L' h₁ news → Below A base (env :: outer) g → K.In g → Top p loose mean mg mb g →
      wpAny (model prog w) (A.deeper (envOf qual scope L' f cdv)) (execs body (envOf qual scope L' f cdv))
        (fun fl s' => LeaveK h₀ L m g R (match fl with | .ret v => v | _ => .none) s')
        (fun e s' => wpAny (model prog w) (A.deeper (envOf qual scope L' f cdv)) (leaving (envOf qual scope L' f cdv) e) (fun _ s'' => R (.error e) s'') (fun e' s'' => R (.error e') s'') s')
        { s with heap := h₁, toks := s.toks + ([(x, v), (z, u)] : List (Str × Value)).length })
    (hco : scope.isCoroutine = false) (hgen : scope.isGenerator = false) (hk : scope.kind = .function)
    (hcell : ∀ x ∈ scope.names, x.2 ≠ .cell) : codeAny (model prog w) A (.call (.ref f) ⟨[v, u], []⟩) R s :=
  PySem.W.code_def B F X₀ N T hA hf hke ho hcd hroom hbind hloc h hco hgen hk hcell
end
section
variable {prog : Program} {w : World} {A : Around} {E : Value → Shared → Prop} {s : Shared} {a b : Addr} {xs : List Value} {Q : Value → Shared → Prop}
theorem isl {h₀ h : Heap} {L a : Addr} {news : List (Addr × Obj)} {vs : List Value} {n : Nat} {o : Obj} (N : News h₀ L h news) (hm : (a, o) ∈ news) (e : o = lst vs.toArray n) : h.IsList a vs.toArray := ⟨_, (N _ hm).1, by rw [e], n, by rw [e]⟩
theorem isl0 {h₀ h : Heap} {L a : Addr} {news : List (Addr × Obj)} {n : Nat} {o : Obj} (N : News h₀ L h news) (hm : (a, o) ∈ news) (e : o = lst #[] n) : h.IsList a #[] := ⟨_, (N _ hm).1, by rw [e], n, by rw [e]⟩
theorem eq_nil (ha : s.heap.IsList a xs.toArray) (hb : s.heap.IsList b #[]) (hu : A.units < cLine) (h : Q (.bool xs.isEmpty) s) : wpAny (model prog w) A (compareOp .Eq (.ref a) (.ref b)) Q E s := by
  cases xs with
  | nil => exact PySem.SeqAt.RcAt.lists (e := fun _ => true) ha hb rfl hu (fun j h1 _ => absurd h1 (Nat.not_lt_zero j)) prog w E Q h
  | cons x r => exact PySem.SeqAt.RcAt.lists_lengths ha hb (by simp) hu prog w E Q h
theorem ne_nil (ha : s.heap.IsList a xs.toArray) (hb : s.heap.IsList b #[]) (hu : A.units < cLine) (h : Q (.bool (!xs.isEmpty)) s) : wpAny (model prog w) A (compareOp .NotEq (.ref a) (.ref b)) Q E s := by
  cases xs with
  | nil => exact PySem.SeqAt.RcNeAt.lists (e := fun _ => false) ha hb rfl hu (fun j h1 _ => absurd h1 (Nat.not_lt_zero j)) prog w E Q h
  | cons x r => exact PySem.SeqAt.RcNeAt.lists_lengths ha hb (by simp) hu prog w E Q h
variable {x : Value} {r : List Value}
theorem eq_cons (ha : s.heap.IsList a (x :: r).toArray) (hb : s.heap.IsList b #[]) (hu : A.units < cLine) (h : Q (.bool false) s) : wpAny (model prog w) A (compareOp .Eq (.ref a) (.ref b)) Q E s := eq_nil ha hb hu h
theorem ne_cons (ha : s.heap.IsList a (x :: r).toArray) (hb : s.heap.IsList b #[]) (hu : A.units < cLine) (h : Q (.bool true) s) : wpAny (model prog w) A (compareOp .NotEq (.ref a) (.ref b)) Q E s := ne_nil ha hb hu h
theorem eq_nn (ha : s.heap.IsList a #[]) (hb : s.heap.IsList b #[]) (hu : A.units < cLine) (h : Q (.bool true) s) : wpAny (model prog w) A (compareOp .Eq (.ref a) (.ref b)) Q E s := eq_nil (xs := []) ha hb hu h
theorem ne_nn (ha : s.heap.IsList a #[]) (hb : s.heap.IsList b #[]) (hu : A.units < cLine) (h : Q (.bool false) s) : wpAny (model prog w) A (compareOp .NotEq (.ref a) (.ref b)) Q E s := ne_nil (xs := []) ha hb hu h
end
local macro_rules | `(tactic| walk_at "M units") => `(tactic| ((try simp only [units_deeper, units_in1]); (try dsimp only [AA]); omega))
def PW : List (Addr × Obj) → Prop
  | [] => True
  | p :: r => AllAp p.1 r ∧ PW r
section
variable {w : World} {A : Around} {base h₀ h g h' : Heap} {L L'' : Addr} {m m'' : Str → Option Value} {news hide hide' n1 n2 n3 : List (Addr × Obj)} {c : Nat} {d1 d2 d3 : Addr} {o1 o1' o2 o2' o3 o3' : Obj}
theorem back3 (C : Cx w A base h₀ L m h news c) (hsub : ∀ p ∈ hide, p ∈ news) (hg : ∀ b o, h.get? b = some o → b ∉ hide.map (·.1) → g.get? b = some o) (kF : Fr g L'' h' m'') (kN : News g L'' h' hide')
    (U1 : Upd d1 o1 o1' news n1) (U2 : Upd d2 o2 o2' n1 n2) (U3 : Upd d3 o3 o3' n2 n3) (h1 : (d1, o1') ∈ hide') (h2 : (d2, o2') ∈ hide') (h3 : (d3, o3') ∈ hide') (hr : ∀ p ∈ hide, p.1 ≠ d1 → p.1 ≠ d2 → p.1 ≠ d3 → p ∈ hide') : News h₀ L h' n3 := by
  obtain ⟨m1, M1⟩ := upd_mem U1
  obtain ⟨m2, M2⟩ := upd_mem U2
  obtain ⟨m3, M3⟩ := upd_mem U3
  refine backG C hsub hg kF kN fun p hp => ?_
  have key : ∀ q ∈ n1, ∃ q' ∈ news, q'.1 = q.1 := fun q hq => (M1 q hq).elim (fun e => ⟨_, m1, by rw [e]⟩) fun e => ⟨q, e.1, rfl⟩
  have key2 : ∀ q ∈ n2, ∃ q' ∈ news, q'.1 = q.1 := fun q hq => (M2 q hq).elim (fun e => let ⟨q', a, b⟩ := key _ m2; ⟨q', a, by rw [b, e]⟩) fun e => key q e.1
  rcases M3 p hp with rfl | ⟨hp, ne3⟩
  · exact .inl ⟨h3, key2 (d3, o3) m3⟩
  · rcases M2 p hp with rfl | ⟨hp, ne⟩
    · exact .inl ⟨h2, key (d2, o2) m2⟩
    · rcases M1 p hp with rfl | ⟨hp, ne'⟩
      · exact .inl ⟨h1, key _ hp⟩
      · exact .inr ⟨hp, fun x => hr p x ne' ne ne3⟩
end
section
local macro_rules
  | `(tactic| walk_at "call ref") => zstR 166
  | `(tactic| walk_at "compareOp Eq ref ref") => zst
  | `(tactic| walk_at "compareOp NotEq ref ref") => zst
variable {w : World} {A : Around} {s : Shared} {base h₀ : Heap} {L : Addr} {m : Str → Option Value} {news news' : List (Addr × Obj)} {Q E : Value → Shared → Prop} {r dr l nd : Addr} {k : RK} {a : Int} {ta : Nat} {ts : List TK}
theorem c_beneath {ol x y dx dy cl kl cl' kl' : Addr} {es es' : List DictEntry} {nm nm' : Str} {u u' t t' n n' : Nat} (C : Cx w A base h₀ L m s.heap news 4) (hun : A.units + 100 < cLine)
    (hsub : ∀ p ∈ [(ol, lst #[.ref x] n), (x, instObj 188 dx), (dx, dictOf es 19), (kl, lst #[] n'), (y, instObj 188 dy), (dy, dictOf es' 19)], p ∈ news) (hp : PW [(ol, lst #[.ref x] n), (x, instObj 188 dx), (dx, dictOf es 19), (kl, lst #[] n'), (y, instObj 188 dy), (dy, dictOf es' 19)])
    (he : ItemEs w.params 1 t nm u cl kl es) (he' : ItemEs w.params 5 t' nm' u' cl' kl' es')
    (h : ∀ es9 h' tk', ItemEs w.params 5 t' nm' u' cl' kl' es9 → Fr h₀ L h' m → (∀ n1 n2 n3, Upd dy (dictOf es' 19) (dictOf es9 19) news n1 → Upd kl (lst #[] n') (lst #[.ref y] (n' + 1)) n1 n2 → Upd ol (lst #[.ref x] n) (lst #[.ref x, .ref y] (n + 1)) n2 n3 → News h₀ L h' n3) → Q .none { s with heap := h', toks := tk' }) :
    wpAny (model PG w) A (call (.ref 358) [.ref ol, .ref y]) Q E s := by
  refine' enterX [("open_items", .ref ol), ("item", .ref y)] [(ol, lst #[.ref x] n), (x, instObj 188 dx), (dx, dictOf es 19), (kl, lst #[] n'), (y, instObj 188 dy), (dy, dictOf es' 19)] C hsub ?k6 ?k7 ?k9 ?kB ?_
  case k6 => k_is
  case k7 => k_is
  case k9 => exact BindsTo.of_eq rfl
  walk_at "M sides"
  intro dp fr gd un Q₁ E₁ g L' h₁ tk env outer mean mg mb eA hQ hE₁ hPO ret retU FG st F' N' B' X' T' lt room hg
  subst eA
  clear ret retU
  k_lt lt
  (try dsimp only [AA] at room)
  (try dsimp only [AA] at hun)
  have hp0 := hp.1
  have hp1 := hp.2.1
  have hp2 := hp.2.2.1
  have hp3 := hp.2.2.2.1
  have hp4 := hp.2.2.2.2.1
  clear hp
  (try dsimp only)
  (try k_fold)
  k_steps
  refine Hold.mk ?_
  first | (refine ne_nn (isl0 (by k_asm) (by k_mem) rfl) (isl0 (by k_asm) (by k_mem) rfl) (by walk_at "M units") ?_) | (refine ne_cons (isl (by k_asm) (by k_mem) rfl) (isl0 (by k_asm) (by k_mem) rfl) (by walk_at "M units") ?_)
  k_steps
  refine Hold.mk ?_
  first | (refine eq_nn (isl0 (by k_asm) (by k_mem) rfl) (isl0 (by k_asm) (by k_mem) rfl) (by walk_at "M units") ?_) | (refine eq_cons (isl (by k_asm) (by k_mem) rfl) (isl0 (by k_asm) (by k_mem) rfl) (by walk_at "M units") ?_)
  k_steps
  refine Hold.mk ?_
  first | (refine ne_nn (isl0 (by k_asm) (by k_mem) rfl) (isl0 (by k_asm) (by k_mem) rfl) (by walk_at "M units") ?_) | (refine ne_cons (isl (by k_asm) (by k_mem) rfl) (isl0 (by k_asm) (by k_mem) rfl) (by walk_at "M units") ?_)
  k_steps
  all_goals (try with_reducible refine hQ _ _ ?_)
  refine Hold.mk ?_
  (with_reducible show wpAny _ _ (call (Value.ref 166) _) _ _ _)
  (refine wpAny_call ?_)
  (refine' code2 "self" "kid" ?k1 ?k2 ?k3 ?k4 ?k5 ?kA ?kF ?kK ?k6 ?k7 ?k8 ?k9 ?kB ?_ ?c2 ?c3 ?c4 ?c5)
  (case k1 => k_asm)
  (case kA => exact Around.frames_deeper (Below.stack (by assumption)))
  (case kF => exact rfl)
  (case kK => exact rfl)
  (case k2 => k_asm)
  (case k3 => k_asm)
  (case k4 => k_asm)
  (case k5 => k_asm)
  (case k6 => k_is)
  (case k7 => k_is)
  (case k8 => k_room)
  (case k9 => exact BindsTo.of_eq rfl)
  (case c5 => decide)
  (case kB => exact locs rfl)
  (case c2 => exact rfl)
  (case c3 => exact rfl)
  (case c4 => exact rfl)
  k_whole
  intro g' L' h' FG' F' N' B' X' T'
  (try dsimp only)
  (try k_lift B')
  (try k_fold)
  k_steps
  all_goals (try with_reducible refine hQ _ _ ?_)
  all_goals (try dsimp only)
  (with_reducible rename Fr g _ _ _ => kF)
  (with_reducible rename News g _ _ _ => kN)
  refine h _ _ _ (by assumption) (FG.kept kF.keep) fun n1 n2 n3 U1 U2 U3 => back3 C hsub hg kF kN U1 U2 U3 (by k_mem) (by k_mem) (by k_mem) fun p hp e1 e2 e3 => ?_
  simp only [List.mem_cons, List.not_mem_nil, or_false] at hp
  rcases hp with rfl | rfl | rfl | rfl | rfl | rfl
  · exact absurd rfl e3
  · k_mem
  · k_mem
  · exact absurd rfl e2
  · k_mem
  · exact absurd rfl e1
end
theorem zz9 : Hold True := by first | walk1 | exact ⟨trivial⟩
set_option maxHeartbeats 1000000
theorem memNil {l : List (Addr × Obj)} : ∀ p ∈ ([] : List (Addr × Obj)), p ∈ l := fun _ h => nomatch h
theorem memCons {l r : List (Addr × Obj)} {a : Addr × Obj} (h : a ∈ l) (k : ∀ p ∈ r, p ∈ l) : ∀ p ∈ a :: r, p ∈ l := fun p hp => by
  rcases List.mem_cons.mp hp with rfl | hp
  · exact h
  · exact k p hp
theorem size_line {n : Nat} (h : n ≤ 1000) : n ≤ sizeLine := by rw [sizeLine_eq]; omega
theorem m_as {m : Str → Option Value} {x : Str} {v : Value} (h : m x = some v) : ∃ m0 : Str → Option Value, m = fun y => if y = x then some v else m0 y :=
  ⟨m, funext fun y => by by_cases e : y = x <;> simp [e, h]⟩
theorem nin {z : Nat} {l : List (Addr × Obj)} (h : AllAp z l) : z ∉ l.map (·.1) := fun q => by
  induction l with
  | nil => cases q
  | cons p r ih =>
    rcases List.mem_cons.mp q with q | q
    · exact h.1.ne q.symm
    · exact ih h.2 q
theorem allAp_at {d : Addr} {l : List (Addr × Obj)} (h : AllAp d l) : ∀ p ∈ l, p.1 ≠ d := by
  induction l with
  | nil => exact fun p hp => nomatch hp
  | cons q l ih =>
    intro p hp
    rcases List.mem_cons.mp hp with rfl | hp
    · exact h.1.ne
    · exact ih h.2 p hp
section
variable {prog : Program} {w : World} {A : Around} {E : Value → Shared → Prop} {s : Shared} {env : Env} {h₀ : Heap} {target : PySem.Expr} {body : List Stmt} {Q : Flow → Shared → Prop} {keep : List (Addr × Obj)} {I : Addr} {tn : String}
theorem unrPostW_mono {L : Addr} {s₁ : Shared} {its : List (Addr × Obj)} {r r' : (Str → Option Value) → List (Addr × Obj) → Prop} {f : Flow} {s₂ : Shared} (h : UnrPostW h₀ L s₁ its r Q f s₂) (k : ∀ m n, r m n → r' m n) : UnrPostW h₀ L s₁ its r' Q f s₂ := by
  cases f with
  | ret v => exact h
  | brk => exact h
  | next => exact let ⟨a, b, c, d, e, f, g, i, j⟩ := h; ⟨a, b, c, d, e, f, g, i, k _ _ j⟩
  | cont => exact let ⟨a, b, c, d, e, f, g, i, j⟩ := h; ⟨a, b, c, d, e, f, g, i, k _ _ j⟩
theorem items_pairs (J : List Value → (Str → Option Value) → List (Addr × Obj) → Prop)
    (done : ∀ m news, J [] m news → ∀ h tk, Fr h₀ env.locals h m → News h₀ env.locals h news → Q .next { s with heap := h, toks := tk })
    (turn : ∀ v u r m news it h tk, J (v :: u :: r) m news → it.cls = .type tn → Fr h₀ env.locals h m → News h₀ env.locals h ((I, it) :: news) →
      wpAny (model prog w) A (assign target env v) (fun _ s₂ => wpAny (model prog w) A (execs body env) (UnrPostW h₀ env.locals { s with heap := h, toks := tk } [(I, it)] (fun m' n' => SubL keep n' ∧ ∀ it' h' tk', it'.cls = .type tn → Fr h₀ env.locals h' m' → News h₀ env.locals h' ((I, it') :: n') →
        wpAny (model prog w) A (assign target env u) (fun _ s₂ => wpAny (model prog w) A (execs body env) (UnrPostW h₀ env.locals { s with heap := h', toks := tk' } [(I, it')] (fun m' n' => SubL keep n' ∧ J r m' n') Q) E s₂) E { s with heap := h', toks := tk' }) Q) E s₂) E { s with heap := h, toks := tk })
    (odd : ∀ v m news, ¬ J [v] m news) : ∀ vs m news, J vs m news → ItemsRest prog w A E h₀ env target body Q s [(I, tn)] keep (vs.map .val) m news
  | [], m, news, hJ => ItemsRest.zero (done m news hJ)
  | [v], m, news, hJ => (odd v m news hJ).elim
  | v :: u :: r, m, news, hJ => fun v' h tk ha F o ho N => by
    have ha' : v' = v := ha
    subst ha'
    refine wpAny_mono (turn v' u r m news o h tk hJ ho F N) (fun _ s₂ q => wpAny_mono q (fun f s₃ p => unrPostW_mono p fun m' n' z => ⟨z.1, fun v'' h' tk' hb F' o' ho' N' => ?_⟩) fun _ _ z => z) fun _ _ z => z
    have hb' : v'' = u := hb
    subst hb'
    exact wpAny_mono (z.2 o' h' tk' ho' F' N') (fun _ s₂ q => wpAny_mono q (fun f s₃ p => unrPostW_mono p fun m'' n'' z' => ⟨z'.1, items_pairs J done turn odd r m'' n'' z'.2⟩) fun _ _ z => z) fun _ _ z => z
end
def Gd (P : Params) (o : Obj) : Prop := (∃ d, o = instObj 188 d) ∨ ∃ t nm u cl kl es, o = dictOf es 19 ∧ ItemEs P 1 t nm u cl kl es
theorem gd_lst {P : Params} {n : Nat} : ¬ Gd P (lst #[] n) := by
  rintro (⟨d, e⟩ | ⟨_, _, _, _, _, _, e, _⟩)
  · cases congrArg Obj.data e
  · cases congrArg Obj.data e
theorem gd_5 {P : Params} {t : Nat} {nm : Str} {u : Nat} {cl kl : Addr} {es : List DictEntry} (he : ItemEs P 5 t nm u cl kl es) : ¬ Gd P (dictOf es 19) := by
  rintro (⟨d, e⟩ | ⟨_, _, _, _, _, es', e, h⟩)
  · cases congrArg Obj.data e
  · obtain ⟨_, _, _, _, _, _, _, _, rfl⟩ := he
    obtain ⟨_, _, _, _, _, _, _, _, rfl⟩ := h
    have e1 := congrArg Obj.data e
    injection e1 with e2
    have e3 := congrArg (fun a : Array DictEntry => a.toList.head?.map DictEntry.val) e2
    replace e3 : some (Value.int 5 t) = some (Value.int 1 _) := e3
    cases e3
def Fut (P : Params) : List (Addr × Obj) → List Value → List Str → Prop
  | z, v :: v1 :: r, nm :: ts => ∃ x dx kl y dy cl cl1 kl1 es es1 nm1 u u1 t t1 n1 z', v = .ref x ∧ v1 = .ref y ∧ z = (x, instObj 188 dx) :: (dx, dictOf es 19) :: (kl, lst #[] n1) :: (y, instObj 188 dy) :: (dy, dictOf es1 19) :: z' ∧ ItemEs P 1 t nm u cl kl es ∧ ItemEs P 5 t1 nm1 u1 cl1 kl1 es1 ∧ Fut P z' r ts
  | z, [], [] => z = []
  | _, _, _ => False
theorem pull5 {a b c d e : Addr × Obj} {l r : List (Addr × Obj)} : ∀ p ∈ a :: b :: c :: d :: e :: (l ++ r), p ∈ l ++ a :: b :: c :: d :: e :: r := fun p hp => by
  simp only [List.mem_cons, List.mem_append] at hp ⊢
  rcases hp with h | h | h | h | h | h | h <;> simp only [h, true_or, or_true]
def heads : List Value → List Value
  | v :: _ :: r => v :: heads r
  | _ => []
section
local macro_rules
  | `(tactic| walk_at "pyIter ref") => zst
  | `(tactic| walk_at "exec For Name") => zst
  | `(tactic| walk_at "call ref") => zstR 358
  | `(tactic| walk_at "call builtin:list.append") => zst
variable {w : World} {A : Around} {s : Shared} {base h₀ : Heap} {L : Addr} {m : Str → Option Value} {news news' : List (Addr × Obj)} {Q E : Value → Shared → Prop}
theorem c_nested {el : Addr} {n : Nat} {z : List (Addr × Obj)} {vs : List Value} {titles : List Str} (C : Cx w A base h₀ L m s.heap news 6) (hun : A.units + 120 < cLine) (hel : (el, lst vs.toArray n) ∈ news) (hz : ∀ p ∈ z, p ∈ news) (hF : Fut w.params z vs titles) (hp : PW z) (hne : AllAp el z) (hv : vs.length ≤ 100)
    (h : ∀ rl n9 h' tk', Fr h₀ L h' m → (∀ l, (∀ p ∈ l, p ∈ news) → (∀ p ∈ l, p ∈ (el, lst vs.toArray n) :: z → Gd w.params p.2) → News h₀ L h' ((rl, lst (heads vs).toArray n9) :: l)) → (∀ q ∈ news, q.1 ≠ rl) → Q (.ref rl) { s with heap := h', toks := tk' }) :
    wpAny (model PG w) A (call (.ref 365) [.ref el]) Q E s := by
  refine' enterX [("entries", .ref el)] ((el, lst vs.toArray n) :: z) C (memCons hel hz) ?k6 ?k7 ?k9 ?kB ?_
  case k6 => k_is
  case k7 => k_is
  case k9 => exact BindsTo.of_eq rfl
  walk_at "M sides"
  intro dp fr gd un Q₁ E₁ g L' h₁ tk env outer mean mg mb eA hQ hE₁ hPO ret retU FG st F' N' B' X' T' lt room hg
  subst eA
  clear ret retU
  (try dsimp only [AA] at room)
  (try dsimp only [AA] at hun)
  (try dsimp only)
  (try k_fold)
  k_steps
  all_goals (try with_reducible refine hQ _ _ ?_)
  refine Hold.mk ?_
  (with_reducible rename Fr g _ _ _ => kF)
  (with_reducible rename News g _ _ _ => kN)
  refine For_turns kF ?_
  k_steps
  all_goals (try with_reducible refine hQ _ _ ?_)
  (with_reducible rename Fr g _ _ _ => kF)
  (with_reducible rename News g _ _ _ => kN)
  rename_i rl _ q1 ol _ q2 rn _ q3 D _ q4 _ _ _ _ _ _ _ _
  have kN2 := cb_drop kN (memCons (.tail _ (.tail _ (.tail _ (.tail _ (.head _))))) (memCons (.tail _ (.tail _ (.tail _ (.head _)))) (memCons (.tail _ (.head _)) (fun p hp => .tail _ (.tail _ (.tail _ (.tail _ (.tail _ hp))))))))
  refine Hold.mk (iter_listTurns (by rfl) kF kN2 (.head _) rfl rfl (fun I hI => ?_))
  have i1 : el < I := hI _ (.head _)
  have i2 : rl < I := hI _ (.tail _ (.head _))
  have i3 : rn < I := hI _ (.tail _ (.tail _ (.head _)))
  clear kN kN2
  refine items_pairs (fun rvs m news => ∃ (rts : List Value) (n9 : Nat) (tts : List Str) (fut past : List (Addr × Obj)), news = (el, lst vs.toArray n) :: (rl, lst rts.toArray n9) :: (rn, lst #[] 0) :: (past ++ fut) ∧ Fut w.params fut rvs tts ∧ PW fut ∧ (∀ p ∈ past, ∀ q ∈ fut, q.1 ≠ p.1) ∧ (∀ p ∈ past ++ fut, p.1 < rl) ∧ (∀ p ∈ fut, p.1 ≠ el) ∧ m (Str.ofString "roots") = some (.ref rl) ∧ m (Str.ofString "renaming") = some (.ref rn) ∧ rts ++ heads rvs = heads vs ∧ rts.length + rvs.length ≤ 100 ∧ (∀ p ∈ z, Gd w.params p.2 → p ∈ past ++ fut)) (fun m news hJ hh tk F N => ?_) (fun v u r m news it h tk hJ hit F N => ?_) (fun v m news hJ => ?_) _ _ _ ?_
  · obtain ⟨rts, n9, tts, fut, past, rfl, hF, hP, hpf, hlt, hfe, hm1, hm2, hh, hl, hG⟩ := hJ
    obtain ⟨m0, e0⟩ := m_as hm1
    subst e0
    obtain ⟨m1, e1⟩ := m_as (show m0 (Str.ofString "renaming") = some (.ref rn) from hm2)
    subst e1
    replace F : Fr g L' _ _ := F
    replace N : News g L' _ _ := N
    dsimp only at F
    generalize past ++ fut = zz at *
    clear hm1 hm2
    k_steps
    all_goals (try with_reducible refine hQ _ _ ?_)
    refine For_turns F ?_
    k_steps
    all_goals (try with_reducible refine hQ _ _ ?_)
    refine Hold.mk (iter_listTurns (vs := []) (by rfl) F N (.tail _ (.tail _ (.head _))) rfl rfl fun I2 hI2 => ItemsRest.zero fun h3 tk3 F3 N3 => ?_)
    clear F N
    replace F3 : Fr g L' _ _ := F3
    replace N3 : News g L' _ _ := N3
    k_steps
    all_goals (try with_reducible refine hQ _ _ ?_)
    (with_reducible rename Fr g _ _ _ => kF)
    (with_reducible rename News g _ _ _ => kN)
    have hlt' : ∀ p ∈ (el, lst vs.toArray n) :: z, p.1 < rl := List.forall_mem_cons.mpr ⟨q1.1, ktn_ltOf q1.2⟩
    have B := backNew (m'' := m) C hg FG st kN [(rl, lst rts.toArray n9)] (fun p hp => by
      rw [List.mem_singleton.mp hp]
      refine ⟨.tail _ (.head _), fun q => ?_⟩
      obtain ⟨p, hp, e⟩ := List.mem_map.mp q
      exact Nat.ne_of_lt (hlt' p hp) e)
    rw [show rts = heads vs by rw [← hh]; exact (List.append_nil _).symm] at B
    refine h _ _ _ _ (FG.kept kF.keep) (fun l hl1 hl2 => news_app B.1 (backG C (memCons hel hz) hg kF kN fun p hp => .inr ⟨hl1 p hp, fun hp' => ?_⟩)) (fun q hq => B.2 q hq _ (.head _))
    rcases List.mem_cons.mp hp' with rfl | hz'
    · exact .head _
    · exact .tail _ (.tail _ (.tail _ (hG p hz' (hl2 p hp hp'))))
  · obtain ⟨rts, n9, tts, fut, past, rfl, hF, hP, hpf, hlt, hfe, hm1, hm2, hh, hl, hG⟩ := hJ
    obtain ⟨m0, e0⟩ := m_as hm1
    subst e0
    obtain ⟨m1, e1⟩ := m_as (show m0 (Str.ofString "renaming") = some (.ref rn) from hm2)
    subst e1
    replace F : Fr g L' _ _ := F
    replace N : News g L' _ _ := N
    dsimp only at F
    clear hm1 hm2
    cases tts with
    | nil => exact hF.elim
    | cons nm tts =>
    obtain ⟨x, dx, kl, y, dy, cl, cl1, kl1, es, es1, nm1, u1, u2, t1, t2, n1, z', rfl, rfl, rfl, he, he1, hF'⟩ := hF
    have N2 := cb_drop N (news := (I, it) :: (el, lst vs.toArray n) :: (rl, lst rts.toArray n9) :: (rn, lst #[] 0) :: (x, instObj 188 dx) :: (dx, dictOf es 19) :: (kl, lst #[] n1) :: (y, instObj 188 dy) :: (dy, dictOf es1 19) :: (past ++ z')) (memCons (.head _) (memCons (.tail _ (.head _)) (memCons (.tail _ (.tail _ (.head _))) (memCons (.tail _ (.tail _ (.tail _ (.head _)))) (fun p hp => .tail _ (.tail _ (.tail _ (.tail _ (pull5 p hp)))))))))
    clear N
    k_steps
    all_goals (try with_reducible refine hQ _ _ ?_)
    (with_reducible rename Fr g _ _ _ => kF)
    (with_reducible rename News g _ _ _ => kN)
    have hz5 := fun p hp => hlt p (pull5 p hp)
    simp only [List.forall_mem_cons] at hz5
    obtain ⟨v1, v2, v3, v4, v5, v6⟩ := hz5
    obtain ⟨⟨p1, p2, p3, p4, p5⟩, ⟨p6, p7, p8, p9⟩, ⟨p10, p11, p12⟩, ⟨p13, p14⟩, p15, hP'⟩ := hP
    have off : ∀ b, (∀ p ∈ past, b ≠ p.1) → AllAp b z' → ∀ p ∈ past ++ z', p.1 ≠ b := fun b h1 h2 p hp => (List.mem_append.mp hp).elim (fun hp => (h1 p hp).symm) (allAp_at h2 p)
    have okl := off kl (fun p hp => hpf p hp _ (.tail _ (.tail _ (.head _)))) p12
    have ody := off dy (fun p hp => hpf p hp _ (.tail _ (.tail _ (.tail _ (.tail _ (.head _)))))) p15
    clear off
    have hfe' := hfe
    simp only [List.forall_mem_cons] at hfe'
    obtain ⟨e1, e2, e3, e4, e5, e6⟩ := hfe'
    have hlen : rts.length ≤ 1000 := by simp only [List.length_cons] at hl; omega
    have kN2 := cb_drop kN fun p hp => .tail _ (.tail _ hp)
    clear kN
    refine Hold.mk (append_K kF kN2 (.tail (Nat.ne_of_gt i2) (.tail (Nat.ne_of_lt q1.1) (.head (List.forall_mem_cons.mpr ⟨Nat.ne_of_gt q3.2.1, List.forall_mem_cons.mpr ⟨Nat.ne_of_lt v1, List.forall_mem_cons.mpr ⟨Nat.ne_of_lt v2, List.forall_mem_cons.mpr ⟨Nat.ne_of_lt v3, List.forall_mem_cons.mpr ⟨Nat.ne_of_lt v4, List.forall_mem_cons.mpr ⟨Nat.ne_of_lt v5, fun p hp => Nat.ne_of_lt (v6 p hp)⟩⟩⟩⟩⟩⟩)))) (fun h3 F3 N3 => ?_) (size_line (by simpa using hlen)))
    clear kF kN2
    simp only [List.push_toArray] at N3
    k_steps
    all_goals (try with_reducible refine hQ _ _ ?_)
    (with_reducible rename Fr g _ _ _ => kF)
    (with_reducible rename News g _ _ _ => kN)
    (rename (_ < _ ∧ _ < _ ∧ _ < _ ∧ _ < _ ∧ _ < _ ∧ _ < _ ∧ _ < _ ∧ _ < _ ∧ _ < _ ∧ AllLt _ _) => q5)
    obtain ⟨w1, w2, w3, w4, w5, w6, w7, w8, w9, w10⟩ := q5
    refine ⟨_, _, _, (el, lst vs.toArray n) :: (rl, lst (rts ++ [Value.ref x]).toArray (n9 + 1)) :: (rn, lst #[] 0) :: (_, lst #[.ref x] 0) :: (x, instObj 188 dx) :: (dx, dictOf es 19) :: (kl, lst #[] n1) :: (y, instObj 188 dy) :: (dy, dictOf es1 19) :: (past ++ z'), rfl, kF,
      cb_drop kN (memCons (.tail _ (.head _)) (memCons (.tail _ (.tail _ (.head _))) (memCons (.tail _ (.tail _ (.tail _ (.head _)))) (memCons (.tail _ (.tail _ (.tail _ (.tail _ (.head _))))) (memCons (.head _) (fun p hp => .tail _ (.tail _ (.tail _ (.tail _ (.tail _ hp)))))))))), fun p hp q hq => ?_, ⟨.head _, trivial⟩, fun it' h7 tk7 hit' F N => ?_⟩
    · rw [List.mem_singleton.mp hq]
      have I9 : ∀ p : Addr × Obj, p.1 < rl → p.1 ≠ I := fun p hp => Nat.ne_of_lt (Nat.lt_trans hp i2)
      revert p
      exact List.forall_mem_cons.mpr ⟨Nat.ne_of_lt i1, List.forall_mem_cons.mpr ⟨Nat.ne_of_lt i2, List.forall_mem_cons.mpr ⟨Nat.ne_of_lt i3, List.forall_mem_cons.mpr ⟨Nat.ne_of_gt w1, fun p hp => I9 p (hlt p (pull5 p hp))⟩⟩⟩⟩
    clear kF kN
    replace F : Fr g L' _ _ := F
    replace N : News g L' _ _ := N
    k_steps
    all_goals (try with_reducible refine hQ _ _ ?_)
    (with_reducible rename Fr g _ _ _ => kF)
    (with_reducible rename News g _ _ _ => kN)
    have kN2 := cb_drop kN fun p hp => .tail _ (.tail _ hp)
    clear kN
    refine Hold.mk (c_beneath (by walk_at "M cx") (by walk_at "M units") (memCons (.tail _ (.tail _ (.tail _ (.tail _ (.head _))))) (memCons (.tail _ (.tail _ (.tail _ (.tail _ (.tail _ (.head _)))))) (memCons (.tail _ (.tail _ (.tail _ (.tail _ (.tail _ (.tail _ (.head _))))))) (memCons (.tail _ (.tail _ (.tail _ (.tail _ (.tail _ (.tail _ (.tail _ (.head _)))))))) (memCons (.tail _ (.tail _ (.tail _ (.tail _ (.tail _ (.tail _ (.tail _ (.tail _ (.head _))))))))) (memCons (.tail _ (.tail _ (.tail _ (.tail _ (.tail _ (.tail _ (.tail _ (.tail _ (.tail _ (.head _)))))))))) (memNil))))))) ⟨⟨⟨Nat.ne_of_lt w5⟩, ⟨Nat.ne_of_lt w6⟩, ⟨Nat.ne_of_lt w7⟩, ⟨Nat.ne_of_lt w8⟩, ⟨Nat.ne_of_lt w9⟩, trivial⟩, ⟨p1, p2, p3, p4, trivial⟩, ⟨p6, p7, p8, trivial⟩, ⟨p10, p11, trivial⟩, ⟨p13, trivial⟩, trivial, trivial⟩ he he1 ?_)
    intro es9 h8 tk8 hes9 F8 hn'
    have N8 := hn' _ _ _ (.tail (Nat.ne_of_gt (Nat.lt_trans v5 i2)) (.tail e5.symm (.tail (Nat.ne_of_gt v5) (.tail (Nat.ne_of_gt (Nat.lt_trans v5 q3.2.1)) (.tail (Nat.ne_of_gt w9) (.tail p4.ne.symm (.tail p8.ne.symm (.tail p11.ne.symm (.tail p13.ne.symm (.head ody))))))))))
      (.tail (Nat.ne_of_gt (Nat.lt_trans v3 i2)) (.tail e3.symm (.tail (Nat.ne_of_gt v3) (.tail (Nat.ne_of_gt (Nat.lt_trans v3 q3.2.1)) (.tail (Nat.ne_of_gt w7) (.tail p2.ne.symm (.tail p6.ne.symm (.head (List.forall_mem_cons.mpr ⟨p10.ne, List.forall_mem_cons.mpr ⟨p11.ne, okl⟩⟩)))))))))
      (.tail (Nat.ne_of_lt w1) (.tail (Nat.ne_of_lt w2) (.tail (Nat.ne_of_lt w3) (.tail (Nat.ne_of_lt w4) (.head (List.forall_mem_cons.mpr ⟨Nat.ne_of_lt w5, List.forall_mem_cons.mpr ⟨Nat.ne_of_lt w6, List.forall_mem_cons.mpr ⟨Nat.ne_of_lt w7, List.forall_mem_cons.mpr ⟨Nat.ne_of_lt w8, List.forall_mem_cons.mpr ⟨Nat.ne_of_lt w9, fun p hp => Nat.ne_of_lt (ktn_ltOf w10 p hp)⟩⟩⟩⟩⟩))))))
    clear hn' kF kN2 okl ody
    k_steps
    all_goals (try with_reducible refine hQ _ _ ?_)
    (with_reducible rename Fr g _ _ _ => kF)
    (with_reducible rename News g _ _ _ => kN)
    have up3 : ∀ P : Addr × Obj → Prop, P (x, instObj 188 dx) → P (dx, dictOf es 19) → P (y, instObj 188 dy) → (∀ p ∈ past ++ z', P p) → ∀ p ∈ (x, instObj 188 dx) :: (dx, dictOf es 19) :: (y, instObj 188 dy) :: (past ++ z'), P p := fun P a b c d => List.forall_mem_cons.mpr ⟨a, List.forall_mem_cons.mpr ⟨b, List.forall_mem_cons.mpr ⟨c, d⟩⟩⟩
    refine ⟨_, _, _, (el, lst vs.toArray n) :: (rl, lst (rts ++ [Value.ref x]).toArray (n9 + 1)) :: (rn, lst #[] 0) :: ((x, instObj 188 dx) :: (dx, dictOf es 19) :: (y, instObj 188 dy) :: (past ++ z')), rfl, kF,
      cb_drop kN (memCons (.head _) (memCons (.tail _ (.head _)) (memCons (.tail _ (.tail _ (.head _))) (memCons (.tail _ (.tail _ (.tail _ (.head _)))) (memCons (.tail _ (.tail _ (.tail _ (.tail _ (.tail _ (.head _)))))) (memCons (.tail _ (.tail _ (.tail _ (.tail _ (.tail _ (.tail _ (.head _))))))) (memCons (.tail _ (.tail _ (.tail _ (.tail _ (.tail _ (.tail _ (.tail _ (.tail _ (.head _))))))))) (fun p hp => .tail _ (.tail _ (.tail _ (.tail _ (.tail _ (.tail _ (.tail _ (.tail _ (.tail _ (.tail _ (hp)))))))))))))))))), List.forall_mem_cons.mpr ⟨fun q hq => ?_, List.forall_mem_cons.mpr ⟨fun q hq => ?_, List.forall_mem_cons.mpr ⟨fun q hq => ?_, up3 _ (fun q hq => ?_) (fun q hq => ?_) (fun q hq => ?_) fun p hp q hq => ?_⟩⟩⟩, ⟨.head _, trivial⟩, rts ++ [.ref x], n9 + 1, tts, z', (x, instObj 188 dx) :: (dx, dictOf es 19) :: (y, instObj 188 dy) :: past, rfl, hF', hP', ?_, up3 _ v1 v2 v4 v6, e6, rfl, rfl, ?_, ?_, fun p hp hg => ?_⟩
    · rw [List.mem_singleton.mp hq]; exact Nat.ne_of_lt i1
    · rw [List.mem_singleton.mp hq]; exact Nat.ne_of_lt i2
    · rw [List.mem_singleton.mp hq]; exact Nat.ne_of_lt i3
    · rw [List.mem_singleton.mp hq]; exact Nat.ne_of_lt (Nat.lt_trans v1 i2)
    · rw [List.mem_singleton.mp hq]; exact Nat.ne_of_lt (Nat.lt_trans v2 i2)
    · rw [List.mem_singleton.mp hq]; exact Nat.ne_of_lt (Nat.lt_trans v4 i2)
    · rw [List.mem_singleton.mp hq]; exact Nat.ne_of_lt (Nat.lt_trans (v6 p hp) i2)
    · exact List.forall_mem_cons.mpr ⟨allAp_at p5, List.forall_mem_cons.mpr ⟨allAp_at p9, List.forall_mem_cons.mpr ⟨allAp_at p14, fun p hp q hq => hpf p hp q (.tail _ (.tail _ (.tail _ (.tail _ (.tail _ (hq))))))⟩⟩⟩
    · rw [List.append_assoc]; exact hh
    · simp only [List.length_cons, List.length_append, List.length_nil] at hl ⊢; omega
    · have := hG p hp hg
      simp only [List.mem_append, List.mem_cons] at this
      show p ∈ (x, instObj 188 dx) :: (dx, dictOf es 19) :: (y, instObj 188 dy) :: (past ++ z')
      rcases this with q | rfl | rfl | rfl | rfl | rfl | q
      · exact .tail _ (.tail _ (.tail _ (List.mem_append_left _ q)))
      · exact .head _
      · exact .tail _ (.head _)
      · exact (gd_lst hg).elim
      · exact .tail _ (.tail _ (.head _))
      · exact (gd_5 he1 hg).elim
      · exact .tail _ (.tail _ (.tail _ (List.mem_append_right _ q)))
  · obtain ⟨rts, n9, tts, fut, past, rfl, hF, hP, hpf, hlt, hfe, hm1, hm2, hh, hl, hG⟩ := hJ
    cases tts <;> exact hF
  · exact ⟨[], 0, titles, z, [], rfl, hF, hp, (fun p hp => nomatch hp), ktn_ltOf q1.2, allAp_at hne, rfl, rfl, rfl, by simpa using hv, fun p hp _ => hp⟩
end
theorem zz10 : Hold True := by first | walk1 | exact ⟨trivial⟩
set_option maxHeartbeats 1500000
local macro_rules | `(tactic| walk_at "call ref") => zap `Mine.c_islevel ["M y"]
def RootsIn (P : Params) (led : List (Addr × Obj)) : List Value → List Str → Prop
  | [], [] => True
  | v :: vs, t :: ts => (∃ x dx es lv k u cl kl, v = .ref x ∧ (x, instObj 188 dx) ∈ led ∧ (dx, dictOf es 19) ∈ led ∧ ItemEs P lv k t u cl kl es) ∧ RootsIn P led vs ts
  | _, _ => False
def RecAt (ts : List TK) (a : Int) (y : Str) : Prop := ∃ t0 t1 t3 t4 t5 : TK, (ts[(a + 0).toNat]? = some t0 ∧ (t0.kind == "number") = true ∧ t0.worth = "01") ∧ (ts[(a + 1 + 0).toNat]? = some t1 ∧ (t1.kind == "word") = true ∧ t1.worth = y) ∧ signIs ts (a + 1 + 1 + 0) "." = true ∧
  (ts[(a + 1 + 1 + 1 + 0).toNat]? = some t3 ∧ (t3.kind == "number") = true ∧ t3.worth = "05") ∧ (ts[(a + 1 + 1 + 1 + 1 + 0).toNat]? = some t4 ∧ (t4.kind == "word") = true ∧ t4.worth.length ≤ 100 ∧ (!rsv t4.worth) = true) ∧
  signIs ts (a + 1 + 1 + 1 + 1 + 1 + 0) "." = false ∧ pk ts (a + 1 + 1 + 1 + 1 + 1 + 0) = .ref t5.x ∧ (∀ x, wordIs ts (a + 1 + 1 + 1 + 1 + 1 + 0) x = (("BINARY" : Str) == x)) ∧ signIs ts (a + 1 + 1 + 1 + 1 + 1 + 1 + 0) "." = true
theorem fx {ts : List TK} {a : Int} {t : TK} (ha : 0 ≤ a) (h : ts[(a + 0).toNat]? = some t) : 0 < ts.length ∧ ts[(if (ts.length : Int) - 1 < a then (ts.length : Int) - 1 else a).toNat]? = some t := by
  have h1 := (List.getElem?_eq_some_iff.mp h).1
  refine ⟨by omega, ?_⟩
  rw [if_neg (by omega)]
  rwa [Int.add_zero] at h
theorem upd_id {d : Addr} {o : Obj} {n n' : List (Addr × Obj)} (U : Upd d o o n n') : n' = n := by
  induction U with
  | head _ => rfl
  | tail _ _ ih => rw [ih]
theorem news_mid {h₀ h : Heap} {L : Addr} {p : Addr × Obj} {rled n' : List (Addr × Obj)} (B : News h₀ L h (p :: rled)) (N : News h₀ L h n') : News h₀ L h (p :: (n' ++ rled)) := fun q hq => by
  rcases List.mem_cons.mp hq with rfl | hq
  · exact B _ (.head _)
  · exact (List.mem_append.mp hq).elim (N q) fun h => B q (.tail _ h)
def RecsAt (ts : List TK) : Int → List Str → Prop
  | _, [] => True
  | a, y :: r => RecAt ts a y ∧ RecsAt ts (a + 1 + 1 + 1 + 1 + 1 + 1 + 1) r
theorem pw_app {b : List (Addr × Obj)} (hb : PW b) : ∀ {a : List (Addr × Obj)}, PW a → (∀ p ∈ a, ∀ q ∈ b, q.1 ≠ p.1) → PW (a ++ b)
  | [], _, _ => hb
  | p :: a, h, k => ⟨allAp_of fun q hq => (List.mem_append.mp hq).elim (allAp_at h.1 q) (k p (.head _) q), pw_app hb h.2 fun p' hp' => k p' (.tail _ hp')⟩
theorem fut_app {P : Params} {b : List (Addr × Obj)} {us : List Value} {ss : List Str} (hb : Fut P b us ss) : ∀ {a : List (Addr × Obj)} {vs : List Value} {ts : List Str}, Fut P a vs ts → Fut P (a ++ b) (vs ++ us) (ts ++ ss)
  | a, v :: v1 :: r, nm :: ts, h => by
    obtain ⟨x, dx, kl, y, dy, cl, cl1, kl1, es, es1, nm1, u1, u2, t1, t2, n1, z', e1, e2, rfl, he, he1, hF'⟩ := h
    exact ⟨x, dx, kl, y, dy, cl, cl1, kl1, es, es1, nm1, u1, u2, t1, t2, n1, z' ++ b, e1, e2, rfl, he, he1, fut_app hb hF'⟩
  | a, [], [], h => by cases h; exact hb
  | _, [], _ :: _, h => h.elim
  | _, [_], [], h => h.elim
  | _, [_], _ :: _, h => h.elim
  | _, _ :: _ :: _, [], h => h.elim
theorem fut_roots {P : Params} {led : List (Addr × Obj)} : ∀ {z : List (Addr × Obj)} {vs : List Value} {ts : List Str}, Fut P z vs ts → (∀ p ∈ z, Gd P p.2 → p ∈ led) → RootsIn P led (heads vs) ts
  | a, v :: v1 :: r, nm :: ts, h, k => by
    obtain ⟨x, dx, kl, y, dy, cl, cl1, kl1, es, es1, nm1, u1, u2, t1, t2, n1, z', e1, e2, rfl, he, he1, hF'⟩ := h
    exact ⟨⟨x, dx, es, _, _, _, _, _, e1, k _ (.head _) (.inl ⟨_, rfl⟩), k _ (.tail _ (.head _)) (.inr ⟨_, _, _, _, _, _, rfl, he⟩), he⟩, fut_roots hF' fun p hp => k p (.tail _ (.tail _ (.tail _ (.tail _ (.tail _ hp)))))⟩
  | a, [], [], h, _ => trivial
  | _, [], _ :: _, h, _ => h.elim
  | _, [_], [], h, _ => h.elim
  | _, [_], _ :: _, h, _ => h.elim
  | _, _ :: _ :: _, [], h, _ => h.elim
theorem gd_part (P : Params) (z : List (Addr × Obj)) : ∃ led : List (Addr × Obj), ∀ p, p ∈ led ↔ p ∈ z ∧ Gd P p.2 := by
  classical exact ⟨z.filter fun p => decide (Gd P p.2), fun p => by rw [List.mem_filter, decide_eq_true_iff]⟩
section
variable {prog : Program} {w : World} {A : Around} {E : Value → Shared → Prop} {s : Shared} {env : Env} {test : PySem.Expr} {body orelse : List Stmt} {Q : Flow → Shared → Prop} {kw : Nat}
theorem whl_hold {pos : Pos} (h : Hold (WhlRest prog w A E env test body orelse Q 100 s)) : wpAny (model prog w) A (exec (.While test body orelse pos) env) Q E s := whl_start 100 h.out
theorem loop_list {α : Type} (J : List α → Heap → Prop) (last : ∀ h tk, J [] h → WhlRest prog w A E env test body orelse Q kw { s with heap := h, toks := tk })
    (step : ∀ y r h tk, J (y :: r) h → (∀ h' tk', J r h' → WhlRest prog w A E env test body orelse Q kw { s with heap := h', toks := tk' }) → WhlRest prog w A E env test body orelse Q kw { s with heap := h, toks := tk }) :
    ∀ (l : List α) h tk, J l h → WhlRest prog w A E env test body orelse Q kw { s with heap := h, toks := tk }
  | [], h, tk, hJ => last h tk hJ
  | y :: r, h, tk, hJ => step y r h tk hJ fun h' tk' hJ' => loop_list J last step r h' tk' hJ'
end
section
local macro_rules
  | `(tactic| walk_at "exec While") => `(tactic| (k_here; refine whl_hold ?_))
  | `(tactic| walk_at "WhlRest") => zst
  | `(tactic| walk_at "call ref") => zstR 365
  | `(tactic| walk_at "call builtin:list.append") => zst
local macro_rules | `(tactic| walk_at "call ref") => zstR 344
variable {w : World} {A : Around} {s : Shared} {base h₀ : Heap} {L : Addr} {m : Str → Option Value} {news news' : List (Addr × Obj)} {Q E : Value → Shared → Prop} {r dr l nd : Addr} {k : RK} {a : Int} {ta : Nat} {ts : List TK}
theorem c_entries {a' : Int} {titles : List Str} (hlen : titles.length ≤ 2) (C : Cx w A base h₀ L m s.heap news 25) (hr : (r, instObj 617 dr) ∈ news) (hd : (dr, rdD k l nd a ta) ∈ news) (hT : Toks h₀ l ts) (ha : 0 ≤ a) (hR : RecsAt ts a titles) (hy : ∀ y ∈ titles, y.length ≤ 100 ∧ (!rsv y) = true) (hq : kindIs ts (a' + 0) "number" = false) (ha' : a' = a + 7 * (titles.length : Int)) (hun : A.units + 200 < cLine)
    (h : ∀ rl vs n rled ta' h' tk', RootsIn w.params rled vs titles → Fr h₀ L h' m → (∀ news', Upd dr (rdD k l nd a ta) (rdD k l nd a' ta') news news' → News h₀ L h' ((rl, lst vs.toArray n) :: (news' ++ rled))) → (∀ q ∈ news, q.1 ≠ rl) → (∀ p ∈ rled, p.1 ≠ rl ∧ ∀ q ∈ news, q.1 ≠ p.1) → Q (.ref rl) { s with heap := h', toks := tk' }) :
    wpAny (model PG w) A (call (.ref 372) [.ref r]) Q E s := by
  refine' enterX [("reader", .ref r)] [(r, instObj 617 dr), (dr, rdD k l nd a ta)] C (sub2 hr hd) ?k6 ?k7 ?k9 ?kB ?_
  case k6 => k_is
  case k7 => k_is
  case k9 => exact BindsTo.of_eq rfl
  walk_at "M sides"
  intro dp fr gd un Q₁ E₁ g L' h₁ tk env outer mean mg mb eA hQ hE₁ hPO ret retU FG st F' N' B' X' T' lt room hg
  subst eA
  k_lt lt
  (try dsimp only [AA] at room)
  (try dsimp only [AA] at hun)
  have hT' := hT.keeps st
  have hne := rd_ne N'
  (try dsimp only)
  (try k_fold)
  k_steps
  all_goals (try with_reducible refine hQ _ _ ?_)
  (with_reducible rename Fr g _ _ _ => kF)
  (with_reducible rename News g _ _ _ => kN)
  rename_i el h8 q1 h9 _ _ _
  obtain ⟨q1, q2⟩ := q1
  replace hne : @Ne Nat r dr := hne
  have nr : el ≠ r := Nat.ne_of_gt q1
  have nd' : el ≠ dr := Nat.ne_of_gt q2
  have offE : ∀ (c : Int) (tc : Nat) (z : List (Addr × Obj)), (∀ p ∈ z, p.1 ≠ el ∧ p.1 ≠ r ∧ p.1 ≠ dr) → ∀ p ∈ (r, instObj 617 dr) :: (dr, rdD k l nd c tc) :: z, p.1 ≠ el := fun c tc z hz => List.forall_mem_cons.mpr ⟨nr.symm, List.forall_mem_cons.mpr ⟨nd'.symm, fun p hp => (hz p hp).1⟩⟩
  refine Hold.mk (loop_list (fun tl h => ∃ (c : Int) (tc nv : Nat) (vs : List Value) (tt : List Str) (z : List (Addr × Obj)), 0 ≤ c ∧ a' = c + 7 * (tl.length : Int) ∧ RecsAt ts c tl ∧ (∀ y ∈ tl, y.length ≤ 100 ∧ (!rsv y) = true) ∧ Fr g L' h (fun y => if y = Str.ofString "entries" then some (Value.ref el) else List.lookup y [(Str.ofString "reader", Value.ref r)].reverse) ∧ News g L' h ((el, lst vs.toArray nv) :: (r, instObj 617 dr) :: (dr, rdD k l nd c tc) :: z) ∧ Fut w.params z vs tt ∧ tt ++ tl = titles ∧ PW z ∧ (∀ p ∈ z, p.1 ≠ el ∧ p.1 ≠ r ∧ p.1 ≠ dr) ∧ vs.length + 2 * tl.length ≤ 4) (fun h9 tk9 hJ => ?_) (fun y tr h9 tk9 hJ ih => ?_) titles _ _ ?_)
  · clear kF kN
    obtain ⟨c, tc, nv, vs, tt, z, hc, e, hRc, hyc, F, N, hF, ett, hP, hz, hl⟩ := hJ
    obtain rfl : a' = c := by rw [e]; simp
    rw [List.append_nil] at ett
    subst ett
    clear hR hy hRc hyc e
    refine whl_turn (by passes_own) ?_
    k_steps
    all_goals (try with_reducible refine hQ _ _ ?_)
    (with_reducible rename Fr g _ _ _ => kF)
    (with_reducible rename News g _ _ _ => kN)
    refine Hold.mk (c_nested (by walk_at "M cx") (by walk_at "M units") (.head _) (fun p hp => .tail _ (.tail _ (.tail _ hp))) hF hP (allAp_of fun p hp => (hz p hp).1) (by omega) fun rl n9 h' tk' F8 hn hr8 => ?_)
    obtain ⟨led, hled⟩ := gd_part w.params z
    have N8 := hn ((r, instObj 617 dr) :: (dr, rdD k l nd a' tc) :: led) (memCons (.tail _ (.head _)) (memCons (.tail _ (.tail _ (.head _))) fun p hp => .tail _ (.tail _ (.tail _ ((hled p).mp hp).1)))) (List.forall_mem_cons.mpr ⟨fun q => ?_, List.forall_mem_cons.mpr ⟨fun q => ?_, fun p hp _ => ((hled p).mp hp).2⟩⟩)
    rotate_left
    · rcases List.mem_cons.mp q with q | q
      · exact absurd (congrArg Prod.fst q).symm nr
      · exact absurd rfl (hz _ q).2.1
    · rcases List.mem_cons.mp q with q | q
      · exact absurd (congrArg Prod.fst q).symm nd'
      · exact absurd rfl (hz _ q).2.2
    clear kF kN hn
    k_steps
    all_goals (try with_reducible refine hQ _ _ ?_)
    (with_reducible rename Fr g _ _ _ => kF)
    (with_reducible rename News g _ _ _ => kN)
    have B := backNew (m'' := m) C hg FG st kN ((rl, lst (heads vs).toArray n9) :: led) (List.forall_mem_cons.mpr ⟨⟨.head _, nin2 (hr8 (r, _) (.tail _ (.head _))).symm (hr8 (dr, _) (.tail _ (.tail _ (.head _)))).symm⟩, fun p hp => ⟨.tail _ (.tail _ (.tail _ hp)), nin2 (hz p ((hled p).mp hp).1).2.1 (hz p ((hled p).mp hp).1).2.2⟩⟩)
    refine h _ (heads vs) _ led _ _ _ (fut_roots hF fun p hp hg => (hled p).mpr ⟨hp, hg⟩) (FG.kept kF.keep) (fun news' U => news_mid B.1 (retU _ _ _ [(r, instObj 617 dr), (dr, _)] news' _ _ _ kF (fun p hp => kN p (memCons (.tail _ (.head _)) (memCons (.tail _ (.tail _ (.head _))) memNil) p hp)) U (.tail _ (.head _)) (fun p hp np => ?_)).2) (fun q hq => B.2 q hq _ (.head _)) (fun p hp => ⟨hr8 p (.tail _ (.tail _ (.tail _ ((hled p).mp hp).1))), fun q hq => B.2 q hq p (.tail _ hp)⟩)
    rcases List.mem_cons.mp hp with rfl | hp
    · exact .head _
    · rcases List.mem_cons.mp hp with rfl | hp
      · exact absurd rfl np
      · cases hp
  · clear kF kN ret retU
    obtain ⟨c, tc, nv, vs, tt, z, hc, e, ⟨⟨t0, t1, t3, t4, t5, ⟨p1, p2, p3⟩, ⟨p4, p5, rfl⟩, p6, ⟨p7, p8, p9⟩, ⟨p10, p11, p12, p13⟩, p14, p15, p16, p17⟩, hRr⟩, hyc, F, N, hF, ett, hP, hz, hl⟩ := hJ
    obtain ⟨hln, f1⟩ := fx hc p1
    obtain ⟨_, f2⟩ := fx (by omega) p7
    have i0 : kindIs ts (c + 0) "number" = true := by unfold kindIs; rw [p1]; exact p2
    have i1 : kindIs ts (c + 1 + 1 + 1 + 0) "number" = true := by unfold kindIs; rw [p7]; exact p8
    obtain ⟨y1, y2⟩ := hyc _ (.head _)
    have hll : vs.length ≤ 4 := by omega
    have oE := fun c tc => offE c tc z hz
    refine whl_turn (by passes_own) ?_
    k_steps
    all_goals (try with_reducible refine hQ _ _ ?_)
    (with_reducible rename Fr g _ _ _ => kF)
    (with_reducible rename News g _ _ _ => kN)
    refine Hold.mk (c_entry1 (by walk_at "M cx") (.tail _ (.head _)) (.tail _ (.tail _ (.head _))) hT' hc hln f1 p1 p2 p3 p4 p5 y1 y2 p6 ?_)
    intro x dx cl kl es t9 tc1 h1 tk1 hes F1 hn1 q8 d1 d2 d3 d4 d5 d6
    have N1 := hn1 _ (.tail nd' (.tail hne (.head fun p hp => (hz p hp).2.2)))
    clear kF kN hn1
    obtain ⟨⟨a1, a2⟩, a3, a4⟩ := q8 (el, _) (.head _)
    obtain ⟨⟨b1, b2⟩, b3, b4⟩ := q8 (dr, _) (.tail _ (.tail _ (.head _)))
    obtain ⟨⟨c1, c2⟩, c3, c4⟩ := q8 (r, _) (.tail _ (.head _))
    have z8 : ∀ p ∈ z, (p.1 ≠ cl ∧ p.1 ≠ kl) ∧ p.1 ≠ x ∧ p.1 ≠ dx := fun p hp => q8 p (.tail _ (.tail _ (.tail _ hp)))
    clear q8
    k_steps
    all_goals (try with_reducible refine hQ _ _ ?_)
    (with_reducible rename Fr g _ _ _ => kF)
    (with_reducible rename News g _ _ _ => kN)
    refine Hold.mk (append_K kF kN (.tail a2.symm (.tail a1.symm (.tail a3.symm (.tail a4.symm (.head (oE _ _)))))) (fun h2 F2 N2 => ?_) (size_line (by simp only [List.size_toArray]; omega)))
    clear kF kN
    simp only [List.push_toArray] at N2
    k_steps
    all_goals (try with_reducible refine hQ _ _ ?_)
    (with_reducible rename Fr g _ _ _ => kF)
    (with_reducible rename News g _ _ _ => kN)
    refine Hold.mk (whl_turn (by passes_own) ?_)
    k_steps
    all_goals (try with_reducible refine hQ _ _ ?_)
    (with_reducible rename Fr g _ _ _ => kF)
    (with_reducible rename News g _ _ _ => kN)
    refine Hold.mk (c_entry5 (by walk_at "M cx") (.tail _ (.tail _ (.tail _ (.tail _ (.tail _ (.head _)))))) (.tail _ (.tail _ (.tail _ (.tail _ (.tail _ (.tail _ (.head _))))))) hT' (by omega) hln f2 p7 p8 p9 p10 p11 p12 p13 p14 p15 p16 p17 ?_)
    intro y dy cl1 kl1 es1 t8 tc2 h3 tk3 hes1 F3 hn3 r8 g1 g2 g3 g4 g5 g6
    have N3 := hn3 _ (.tail b2.symm (.tail b1.symm (.tail b3.symm (.tail b4.symm (.tail nd' (.tail hne (.head fun p hp => (hz p hp).2.2)))))))
    clear kF kN hn3
    obtain ⟨⟨a5, a6⟩, a7, a8⟩ := r8 (el, _) (.tail _ (.tail _ (.tail _ (.tail _ (.head _)))))
    obtain ⟨_, b7, b8⟩ := r8 (dr, _) (.tail _ (.tail _ (.tail _ (.tail _ (.tail _ (.tail _ (.head _)))))))
    obtain ⟨_, c7, c8⟩ := r8 (r, _) (.tail _ (.tail _ (.tail _ (.tail _ (.tail _ (.head _))))))
    obtain ⟨_, x7, x8⟩ := r8 (x, _) (.tail _ (.tail _ (.head _)))
    obtain ⟨_, dx7, dx8⟩ := r8 (dx, _) (.tail _ (.tail _ (.tail _ (.head _))))
    obtain ⟨_, k7, k8⟩ := r8 (kl, _) (.head _)
    have z9 : ∀ p ∈ z, p.1 ≠ y ∧ p.1 ≠ dy := fun p hp => (r8 p (.tail _ (.tail _ (.tail _ (.tail _ (.tail _ (.tail _ (.tail _ (hp))))))))).2
    clear r8
    k_steps
    all_goals (try with_reducible refine hQ _ _ ?_)
    (with_reducible rename Fr g _ _ _ => kF)
    (with_reducible rename News g _ _ _ => kN)
    refine Hold.mk (append_K kF kN (.tail a6.symm (.tail a5.symm (.tail a7.symm (.tail a8.symm (.tail a2.symm (.tail a1.symm (.tail a3.symm (.tail a4.symm (.head (oE _ _)))))))))) (fun h4 F4 N4 => ?_) (size_line (by simp only [List.size_toArray, List.length_append, List.length_cons, List.length_nil]; omega)))
    clear kF kN
    simp only [List.push_toArray, List.append_assoc, List.cons_append, List.nil_append] at N4
    k_steps
    all_goals (try with_reducible refine hQ _ _ ?_)
    (with_reducible rename Fr g _ _ _ => kF)
    (with_reducible rename News g _ _ _ => kN)
    have hB : Fut w.params [(x, instObj 188 dx), (dx, dictOf es 19), (kl, lst #[] 0), (y, instObj 188 dy), (dy, dictOf es1 19)] [.ref x, .ref y] [t1.worth] := ⟨x, dx, kl, y, dy, _, _, _, es, es1, _, _, _, _, _, _, [], rfl, rfl, rfl, hes, hes1, rfl⟩
    have pB : PW [(x, instObj 188 dx), (dx, dictOf es 19), (kl, lst #[] 0), (y, instObj 188 dy), (dy, dictOf es1 19)] := ⟨⟨⟨d6.symm⟩, ⟨d3.symm⟩, ⟨x7.symm⟩, ⟨x8.symm⟩, trivial⟩, ⟨⟨d5.symm⟩, ⟨dx7.symm⟩, ⟨dx8.symm⟩, trivial⟩, ⟨⟨k7.symm⟩, ⟨k8.symm⟩, trivial⟩, ⟨⟨g6.symm⟩, trivial⟩, trivial, trivial⟩
    have zB : ∀ p ∈ z, ∀ q ∈ [(x, instObj 188 dx), (dx, dictOf es 19), (kl, lst #[] 0), (y, instObj 188 dy), (dy, dictOf es1 19)], q.1 ≠ p.1 := fun p hp => List.forall_mem_cons.mpr ⟨(z8 p hp).2.1.symm, List.forall_mem_cons.mpr ⟨(z8 p hp).2.2.symm, List.forall_mem_cons.mpr ⟨(z8 p hp).1.2.symm, List.forall_mem_cons.mpr ⟨(z9 p hp).1.symm, List.forall_mem_cons.mpr ⟨(z9 p hp).2.symm, fun _ h => nomatch h⟩⟩⟩⟩⟩
    have hB' : ∀ p ∈ [(x, instObj 188 dx), (dx, dictOf es 19), (kl, lst #[] 0), (y, instObj 188 dy), (dy, dictOf es1 19)], p.1 ≠ el ∧ p.1 ≠ r ∧ p.1 ≠ dr := (List.forall_mem_cons.mpr ⟨⟨a3.symm, c3.symm, b3.symm⟩, List.forall_mem_cons.mpr ⟨⟨a4.symm, c4.symm, b4.symm⟩, List.forall_mem_cons.mpr ⟨⟨a2.symm, c2.symm, b2.symm⟩, List.forall_mem_cons.mpr ⟨⟨a7.symm, c7.symm, b7.symm⟩, List.forall_mem_cons.mpr ⟨⟨a8.symm, c8.symm, b8.symm⟩, fun _ h => nomatch h⟩⟩⟩⟩⟩)
    refine Hold.mk (ih _ _ ⟨c + 1 + 1 + 1 + 1 + 1 + 1 + 1, _, _, _, tt ++ [t1.worth], z ++ [(x, instObj 188 dx), (dx, dictOf es 19), (kl, lst #[] 0), (y, instObj 188 dy), (dy, dictOf es1 19)], by omega, ?_, hRr, fun y hy => hyc y (.tail _ hy), kF, cb_drop kN (memCons (.tail _ (.tail _ (.tail _ (.tail _ (.tail _ (.tail _ (.tail _ (.tail _ (.head _))))))))) (memCons (.tail _ (.tail _ (.tail _ (.tail _ (.tail _ (.tail _ (.tail _ (.tail _ (.tail _ (.head _)))))))))) (memCons (.tail _ (.tail _ (.tail _ (.tail _ (.tail _ (.tail _ (.tail _ (.tail _ (.tail _ (.tail _ (.head _))))))))))) fun p hp => (List.mem_append.mp hp).elim (fun hp => .tail _ (.tail _ (.tail _ (.tail _ (.tail _ (.tail _ (.tail _ (.tail _ (.tail _ (.tail _ (.tail _ (hp)))))))))))) ((memCons (.tail _ (.tail _ (.tail _ (.tail _ (.tail _ (.tail _ (.head _))))))) (memCons (.tail _ (.tail _ (.tail _ (.tail _ (.tail _ (.tail _ (.tail _ (.head _)))))))) (memCons (.tail _ (.tail _ (.tail _ (.tail _ (.head _))))) (memCons (.tail _ (.tail _ (.head _))) (memCons (.tail _ (.tail _ (.tail _ (.head _)))) (memNil)))))) p)))),
      fut_app hB hF, (List.append_assoc ..).trans ett, pw_app pB hP zB, fun p hp => (List.mem_append.mp hp).elim (hz p) (hB' p), ?_⟩)
    · rw [e]; simp only [List.length_cons]; omega
    · simp only [List.length_append, List.length_cons, List.length_nil] at hl ⊢; omega
  · exact ⟨a, ta, 0, [], [], [], ha, ha', hR, hy, kF, kN, rfl, rfl, trivial, (fun p hp => nomatch hp), by simp only [List.length_nil]; omega⟩
end
theorem zz11 : Hold True := by first | walk1 | exact ⟨trivial⟩
set_option maxHeartbeats 0
section
variable {w : World} {A : Around} {s : Shared} {h₀ : Heap} {L : Addr} {m : Str → Option Value} {news : List (Addr × Obj)} {E : Value → Shared → Prop} {x dx fd sd : Addr} {es : List DictEntry} {expr : Bool}
theorem dt_files {Q : Value → Shared → Prop} (F : Fr h₀ L s.heap m) (X₀ : (KK w.params).In h₀) (N : News h₀ L s.heap news) (hx : (x, instObj 214 dx) ∈ news) (hd : (dx, dictOf es 6) ∈ news) (he : DataEs w.params fd sd es) (h : Q (.ref fd) { s with toks := s.toks + 1 }) :
    wpAny (model PG w) A (getAttr (.ref x) "files" expr) Q E s := by
  obtain ⟨a, b, c, d, e, f, wl, ll, ix, z, rfl⟩ := he
  exact get_own (attr := none) F X₀ (InstAt.of_news N hx hd) (by k_is) (by k_is) (by k_is) (by k_is) (by k_get) (by k_handed) h
theorem dt_sorts {Q : Value → Shared → Prop} (F : Fr h₀ L s.heap m) (X₀ : (KK w.params).In h₀) (N : News h₀ L s.heap news) (hx : (x, instObj 214 dx) ∈ news) (hd : (dx, dictOf es 6) ∈ news) (he : DataEs w.params fd sd es) (h : Q (.ref sd) { s with toks := s.toks + 1 }) :
    wpAny (model PG w) A (getAttr (.ref x) "sorts" expr) Q E s := by
  obtain ⟨a, b, c, d, e, f, wl, ll, ix, z, rfl⟩ := he
  exact get_own (attr := none) F X₀ (InstAt.of_news N hx hd) (by k_is) (by k_is) (by k_is) (by k_is) (by k_get) (by k_handed) h
end
local macro_rules | `(tactic| walk_at "getAttr ref") => zaps [(`Mine.dt_files, ["M z"]), (`Mine.dt_sorts, ["M z"])]
section
variable {prog : Program} {w : World} {A : Around} {E : Value → Shared → Prop} {s : Shared} {env : Env} {test : PySem.Expr} {body orelse : List Stmt} {Q : Flow → Shared → Prop} {g : Heap} {L' dr l nd : Addr} {k : RK} {a b : Int} {ta kw : Nat} {m : Str → Option Value} {rest : List (Addr × Obj)} {e1 e2 e3 e4 : Addr × Obj}
theorem loop_rd (hab : a ≤ b) (F : Fr g L' s.heap m) (N : News g L' s.heap (e1 :: e2 :: e3 :: e4 :: (dr, rdD k l nd a ta) :: rest))
    (last : ∀ tb h tk, Fr g L' h m → News g L' h (e1 :: e2 :: e3 :: e4 :: (dr, rdD k l nd b tb) :: rest) → WhlRest prog w A E env test body orelse Q kw { s with heap := h, toks := tk })
    (step : ∀ c tc h tk, a ≤ c → c < b → Fr g L' h m → News g L' h (e1 :: e2 :: e3 :: e4 :: (dr, rdD k l nd c tc) :: rest) → (∀ td h' tk', Fr g L' h' m → News g L' h' (e1 :: e2 :: e3 :: e4 :: (dr, rdD k l nd (c + 1) td) :: rest) → WhlRest prog w A E env test body orelse Q kw { s with heap := h', toks := tk' }) → WhlRest prog w A E env test body orelse Q kw { s with heap := h, toks := tk }) :
    WhlRest prog w A E env test body orelse Q kw s := by
  have key : ∀ n : Nat, ∀ c tc h tk, a ≤ c → c ≤ b → (b - c).toNat = n → Fr g L' h m → News g L' h (e1 :: e2 :: e3 :: e4 :: (dr, rdD k l nd c tc) :: rest) → WhlRest prog w A E env test body orelse Q kw { s with heap := h, toks := tk } := by
    intro n
    induction n with
    | zero =>
      intro c tc h tk h1 h2 h3 F N
      obtain rfl : c = b := by omega
      exact last tc h tk F N
    | succ n ih =>
      intro c tc h tk h1 h2 h3 F N
      exact step c tc h tk h1 (by omega) F N fun td h' tk' F' N' => ih (c + 1) td h' tk' (by omega) (by omega) (by omega) F' N'
  exact key _ a ta s.heap s.toks (Int.le_refl _) hab rfl F N
end
section
variable {w : World} {A : Around} {s' : Shared} {base g h₁ h₂ : Heap} {env : Env} {outer : List Env} {L' f x t dd : Addr} {m' : Str → Option Value} {cd : Value} {name : Str} {scope : Scope} {hide : List (Addr × Obj)} {mt : List Addr} {kp : Heap} {Q : Unit → Shared → Prop} {E : Value → Shared → Prop}
theorem raise_next (B : Below A base (env :: outer) g) (F : Fr g L' h₂ m') (hk : scope.kind = .function) (Z : Rsd (A.deeper (envOf name scope L' f cd)) h₂ mt x dd t kp s'.heap)
    (hg : ∀ b o, h₁.get? b = some o → b ∉ hide.map (·.1) → g.get? b = some o) (hn : ∀ p ∈ hide, g.get? p.1 = none) (hmt : ∀ b ∈ mt, b ∈ hide.map (·.1)) (hin : ∀ p ∈ hide, ∃ o, h₂.get? p.1 = some o)
    (k : ∀ h'', Rsd A h₁ (hide.map (·.1)) x dd t kp h'' → Q () { s' with heap := h'' }) :
    wpAny (model PG w) (A.deeper (envOf name scope L' f cd)) (leaving (envOf name scope L' f cd) (.ref x)) Q E s' := by
  have B₁ := B.push (name := name) (scope := scope) (a := f) (cd := cd) F hk
  have gf : ∀ b ∈ (env :: outer).filterMap (·.frame), ∃ o, g.get? b = some o := fun b hb => by
    obtain ⟨_, o, ho, _⟩ := B.frames.mem hb
    exact ⟨o, ho⟩
  have hfr := B₁.stack
  refine leaveNextD (base := kp) (a0 := .ref t) hfr (Z.frames _ hfr) rfl Z.tr Z.stays Z.new fun h'' y1 y2 y3 y4 => ?_
  have e1 : ∀ fr, A.frames = some fr → fr = env :: outer := fun fr hf => Option.some.inj (hf.symm.trans B.stack)
  refine k h'' ⟨y1, Z.new, fun fr hf => ?_, y3, fun fr hf L hL m hm => ?_, fun b o hb hm hfr' => ?_, ?_⟩
  · rw [e1 fr hf]; obtain ⟨_, _, y⟩ := y2; exact y
  · rw [e1 fr hf] at hL
    obtain ⟨o, ho⟩ := gf L hL
    have hn' : L ∉ hide.map (·.1) := fun q => by
      obtain ⟨p, hp, e⟩ := List.mem_map.mp q
      rw [← e, hn p hp] at ho; cases ho
    obtain ⟨oL, es, ep, hL1, r⟩ := hm
    have h2 : h₂.Ns L m := ⟨oL, es, ep, F.keep _ _ (hg _ _ hL1 hn'), r⟩
    exact y4.ns (Z.ns _ hfr L (List.mem_cons_of_mem _ hL) m h2)
  · have gb := hg b o hb hm
    refine Z.old b o (F.keep _ _ gb) (fun q => hm (hmt b q)) fun fr hf q => ?_
    rw [hfr] at hf
    obtain rfl := Option.some.inj hf
    change b ∈ L' :: (env :: outer).filterMap (·.frame) at q
    rcases List.mem_cons.mp q with q | q
    · rw [q] at gb
      exact absurd (Nat.lt_of_lt_of_le (Heap.lt_size gb) F.above) (Nat.lt_irrefl _)
    · exact hfr' _ B.stack q
  · cases q : h₁.get? dd with
    | none => rfl
    | some o =>
      by_cases m : dd ∈ hide.map (·.1)
      · obtain ⟨p, hp, e⟩ := List.mem_map.mp m
        obtain ⟨o', ho'⟩ := hin p hp
        rw [e, Z.dnew] at ho'; cases ho'
      · have := F.keep _ _ (hg dd o q m); rw [Z.dnew] at this; cases this
end
set_option maxHeartbeats 0
section
variable {w : World} {A : Around} {s : Shared} {base h₀ : Heap} {L : Addr} {m : Str → Option Value} {news news' : List (Addr × Obj)} {Q E : Value → Shared → Prop} {r dr l nd : Addr} {k : RK} {a : Int} {ta : Nat} {ts : List TK}
theorem c_isdone0 (C : Cx w A base h₀ L m s.heap news 2) (hr : (r, instObj 617 dr) ∈ news) (hd : (dr, rdD k l nd a ta) ∈ news) (hT : Toks h₀ l ts) (ha : 0 ≤ a) (hv : a < (ts.length : Int)) (h : ∀ h' tk', Fr h₀ L h' m → News h₀ L h' news → Q (.bool false) { s with heap := h', toks := tk' }) : wpAny (model PG w) A (call (.ref 478) [.ref r]) Q E s := by
  refine c_isdone C hr hd hT fun h' tk' F N => ?_
  rw [decide_eq_false (by omega)]; exact h h' tk' F N
theorem c_isdone1 (C : Cx w A base h₀ L m s.heap news 2) (hr : (r, instObj 617 dr) ∈ news) (hd : (dr, rdD k l nd a ta) ∈ news) (hT : Toks h₀ l ts) (ha : 0 ≤ a) (hv : (ts.length : Int) ≤ a) (h : ∀ h' tk', Fr h₀ L h' m → News h₀ L h' news → Q (.bool true) { s with heap := h', toks := tk' }) : wpAny (model PG w) A (call (.ref 478) [.ref r]) Q E s := by
  refine c_isdone C hr hd hT fun h' tk' F N => ?_
  rw [decide_eq_true (by omega)]; exact h h' tk' F N
end
theorem rsd_keep {A : Around} {base g h₂ h' kp : Heap} {env : Env} {outer : List Env} {L' f x t dd : Addr} {m' : Str → Option Value} {cd : Value} {name : Str} {scope : Scope} {led : List (Addr × Obj)} {mt : List Addr} (B : Below A base (env :: outer) g) (F : Fr g L' h₂ m') (hk : scope.kind = .function)
    (N : News g L' h₂ led) (Z : Rsd (A.deeper (envOf name scope L' f cd)) h₂ mt x dd t kp h') : ∀ p ∈ led, p.1 ∉ mt → kp.get? p.1 = some p.2 := fun p hp hm => by
  have B₁ := B.push (name := name) (scope := scope) (a := f) (cd := cd) F hk
  refine Z.old _ _ (N p hp).1 hm fun fr hf q => ?_
  rw [B₁.stack] at hf
  obtain rfl := Option.some.inj hf
  change p.1 ∈ L' :: (env :: outer).filterMap (·.frame) at q
  rcases List.mem_cons.mp q with q | q
  · exact (N p hp).2.1 q
  · obtain ⟨_, o, ho, _⟩ := B.frames.mem q
    rw [(N p hp).2.2] at ho; cases ho
theorem nin2' {r d z : Addr} (h1 : @Ne Nat z r) (h2 : @Ne Nat z d) : z ∉ [r, d] := fun q => by
  rcases List.mem_cons.mp q with q | q
  · exact h1 q
  · rcases List.mem_cons.mp q with q | q
    · exact h2 q
    · cases q
local macro_rules
  | `(tactic| walk_at "call ref") => zaps [(`Mine.c_isdone0, ["M y"]), (`Mine.c_isdone1, ["M y"]), (`Mine.c_name_bad, ["M z"])]
  | `(tactic| walk_at "exec While") => `(tactic| (k_here; refine whl_hold ?_))
  | `(tactic| walk_at "WhlRest") => zst
section
variable {w : World} {A : Around} {s : Shared} {base h₀ : Heap} {L : Addr} {m : Str → Option Value} {news news' : List (Addr × Obj)} {Q E : Value → Shared → Prop} {r dr l nd : Addr} {k : RK} {a : Int} {ta : Nat} {ts : List TK}
theorem c_file_bad {D dD fd sd : Addr} {ed : List DictEntry} {o : Obj} {kvs : List (Str × Value)} {sv : Array Value} {sn : Nat} {bs : Bool} {t0 : TK} (C : Cx w A base h₀ L m s.heap news 30) (hun : A.units + 300 < cLine) (hsub : ∀ p ∈ [(r, instObj 617 dr), (dr, rdD k l nd 0 ta), (D, instObj 214 dD), (dD, dictOf ed 6), (fd, o), (sd, lst sv sn)], p ∈ news) (hp : PW [(r, instObj 617 dr), (dr, rdD k l nd 0 ta), (D, instObj 214 dD), (dD, dictOf ed 6), (fd, o), (sd, lst sv sn)]) (hed : DataEs w.params fd sd ed) (lo : (fd == sysModules) = false) (ho : o.IsDictOf (PySem.strKind PG w) kvs)
    (hTg : ∀ g, (∀ b o', s.heap.get? b = some o' → b ∉ ([(r, instObj 617 dr), (dr, rdD k l nd 0 ta), (D, instObj 214 dD), (dD, dictOf ed 6), (fd, o), (sd, lst sv sn)] : List (Addr × Obj)).map (·.1) → g.get? b = some o') → Toks g l ts)
    (hx0 : ts[((0 : Int) + 0).toNat]? = some t0) (hk0 : (t0.kind == "word") = true) (hz0 : t0.worth.length ≤ 100) (hv0 : (!rsv t0.worth) = false)
    (hE : ∀ e d t1 y u kp k1 k2 h' tk', Rsd A s.heap (([(r, instObj 617 dr), (dr, rdD k l nd 0 ta), (D, instObj 214 dD), (dD, dictOf ed 6), (fd, o), (sd, lst sv sn)] : List (Addr × Obj)).map (·.1)) e d t1 kp h' → kp.get? d = some (faultD w.params y u t0.tup k1 k2) → kp.get? D = some (instObj 214 dD) → kp.get? dD = some (dictOf ed 6) → kp.get? fd = some o → kp.get? sd = some (lst sv sn) → E (.ref e) { s with heap := h', toks := tk' }) : wpAny (model PG w) A (call (.ref 379) [.ref r, .ref D, .bool bs]) Q E s := by
  refine' enterX [("reader", .ref r), ("data", .ref D), ("is_sort", .bool bs)] [(r, instObj 617 dr), (dr, rdD k l nd 0 ta), (D, instObj 214 dD), (dD, dictOf ed 6), (fd, o), (sd, lst sv sn)] C hsub ?k6 ?k7 ?k9 ?kB ?_
  case k6 => k_is
  case k7 => k_is
  case k9 => exact BindsTo.of_eq rfl
  walk_at "M sides"
  intro dp fr gd un Q₁ E₁ g L' h₁ tk env outer mean mg mb eA hQ hE₁ hPO ret retU FG st F' N' B' X' T' lt room hg
  subst eA
  clear ret retU
  have hn0 : ∀ p ∈ [(r, instObj 617 dr), (dr, rdD k l nd 0 ta), (D, instObj 214 dD), (dD, dictOf ed 6), (fd, o), (sd, lst sv sn)], g.get? p.1 = none := fun p hp => (N' p hp).2.2
  k_lt lt
  (try dsimp only [AA] at room)
  (try dsimp only [AA] at hun)
  have hp0 := hp.1
  have hp1 := hp.2.1
  have hp2 := hp.2.2.1
  have hp3 := hp.2.2.2.1
  have hp4 := hp.2.2.2.2.1
  clear hp
  have hT' := hTg g hg
  clear hTg
  obtain ⟨hlen, hxf⟩ := fx (a := 0) (Int.le_refl 0) hx0
  (try dsimp only)
  (try k_fold)
  k_steps
  all_goals (try with_reducible refine hQ _ _ ?_)
  (with_reducible rename Fr g _ _ _ => kF)
  (with_reducible rename News g _ _ _ => kN)
  (with_reducible rename Rsd _ _ _ _ _ _ _ _ => Z)
  have kk := rsd_keep B' kF rfl kN Z
  refine hE₁ _ _ ?_
  refine raise_next B' kF rfl Z hg hn0 (fun b hb => ?_) (fun p hp => ⟨p.2, (kN p (by simp only [List.mem_cons, List.not_mem_nil, or_false] at hp; rcases hp with rfl | rfl | rfl | rfl | rfl | rfl <;> k_mem)).1⟩) fun h'' Z' => ?_
  · rcases List.mem_cons.mp hb with rfl | hb
    · exact .head _
    · rcases List.mem_cons.mp hb with rfl | hb
      · exact .tail _ (.head _)
      · cases hb
  · exact hE _ _ _ _ _ _ _ _ _ _ Z' (by assumption) (kk (D, _) (by k_mem) (nin2' (by walk_at "M ne") (by walk_at "M ne"))) (kk (dD, _) (by k_mem) (nin2' (by walk_at "M ne") (by walk_at "M ne"))) (kk (fd, _) (by k_mem) (nin2' (by walk_at "M ne") (by walk_at "M ne"))) (kk (sd, _) (by k_mem) (nin2' (by walk_at "M ne") (by walk_at "M ne")))
theorem c_file_wrong {D dD fd sd : Addr} {ed : List DictEntry} {o : Obj} {kvs : List (Str × Value)} {sv : Array Value} {sn : Nat} {bs : Bool} {t0 tl : TK} (C : Cx w A base h₀ L m s.heap news 30) (hun : A.units + 300 < cLine) (hsub : ∀ p ∈ [(r, instObj 617 dr), (dr, rdD k l nd 0 ta), (D, instObj 214 dD), (dD, dictOf ed 6), (fd, o), (sd, lst sv sn)], p ∈ news) (hp : PW [(r, instObj 617 dr), (dr, rdD k l nd 0 ta), (D, instObj 214 dD), (dD, dictOf ed 6), (fd, o), (sd, lst sv sn)]) (hed : DataEs w.params fd sd ed) (lo : (fd == sysModules) = false) (ho : o.IsDictOf (PySem.strKind PG w) kvs)
    (hTg : ∀ g, (∀ b o', s.heap.get? b = some o' → b ∉ ([(r, instObj 617 dr), (dr, rdD k l nd 0 ta), (D, instObj 214 dD), (dD, dictOf ed 6), (fd, o), (sd, lst sv sn)] : List (Addr × Obj)).map (·.1) → g.get? b = some o') → Toks g l ts)
    (hx0 : ts[((0 : Int) + 0).toNat]? = some t0) (hk0 : (t0.kind == "word") = true) (hz0 : t0.worth.length ≤ 100) (hv0 : (!rsv t0.worth) = true)
    (hs : ∀ c : Int, 1 ≤ c → c ≤ (ts.length : Int) → signIs ts (c + 0) "." = false) (hxl : ts[(if (ts.length : Int) - 1 < (ts.length : Int) then (ts.length : Int) - 1 else (ts.length : Int)).toNat]? = some tl)
    (hE : ∀ e d t1 y u kp k1 k2 h' tk', Rsd A s.heap (([(r, instObj 617 dr), (dr, rdD k l nd 0 ta), (D, instObj 214 dD), (dD, dictOf ed 6), (fd, o), (sd, lst sv sn)] : List (Addr × Obj)).map (·.1)) e d t1 kp h' → kp.get? d = some (faultD w.params y u tl.tup k1 k2) → kp.get? D = some (instObj 214 dD) → kp.get? dD = some (dictOf ed 6) → kp.get? fd = some o → kp.get? sd = some (lst sv sn) → E (.ref e) { s with heap := h', toks := tk' }) : wpAny (model PG w) A (call (.ref 379) [.ref r, .ref D, .bool bs]) Q E s := by
  refine' enterX [("reader", .ref r), ("data", .ref D), ("is_sort", .bool bs)] [(r, instObj 617 dr), (dr, rdD k l nd 0 ta), (D, instObj 214 dD), (dD, dictOf ed 6), (fd, o), (sd, lst sv sn)] C hsub ?k6 ?k7 ?k9 ?kB ?_
  case k6 => k_is
  case k7 => k_is
  case k9 => exact BindsTo.of_eq rfl
  walk_at "M sides"
  intro dp fr gd un Q₁ E₁ g L' h₁ tk env outer mean mg mb eA hQ hE₁ hPO ret retU FG st F' N' B' X' T' lt room hg
  subst eA
  clear ret retU
  have hn0 : ∀ p ∈ [(r, instObj 617 dr), (dr, rdD k l nd 0 ta), (D, instObj 214 dD), (dD, dictOf ed 6), (fd, o), (sd, lst sv sn)], g.get? p.1 = none := fun p hp => (N' p hp).2.2
  k_lt lt
  (try dsimp only [AA] at room)
  (try dsimp only [AA] at hun)
  have hp0 := hp.1
  have hp1 := hp.2.1
  have hp2 := hp.2.2.1
  have hp3 := hp.2.2.2.1
  have hp4 := hp.2.2.2.2.1
  clear hp
  have hT' := hTg g hg
  clear hTg
  obtain ⟨hlen, hxf⟩ := fx (a := 0) (Int.le_refl 0) hx0
  (try dsimp only)
  (try k_fold)
  k_steps
  all_goals (try with_reducible refine hQ _ _ ?_)
  (with_reducible rename Fr g _ _ _ => kF)
  (with_reducible rename News g _ _ _ => kN)
  refine Hold.mk ?_
  refine loop_rd (b := (ts.length : Int)) (by omega) kF kN (fun tb h9 tk9 F9 N9 => ?_) (fun c tc h9 tk9 h1 h2 F9 N9 ih => ?_)
  · have hs9 := hs _ (by omega) (Int.le_refl _)
    refine whl_turn (by passes_own) ?_
    k_steps
    all_goals (try with_reducible refine hQ _ _ ?_)
    (with_reducible rename Fr g _ _ _ => kF2)
    (with_reducible rename News g _ _ _ => kN2)
    refine ⟨_, _, _, rfl, X'.keeps kF2.keep, (kN2 _ (.head _)).1, ?_⟩
    refine hE₁ _ _ ?_
    refine raise_out (hide := [(r, instObj 617 dr), (dr, rdD k l nd 0 ta), (D, instObj 214 dD), (dD, dictOf ed 6), (fd, o), (sd, lst sv sn)]) B' kF2 kN2 (.head _) (.tail _ (.head _)) (nin ⟨⟨by walk_at "M ne"⟩, ⟨by walk_at "M ne"⟩, ⟨by walk_at "M ne"⟩, ⟨by walk_at "M ne"⟩, ⟨by walk_at "M ne"⟩, ⟨by walk_at "M ne"⟩, trivial⟩) hg hn0 rfl fun h'' kp Z hl => ?_
    exact hE _ _ _ _ _ _ _ _ _ _ Z (hl _ (.tail _ (.head _)) (by walk_at "M ne")) (hl (D, _) (by k_mem) (by walk_at "M ne")) (hl (dD, _) (by k_mem) (by walk_at "M ne")) (hl (fd, _) (by k_mem) (by walk_at "M ne")) (hl (sd, _) (by k_mem) (by walk_at "M ne"))
  · have hs9 := hs c (by omega) (by omega)
    obtain ⟨t9, x9⟩ : ∃ t9, ts[(c + 0).toNat]? = some t9 := ⟨_, List.getElem?_eq_getElem (by omega)⟩
    refine whl_turn (by passes_own) ?_
    k_steps
    all_goals (try with_reducible refine hQ _ _ ?_)
    (with_reducible rename Fr g _ _ _ => kF2)
    (with_reducible rename News g _ _ _ => kN2)
    exact Hold.mk (ih _ _ _ kF2 kN2)
end
theorem roots_nil {P : Params} {led : List (Addr × Obj)} {vs : List Value} (h : RootsIn P led vs []) : vs = [] := by
  cases vs with
  | nil => rfl
  | cons v r => exact h.elim
theorem roots_cons {P : Params} {led : List (Addr × Obj)} {vs : List Value} {t : Str} {ts : List Str} (h : RootsIn P led vs (t :: ts)) : ∃ v r, vs = v :: r := by
  cases vs with
  | nil => exact h.elim
  | cons v r => exact ⟨v, r, rfl⟩
theorem dk_in {w : World} {A : Around} {s : Shared} {h₀ : Heap} {L d : Addr} {o : Obj} {m : Str → Option Value} {news : List (Addr × Obj)} {kvs : List (Str × Value)} {k : Str} {t : Tok} {E : Value → Shared → Prop} {b : Bool} {Q : Value → Shared → Prop} (N : News h₀ L s.heap news) (hp : (d, o) ∈ news) (hd : o.IsDictOf (PySem.strKind PG w) kvs) (lo : (d == sysModules) = false) (hb : (valueAt kvs k).isSome = b) (h : Q (.bool b) { s with toks := s.toks + 1 }) :
    wpAny (model PG w) A (compareOp .In (.str k t) (.ref d)) Q E s := kda_in N hp hd lo (strKind_is _ _ _ _) b hb h
theorem dk_set {w : World} {A : Around} {s : Shared} {h₀ : Heap} {L d : Addr} {o : Obj} {m : Str → Option Value} {news : List (Addr × Obj)} {kvs : List (Str × Value)} {k : Str} {t : Tok} {E : Value → Shared → Prop} {v : Value} {g : Obj → List (Addr × Obj)} {Q : Unit → Shared → Prop} (F : Fr h₀ L s.heap m) (N : News h₀ L s.heap news) (U : UpdF d o news g) (hd : o.IsDictOf (PySem.strKind PG w) kvs) (hz : kvs.length ≤ 1000)
    (h : ∀ h' o', Fr h₀ L h' m → News h₀ L h' (g o') → o'.IsDictOf (PySem.strKind PG w) (stored kvs k v) → Q () { s with heap := h', toks := s.toks + 1 }) : wpAny (model PG w) A (setItem (.ref d) (.str k t) v) Q E s := kda_set F N U hd (strKind_is _ _ _ _) (size_line hz) h
local macro_rules
  | `(tactic| walk_at "compareOp In str ref") => zap `Mine.dk_in ["M z"]
  | `(tactic| walk_at "setItem ref str") => zap `Mine.dk_set ["M z", "M s"]
section
variable {w : World} {A : Around} {s : Shared} {base h₀ : Heap} {L : Addr} {m : Str → Option Value} {news news' : List (Addr × Obj)} {Q E : Value → Shared → Prop} {r dr l nd : Addr} {k : RK} {a : Int} {ta : Nat} {ts : List TK}
theorem c_file_place {D dD fd sd : Addr} {ed : List DictEntry} {o : Obj} {kvs : List (Str × Value)} {sv : Array Value} {sn : Nat} {bs : Bool} {t0 : TK} {titles : List Str} {b b' : Int} (C : Cx w A base h₀ L m s.heap news 30) (hun : A.units + 300 < cLine) (hsub : ∀ p ∈ [(r, instObj 617 dr), (dr, rdD k l nd 0 ta), (D, instObj 214 dD), (dD, dictOf ed 6), (fd, o), (sd, lst sv sn)], p ∈ news) (hp : PW [(r, instObj 617 dr), (dr, rdD k l nd 0 ta), (D, instObj 214 dD), (dD, dictOf ed 6), (fd, o), (sd, lst sv sn)]) (hed : DataEs w.params fd sd ed) (lo : (fd == sysModules) = false) (ho : o.IsDictOf (PySem.strKind PG w) kvs)
    (hTg : ∀ g, (∀ b o', s.heap.get? b = some o' → b ∉ ([(r, instObj 617 dr), (dr, rdD k l nd 0 ta), (D, instObj 214 dD), (dD, dictOf ed 6), (fd, o), (sd, lst sv sn)] : List (Addr × Obj)).map (·.1) → g.get? b = some o') → Toks g l ts)
    (hx0 : ts[((0 : Int) + 0).toNat]? = some t0) (hk0 : (t0.kind == "word") = true) (hz0 : t0.worth.length ≤ 100) (hv0 : (!rsv t0.worth) = true) (hb1 : 1 ≤ b) (hb2 : b < (ts.length : Int))
    (hs : ∀ c : Int, 1 ≤ c → c < b → signIs ts (c + 0) "." = false) (hsb : signIs ts (b + 0) "." = true) (hR : RecsAt ts (b + 1) titles) (ht2 : titles.length ≤ 2) (hy : ∀ y ∈ titles, y.length ≤ 100 ∧ (!rsv y) = true) (hq : kindIs ts (b' + 0) "number" = false) (hb' : b' = b + 1 + 7 * (titles.length : Int)) (hkl : kvs.length ≤ 1000) (hbad : (valueAt kvs t0.worth).isSome = true ∨ titles = [])
    (hE : ∀ e d t1 y u kp k1 k2 h' tk', Rsd A s.heap (([(r, instObj 617 dr), (dr, rdD k l nd 0 ta), (D, instObj 214 dD), (dD, dictOf ed 6), (fd, o), (sd, lst sv sn)] : List (Addr × Obj)).map (·.1)) e d t1 kp h' → kp.get? d = some (faultD w.params y u t0.tup k1 k2) → kp.get? D = some (instObj 214 dD) → kp.get? dD = some (dictOf ed 6) → kp.get? fd = some o → kp.get? sd = some (lst sv sn) → E (.ref e) { s with heap := h', toks := tk' }) : wpAny (model PG w) A (call (.ref 379) [.ref r, .ref D, .bool bs]) Q E s := by
  refine' enterX [("reader", .ref r), ("data", .ref D), ("is_sort", .bool bs)] [(r, instObj 617 dr), (dr, rdD k l nd 0 ta), (D, instObj 214 dD), (dD, dictOf ed 6), (fd, o), (sd, lst sv sn)] C hsub ?k6 ?k7 ?k9 ?kB ?_
  case k6 => k_is
  case k7 => k_is
  case k9 => exact BindsTo.of_eq rfl
  walk_at "M sides"
  intro dp fr gd un Q₁ E₁ g L' h₁ tk env outer mean mg mb eA hQ hE₁ hPO ret retU FG st F' N' B' X' T' lt room hg
  subst eA
  clear ret retU
  have hn0 : ∀ p ∈ [(r, instObj 617 dr), (dr, rdD k l nd 0 ta), (D, instObj 214 dD), (dD, dictOf ed 6), (fd, o), (sd, lst sv sn)], g.get? p.1 = none := fun p hp => (N' p hp).2.2
  k_lt lt
  (try dsimp only [AA] at room)
  (try dsimp only [AA] at hun)
  have hp0 := hp.1
  have hp1 := hp.2.1
  have hp2 := hp.2.2.1
  have hp3 := hp.2.2.2.1
  have hp4 := hp.2.2.2.2.1
  clear hp
  have hT' := hTg g hg
  clear hTg
  obtain ⟨hlen, hxf⟩ := fx (a := 0) (Int.le_refl 0) hx0
  (try dsimp only)
  (try k_fold)
  k_steps
  all_goals (try with_reducible refine hQ _ _ ?_)
  (with_reducible rename Fr g _ _ _ => kF)
  (with_reducible rename News g _ _ _ => kN)
  refine Hold.mk ?_
  refine loop_rd (b := b) (by omega) kF kN (fun tb h9 tk9 F9 N9 => ?_) (fun c tc h9 tk9 h1 h2 F9 N9 ih => ?_)
  · refine whl_turn (by passes_own) ?_
    k_steps
    all_goals (try with_reducible refine hQ _ _ ?_)
    refine' c_entries ht2 ?cx ?hr ?hd hT' ?ha hR hy hq hb' ?hun ?_
    case cx => walk_at "M cx"
    case hr => k_mem
    case hd => k_mem
    case ha => omega
    case hun => walk_at "M units"
    intro rl vs n9 rled ta' h' tk' hroots F' hn' q8 q9
    have N' := hn' _ (by k_upd)
    clear hn'
    simp only [List.cons_append, List.nil_append] at N'
    replace q8 := allAp_of q8
    (try k_sweep)
    cases hin : (valueAt kvs t0.worth).isSome with
    | true =>
      k_steps
      all_goals (try with_reducible refine hQ _ _ ?_)
      (with_reducible rename Fr g _ _ _ => kF2)
      (with_reducible rename News g _ _ _ => kN2)
      refine ⟨_, _, _, rfl, X'.keeps kF2.keep, (kN2 (_, excObjD _ _) (by k_mem)).1, ?_⟩
      refine hE₁ _ _ ?_
      refine raise_out (hide := [(r, instObj 617 dr), (dr, rdD k l nd 0 ta), (D, instObj 214 dD), (dD, dictOf ed 6), (fd, o), (sd, lst sv sn)]) B' kF2 kN2 (by k_mem) (od := faultD w.params _ _ _ _ _) (by k_mem) (nin ⟨⟨by walk_at "M ne"⟩, ⟨by walk_at "M ne"⟩, ⟨by walk_at "M ne"⟩, ⟨by walk_at "M ne"⟩, ⟨by walk_at "M ne"⟩, ⟨by walk_at "M ne"⟩, trivial⟩) hg hn0 rfl fun h'' kp Z hl => ?_
      exact hE _ _ _ _ _ _ _ _ _ _ Z (hl (_, faultD w.params _ _ _ _ _) (by k_mem) (by walk_at "M ne")) (hl (D, _) (by k_mem) (by walk_at "M ne")) (hl (dD, _) (by k_mem) (by walk_at "M ne")) (hl (fd, _) (by k_mem) (by walk_at "M ne")) (hl (sd, _) (by k_mem) (by walk_at "M ne"))
    | false =>
      obtain rfl : titles = [] := by rcases hbad with q | q; (rw [hin] at q; cases q); exact q
      obtain rfl := roots_nil hroots
      k_steps
      all_goals (try with_reducible refine hQ _ _ ?_)
      (with_reducible rename Fr g _ _ _ => kF2)
      (with_reducible rename News g _ _ _ => kN2)
      refine ⟨_, _, _, rfl, X'.keeps kF2.keep, (kN2 (_, excObjD _ _) (by k_mem)).1, ?_⟩
      refine hE₁ _ _ ?_
      refine raise_out (hide := [(r, instObj 617 dr), (dr, rdD k l nd 0 ta), (D, instObj 214 dD), (dD, dictOf ed 6), (fd, o), (sd, lst sv sn)]) B' kF2 kN2 (by k_mem) (od := faultD w.params _ _ _ _ _) (by k_mem) (nin ⟨⟨by walk_at "M ne"⟩, ⟨by walk_at "M ne"⟩, ⟨by walk_at "M ne"⟩, ⟨by walk_at "M ne"⟩, ⟨by walk_at "M ne"⟩, ⟨by walk_at "M ne"⟩, trivial⟩) hg hn0 rfl fun h'' kp Z hl => ?_
      exact hE _ _ _ _ _ _ _ _ _ _ Z (hl (_, faultD w.params _ _ _ _ _) (by k_mem) (by walk_at "M ne")) (hl (D, _) (by k_mem) (by walk_at "M ne")) (hl (dD, _) (by k_mem) (by walk_at "M ne")) (hl (fd, _) (by k_mem) (by walk_at "M ne")) (hl (sd, _) (by k_mem) (by walk_at "M ne"))
  · have hs9 := hs c (by omega) h2
    obtain ⟨t9, x9⟩ : ∃ t9, ts[(c + 0).toNat]? = some t9 := ⟨_, List.getElem?_eq_getElem (by omega)⟩
    refine whl_turn (by passes_own) ?_
    k_steps
    all_goals (try with_reducible refine hQ _ _ ?_)
    (with_reducible rename Fr g _ _ _ => kF2)
    (with_reducible rename News g _ _ _ => kN2)
    exact Hold.mk (ih _ _ _ kF2 kN2)
end
local macro_rules | `(tactic| k_all) => `(tactic| assumption)
section
local macro_rules
  | `(tactic| walk_at "call builtin:list.append") => zst
  | `(tactic| walk_at "compareOp Eq ref ref") => zst
variable {w : World} {A : Around} {s : Shared} {base h₀ : Heap} {L : Addr} {m : Str → Option Value} {news news' : List (Addr × Obj)} {Q E : Value → Shared → Prop} {r dr l nd : Addr} {k : RK} {a : Int} {ta : Nat} {ts : List TK}
theorem c_file_ok {D dD fd sd : Addr} {ed : List DictEntry} {o : Obj} {kvs : List (Str × Value)} {sv : Array Value} {sn : Nat} {bs : Bool} {t0 : TK} {titles : List Str} {b b' : Int} (C : Cx w A base h₀ L m s.heap news 30) (hun : A.units + 300 < cLine) (hsub : ∀ p ∈ [(r, instObj 617 dr), (dr, rdD k l nd 0 ta), (D, instObj 214 dD), (dD, dictOf ed 6), (fd, o), (sd, lst sv sn)], p ∈ news) (hp : PW [(r, instObj 617 dr), (dr, rdD k l nd 0 ta), (D, instObj 214 dD), (dD, dictOf ed 6), (fd, o), (sd, lst sv sn)]) (hed : DataEs w.params fd sd ed) (lo : (fd == sysModules) = false) (ho : o.IsDictOf (PySem.strKind PG w) kvs)
    (hTg : ∀ g, (∀ b o', s.heap.get? b = some o' → b ∉ ([(r, instObj 617 dr), (dr, rdD k l nd 0 ta), (D, instObj 214 dD), (dD, dictOf ed 6), (fd, o), (sd, lst sv sn)] : List (Addr × Obj)).map (·.1) → g.get? b = some o') → Toks g l ts) (hsv : sv.size ≤ 1000)
    (hx0 : ts[((0 : Int) + 0).toNat]? = some t0) (hk0 : (t0.kind == "word") = true) (hz0 : t0.worth.length ≤ 100) (hv0 : (!rsv t0.worth) = true) (hb1 : 1 ≤ b) (hb2 : b < (ts.length : Int))
    (hs : ∀ c : Int, 1 ≤ c → c < b → signIs ts (c + 0) "." = false) (hsb : signIs ts (b + 0) "." = true) (hR : RecsAt ts (b + 1) titles) (ht2 : titles.length ≤ 2) (hy : ∀ y ∈ titles, y.length ≤ 100 ∧ (!rsv y) = true) (hq : kindIs ts (b' + 0) "number" = false) (hb' : b' = b + 1 + 7 * (titles.length : Int)) (hkl : kvs.length ≤ 1000) (hin : (valueAt kvs t0.worth).isSome = false) (hti : titles ≠ [])
    (h : ∀ rl vs n rled o' ta' sv' sn' h' tk', RootsIn w.params rled vs titles → o'.IsDictOf (PySem.strKind PG w) (stored kvs t0.worth (.ref rl)) → (sv' = if bs = true then sv.push (.str t0.worth t0.k2) else sv) → Fr h₀ L h' m →
      (∀ n1 n2 n3, Upd dr (rdD k l nd 0 ta) (rdD k l nd b' ta') news n1 → Upd fd o o' n1 n2 → Upd sd (lst sv sn) (lst sv' sn') n2 n3 → News h₀ L h' ((rl, lst vs.toArray n) :: (n3 ++ rled))) → (∀ q ∈ news, q.1 ≠ rl) → (∀ p ∈ rled, p.1 ≠ rl ∧ ∀ q ∈ news, q.1 ≠ p.1) → Q .none { s with heap := h', toks := tk' }) : wpAny (model PG w) A (call (.ref 379) [.ref r, .ref D, .bool bs]) Q E s := by
  refine' enterX [("reader", .ref r), ("data", .ref D), ("is_sort", .bool bs)] [(r, instObj 617 dr), (dr, rdD k l nd 0 ta), (D, instObj 214 dD), (dD, dictOf ed 6), (fd, o), (sd, lst sv sn)] C hsub ?k6 ?k7 ?k9 ?kB ?_
  case k6 => k_is
  case k7 => k_is
  case k9 => exact BindsTo.of_eq rfl
  walk_at "M sides"
  intro dp fr gd un Q₁ E₁ g L' h₁ tk env outer mean mg mb eA hQ hE₁ hPO ret retU FG st F' N' B' X' T' lt room hg
  subst eA
  clear ret retU
  have hn0 : ∀ p ∈ [(r, instObj 617 dr), (dr, rdD k l nd 0 ta), (D, instObj 214 dD), (dD, dictOf ed 6), (fd, o), (sd, lst sv sn)], g.get? p.1 = none := fun p hp => (N' p hp).2.2
  k_lt lt
  (try dsimp only [AA] at room)
  (try dsimp only [AA] at hun)
  have hp0 := hp.1
  have hp1 := hp.2.1
  have hp2 := hp.2.2.1
  have hp3 := hp.2.2.2.1
  have hp4 := hp.2.2.2.2.1
  clear hp
  have hT' := hTg g hg
  clear hTg
  obtain ⟨hlen, hxf⟩ := fx (a := 0) (Int.le_refl 0) hx0
  (try dsimp only)
  (try k_fold)
  k_steps
  all_goals (try with_reducible refine hQ _ _ ?_)
  (with_reducible rename Fr g _ _ _ => kF)
  (with_reducible rename News g _ _ _ => kN)
  refine Hold.mk ?_
  refine loop_rd (b := b) (by omega) kF kN (fun tb h9 tk9 F9 N9 => ?_) (fun c tc h9 tk9 h1 h2 F9 N9 ih => ?_)
  · refine whl_turn (by passes_own) ?_
    k_steps
    all_goals (try with_reducible refine hQ _ _ ?_)
    refine' c_entries ht2 ?cx ?hr ?hd hT' ?ha hR hy hq hb' ?hun ?_
    case cx => walk_at "M cx"
    case hr => k_mem
    case hd => k_mem
    case ha => omega
    case hun => walk_at "M units"
    intro rl vs n9 rled ta' h' tk' hroots F' hn' q8 q9
    have N' := hn' _ (by k_upd)
    clear hn'
    simp only [List.cons_append, List.nil_append] at N'
    replace q8 := allAp_of q8
    (try k_sweep)
    obtain ⟨t, tr, rfl⟩ : ∃ t tr, titles = t :: tr := by cases titles with | nil => exact absurd rfl hti | cons t tr => exact ⟨t, tr, rfl⟩
    obtain ⟨v, vr, rfl⟩ := roots_cons hroots
    have r1 : ∀ p ∈ rled, p.1 ≠ fd := fun p hp => Ne.symm ((q9 p hp).2 (fd, o) (by k_mem))
    have r2 : ∀ p ∈ rled, p.1 ≠ sd := fun p hp => Ne.symm ((q9 p hp).2 (sd, lst sv sn) (by k_mem))
    cases bs with
    | true =>
      k_steps
      refine Hold.mk ?_
      refine eq_cons (isl (by k_asm) (by k_mem) rfl) (isl0 (by k_asm) (by k_mem) rfl) (by walk_at "M units") ?_
      k_steps
      refine Hold.mk ?_
      (refine' append_K ?k1 ?k2 ?k3 ?_ (size_line ?z); (case k1 => k_asm); (case k2 => k_asm); (case k3 => k_upd); (case z => assumption))
      intro h' F' N'
      (try k_sweep)
      k_steps
      all_goals (try with_reducible refine hQ _ _ ?_)
      (try dsimp only)
      (with_reducible rename Fr g _ _ _ => kF2)
      (with_reducible rename News g _ _ _ => kN2)
      have B := backNew (m'' := m) C hg FG st kN2 ((rl, lst (v :: vr).toArray n9) :: rled) (fun p hp => by
        rcases List.mem_cons.mp hp with rfl | hp
        · exact ⟨by k_mem, nin ⟨⟨by walk_at "M ne"⟩, ⟨by walk_at "M ne"⟩, ⟨by walk_at "M ne"⟩, ⟨by walk_at "M ne"⟩, ⟨by walk_at "M ne"⟩, ⟨by walk_at "M ne"⟩, trivial⟩⟩
        · refine ⟨by repeat (first | exact hp | refine List.Mem.tail _ ?_), fun q => ?_⟩
          simp only [List.map_cons, List.map_nil, List.mem_cons, List.not_mem_nil, or_false] at q
          rcases q with q | q | q | q | q | q
          · exact (q9 p hp).2 (r, _) (by k_mem) q.symm
          · exact (q9 p hp).2 (dr, _) (by k_mem) q.symm
          · exact (q9 p hp).2 (D, _) (by k_mem) q.symm
          · exact (q9 p hp).2 (dD, _) (by k_mem) q.symm
          · exact (q9 p hp).2 (fd, _) (by k_mem) q.symm
          · exact (q9 p hp).2 (sd, _) (by k_mem) q.symm)
      refine h rl (v :: vr) n9 rled _ ta' (sv.push (.str t0.worth t0.k2)) (sn + 1) _ _ hroots (by assumption) (if_pos rfl).symm (FG.kept kF2.keep) (fun n1 n2 n3 U1 U2 U3 => news_mid B.1 (back3 C hsub hg kF2 kN2 U1 U2 U3 (by k_mem) (by k_mem) (by k_mem) fun p hp e1 e2 e3 => ?_)) (fun q hq => B.2 q hq _ (.head _)) (fun p hp => ⟨(q9 p hp).1, fun q hq => B.2 q hq p (.tail _ hp)⟩)
      simp only [List.mem_cons, List.not_mem_nil, or_false] at hp
      rcases hp with rfl | rfl | rfl | rfl | rfl | rfl
      · k_mem
      · exact absurd rfl e1
      · k_mem
      · k_mem
      · exact absurd rfl e2
      · exact absurd rfl e3
    | false =>
      k_steps
      refine Hold.mk ?_
      refine eq_cons (isl (by k_asm) (by k_mem) rfl) (isl0 (by k_asm) (by k_mem) rfl) (by walk_at "M units") ?_
      k_steps
      all_goals (try with_reducible refine hQ _ _ ?_)
      (try dsimp only)
      (with_reducible rename Fr g _ _ _ => kF2)
      (with_reducible rename News g _ _ _ => kN2)
      have B := backNew (m'' := m) C hg FG st kN2 ((rl, lst (v :: vr).toArray n9) :: rled) (fun p hp => by
        rcases List.mem_cons.mp hp with rfl | hp
        · exact ⟨by k_mem, nin ⟨⟨by walk_at "M ne"⟩, ⟨by walk_at "M ne"⟩, ⟨by walk_at "M ne"⟩, ⟨by walk_at "M ne"⟩, ⟨by walk_at "M ne"⟩, ⟨by walk_at "M ne"⟩, trivial⟩⟩
        · refine ⟨by repeat (first | exact hp | refine List.Mem.tail _ ?_), fun q => ?_⟩
          simp only [List.map_cons, List.map_nil, List.mem_cons, List.not_mem_nil, or_false] at q
          rcases q with q | q | q | q | q | q
          · exact (q9 p hp).2 (r, _) (by k_mem) q.symm
          · exact (q9 p hp).2 (dr, _) (by k_mem) q.symm
          · exact (q9 p hp).2 (D, _) (by k_mem) q.symm
          · exact (q9 p hp).2 (dD, _) (by k_mem) q.symm
          · exact (q9 p hp).2 (fd, _) (by k_mem) q.symm
          · exact (q9 p hp).2 (sd, _) (by k_mem) q.symm)
      refine h rl (v :: vr) n9 rled _ ta' sv sn _ _ hroots (by assumption) (if_neg (by decide)).symm (FG.kept kF2.keep) (fun n1 n2 n3 U1 U2 U3 => news_mid B.1 (back3 C hsub hg kF2 kN2 U1 U2 U3 (by k_mem) (by k_mem) (by k_mem) fun p hp e1 e2 e3 => ?_)) (fun q hq => B.2 q hq _ (.head _)) (fun p hp => ⟨(q9 p hp).1, fun q hq => B.2 q hq p (.tail _ hp)⟩)
      simp only [List.mem_cons, List.not_mem_nil, or_false] at hp
      rcases hp with rfl | rfl | rfl | rfl | rfl | rfl
      · k_mem
      · exact absurd rfl e1
      · k_mem
      · k_mem
      · exact absurd rfl e2
      · exact absurd rfl e3
  · have hs9 := hs c (by omega) h2
    obtain ⟨t9, x9⟩ : ∃ t9, ts[(c + 0).toNat]? = some t9 := ⟨_, List.getElem?_eq_getElem (by omega)⟩
    refine whl_turn (by passes_own) ?_
    k_steps
    all_goals (try with_reducible refine hQ _ _ ?_)
    (with_reducible rename Fr g _ _ _ => kF2)
    (with_reducible rename News g _ _ _ => kN2)
    exact Hold.mk (ih _ _ _ kF2 kN2)
end
theorem zz12 : Hold True := by first | walk1 | exact ⟨trivial⟩
set_option maxHeartbeats 0
section
variable {w : World} {A : Around} {s : Shared} {base h₀ : Heap} {L : Addr} {m : Str → Option Value} {news hide : List (Addr × Obj)} {c : Nat}
  {R : Result → Shared → Prop} {name qual : Str} {params : Arguments} {body : List Stmt} {scope : Scope} {dV kV doc pm cdv ct oc : Value} {an od : Option Addr} {osl : Array (Option Value)} {f : Addr} {args : Args}
theorem enterC (binds : List (Str × Value)) (hide : List (Addr × Obj)) (C : Cx w A base h₀ L m s.heap news c) (hsub : ∀ p ∈ hide, p ∈ news)
    (ho : (KK w.params).lookup f = some ⟨oc, od, .func (fnOf name qual params body scope dV kV doc pm an cdv ct), osl⟩) (hcd : codeIn (KK w.params) cdv qual = true)
    (hbind : BindsTo s (fnOf name qual params body scope dV kV doc pm an cdv ct) args binds) (hkind : (binds.all fun y => scope.names.lookup y.1 == some .local || scope.names.lookup y.1 == some .cell) = true)
    (hnd : ((cellsFrom 0 scope.names []).map (·.1)).Nodup)
    (h : ∀ g L' h₁ tk cells env outer mean mg mb,
      (∀ h' L'' m'', Fr g L'' h' m'' → News g L'' h' hide → Fr h₀ L h' m ∧ News h₀ L h' news) →
      Fr h₀ L g m → h₀.StaysIn g →
      Fr g L' h₁ (bindL (envOfC qual scope L' f cdv).kindOf binds fun _ => none) → News g L' h₁ (cells ++ hide) → CellsAre (bindC (envOfC qual scope L' f cdv).kindOf binds fun _ => none) (cellsFrom (L' + 1) scope.names []) cells →
      Below A base (env :: outer) g → (KK w.params).In g → Top vw lz mean mg mb g → (∀ p ∈ hide, p.1 < L') → A.depth + c < recursionLimit → (∀ b o, s.heap.get? b = some o → b ∉ hide.map (·.1) → g.get? b = some o) →
      wpAny (model PG w) (A.deeper (envOfC qual scope L' f cdv)) (execs body (envOfC qual scope L' f cdv))
        (fun fl s' => R (.ok (.ret (match fl with | .ret v => v | _ => .none))) s')
        (fun e s' => wpAny (model PG w) (A.deeper (envOfC qual scope L' f cdv)) (leaving (envOfC qual scope L' f cdv) e) (fun _ s'' => R (.error e) s'') (fun e' s'' => R (.error e') s'') s')
        { s with heap := h₁, toks := tk })
    (hco : scope.isCoroutine = false) (hgen : scope.isGenerator = false) (hk : scope.kind = .function) : codeAny (model PG w) A (.call (.ref f) args) R s := by
  obtain ⟨⟨A₀, env, outer, mean, mg, mb, B, hA, hf, hke, T⟩, F, X, N, room, _⟩ := C
  have Nh : News h₀ L s.heap hide := cb_drop N hsub
  obtain ⟨FG, BG, st, _⟩ := groundX (R := R) B F Nh hA hf hke
  refine codeAny_call_function (by omega) ((X.keeps F.keep) _ _ ho) rfl hco hgen rfl (codeRec_of (X.keeps F.keep) hcd) (hbind _ _ _ _ ?_)
  refine wpAny_newFunctionEnv_cells hk (kindsX hkind _) fun env' he s' x => ?_
  subst he
  refine ⟨(T.nolimit.keeps F.keep).keeps x.toInCall.keep, codeAny_func ?_⟩
  obtain ⟨h₁, tk, rfl, _⟩ := x.done
  have hk₁ := x.toInCall.keep
  obtain ⟨cells, NC, Y⟩ := Cl.news (h₀ := s.heap) (Nat.le_refl _) fun n c hm => ⟨x.cell n c (lookup_of_mem_nodup (cellsFrom_names scope.names 0 (s.heap.objs.size + 1) [] [] rfl ▸ hnd) hm), x.above n c hm⟩
  have hg : ∀ b o, s.heap.get? b = some o → b ∉ hide.map (·.1) → (hideAll s.heap (hide.map (·.1))).get? b = some o := fun b o e n => hideAll_get _ e n
  refine h _ s.heap.objs.size h₁ tk cells env outer mean mg mb (fun h' L'' m'' F'' N'' => ⟨FG.kept F''.keep, backN F N hg F'' N'' hsub⟩) FG st ⟨x.toInCall.ns, fun b o e => hk₁ b o (of_hideAll _ e), Nat.le_of_eq (hideAll_size _ _)⟩ (fun p hp => ?_) Y BG (X.keeps st) (T.keeps st) (fun p hp => Heap.lt_size (Nh p hp).1) room hg
  rcases List.mem_append.mp hp with hp | hp
  · refine ⟨(NC p hp).1, (NC p hp).2.1, ?_⟩
    cases q : (hideAll s.heap (hide.map (·.1))).get? p.1 with
    | none => rfl
    | some o => have := of_hideAll _ q; rw [(NC p hp).2.2] at this; cases this
  · exact ⟨hk₁ _ _ (Nh p hp).1, Nat.ne_of_lt (Heap.lt_size (Nh p hp).1), hideAll_none _ (List.mem_map_of_mem hp)⟩
theorem enterCX {Q E : Value → Shared → Prop} {args : List Value} (binds : List (Str × Value)) (hide : List (Addr × Obj)) (C : Cx w A base h₀ L m s.heap news c) (hsub : ∀ p ∈ hide, p ∈ news)
    (ho : (KK w.params).lookup f = some ⟨oc, od, .func (fnOf name qual params body scope dV kV doc pm an cdv ct), osl⟩) (hcd : codeIn (KK w.params) cdv qual = true)
    (hbind : BindsTo s (fnOf name qual params body scope dV kV doc pm an cdv ct) { pos := args } binds) (hkind : (binds.all fun y => scope.names.lookup y.1 == some .local || scope.names.lookup y.1 == some .cell) = true)
    (hnd : ((cellsFrom 0 scope.names []).map (·.1)).Nodup)
    (h : ∀ dp fr gd un (Q₁ : Flow → Shared → Prop) (E₁ : Value → Shared → Prop) g L' h₁ tk cells env outer mean mg mb, A = AA dp fr gd un →
      RetQ Q Q₁ → RetE w (A.deeper (envOfC qual scope L' f cdv)) (envOfC qual scope L' f cdv) E E₁ → PassesOwn (model PG w) ((AA dp fr gd un).deeper (envOfC qual scope L' f cdv)) (envOfC qual scope L' f cdv) E₁ →
      RetT g h₀ L m hide news →
      Fr h₀ L g m → h₀.StaysIn g →
      Fr g L' h₁ (bindL (envOfC qual scope L' f cdv).kindOf binds fun _ => none) → News g L' h₁ (cells ++ hide) → CellsAre (bindC (envOfC qual scope L' f cdv).kindOf binds fun _ => none) (cellsFrom (L' + 1) scope.names []) cells →
      Below (AA dp fr gd un) base (env :: outer) g → (KK w.params).In g → Top vw lz mean mg mb g → (∀ p ∈ hide, p.1 < L') → dp + c < recursionLimit → HidG s.heap g hide →
      wpAny (model PG w) ((AA dp fr gd un).deeper (envOfC qual scope L' f cdv)) (execs body (envOfC qual scope L' f cdv)) Q₁ E₁ { s with heap := h₁, toks := tk })
    (hco : scope.isCoroutine = false) (hgen : scope.isGenerator = false) (hk : scope.kind = .function) : wpAny (model PG w) A (call (.ref f) args) Q E s := by
  obtain ⟨dp, fr, gd, un, e⟩ := C.aa
  subst e
  exact wpAny_call (enterC binds hide C hsub ho hcd hbind hkind hnd (fun g L' h₁ tk cells env outer mean mg mb => h dp fr gd un _ _ g L' h₁ tk cells env outer mean mg mb rfl (fun _ _ q => q) (fun _ _ q => q) PassesOwn.leaving) hco hgen hk)
end
section
variable {prog : Program} {w : World} {A : Around} {E : Value → Shared → Prop} {s : Shared} {h₀ : Heap} {L : Addr} {m : Str → Option Value} {env : Env}
def CompKeys (prog : Program) (w : World) (A : Around) (h₀ : Heap) (L : Addr) (m : Str → Option Value) (env : Env) (elt : PySem.Expr) (x : Str) (scope : Scope) (cl : List (Str × Addr)) (Q : Value → Shared → Prop) (xv : Value) (s₁ : Shared) : Prop :=
  ∃ d kvs ep news, xv = .ref d ∧ A.handled = none ∧ Fr h₀ L s₁.heap m ∧ News h₀ L s₁.heap news ∧ (d == sysModules) = false ∧ h₀.DictAt (strKind prog w) d kvs ep ∧ kvs.length ≤ sizeLine ∧
    ∀ g, LCg.CompRest prog w A h₀ L m env elt x scope cl { s₁ with heap := g } (fun _ => True) (fun i v => ∃ k y, kvs[i]? = some (k, y) ∧ (strKind prog w).is k v = true) (LCg.FinE h₀ L m { s₁ with heap := g } Q) kvs.length 0 [] news
theorem dictAt_keeps {K : Type} [DecidableEq K] {knd : KeyKind prog w K} {h h' : Heap} {d ep : Nat} {kvs : List (K × Value)} (x : h.DictAt knd d kvs ep) (k : ∀ o, h.get? d = some o → h'.get? d = some o) : h'.DictAt knd d kvs ep := let ⟨o, es, e, r⟩ := x; ⟨o, es, k _ e, r⟩
theorem ListComp_D {elt iter : PySem.Expr} {x : Str} {px : Pos} {scope : Scope} {cl : List (Str × Addr)} {pos : Pos} {Q : Value → Shared → Prop} (F₀ : Fr h₀ L s.heap m)
    (hclos : closureFor scope env = pure cl) (hcell : ∀ y ∈ scope.names, y.2 ≠ .cell) (hkind : scope.kind = .function)
    (hnames : ∀ y ∈ scope.names, y.2 = .local → scope.names.lookup y.1 = some .local) (hx : scope.names.lookup x = some .local)
    (h : wpAny (model prog w) A (eval iter env) (CompKeys prog w A h₀ L m env elt x scope cl Q) E s)
    (hs : ∀ x, foldedSetIterable iter env x = pure x) :
    wpAny (model prog w) A (eval (.ListComp elt [⟨.Name x px, iter, [], 0⟩] scope pos) env) Q E s := by
  rw [eval_ListComp]
  refine wpAny_comprehension_free (use := none) rfl hs hclos hkind hnames (wpAny_mono h (fun xv s₁ h₁ => ?_) fun _ _ e => e)
  obtain ⟨d, kvs, ep, news, rfl, hh, F, N, lo, hD₀, hsz, R⟩ := h₁
  have hm : s₁.heap.DictAt (strKind prog w) d kvs ep := dictAt_keeps hD₀ fun o e => F.keep _ _ e
  refine wpAny_pyIter_dict lo hm ?_
  have up : ∀ b o, s₁.heap.get? b = some o → (s₁.heap.push { cls := .type "dict_keyiterator", data := .fields #[.ref d, .int 0 0, .int kvs.length 0, .int ep 0] }).get? b = some o := fun b o e => Heap.get?_push_of_some _ e
  have hlt : d < s₁.heap.objs.size := hm.lt_size
  refine LCg.block_U (Walks.dictKeys hh s₁.heap.objs.size d (Nat.ne_of_lt hlt) kvs ep) hsz (fun i h st => by obtain ⟨o, e, _⟩ := st.1; exact ⟨o, e⟩)
    (fun i h h' o nw st e e' k _ _ => ⟨by obtain ⟨o', q, r⟩ := st.1; rw [e] at q; cases q; exact ⟨o, e', r⟩, dictAt_keeps hD₀ fun o e => k _ _ e⟩)
    hcell hkind hx ⟨⟨_, Heap.get?_push_size _ rfl, rfl, rfl⟩, hm.push _⟩ (fun b hb => ?_)
    (F.keeps up) (N.grown up) (Nat.ne_of_lt F.ns.lt) (next_is_new F) (fun p hp => Nat.ne_of_lt (Heap.lt_size (N p hp).1)) trivial (R _) ?_
  · show b < (s₁.heap.push _).objs.size
    rw [Heap.size_push]
    rcases List.mem_cons.mp hb with rfl | hb
    · exact Nat.lt_succ_self _
    · rw [List.mem_singleton.mp hb]; exact Nat.lt_succ_of_lt hlt
  · intro D C h tk m' ys news' F' N' o1 hn hC₀ hD₀ hCL hDL hCD offC fin
    refine ⟨m', hn, fun h'' hs'' => fin D h'' tk (F'.change hs'' hCL hC₀) (fun p hp => ?_) o1⟩
    refine ⟨hs''.extBut _ _ ?_ (N' p hp).1, (N' p hp).2⟩
    rcases List.mem_cons.mp hp with rfl | hp
    · exact Ne.symm hCD
    · exact offC p hp
end
section
variable {w : World} {A : Around} {s : Shared} {h₀ : Heap} {L : Addr} {m : Str → Option Value} {E : Value → Shared → Prop} {x dx fd sd cl kl : Addr} {es : List DictEntry} {lv : Int} {t : Nat} {nm : Str} {u : Nat} {expr : Bool}
theorem dtb_files {Q : Value → Shared → Prop} (F : Fr h₀ L s.heap m) (X₀ : (KK w.params).In h₀) (I : InstAt h₀ x (instObj 214 dx) 214 (some (dictOf es 6))) (he : DataEs w.params fd sd es) (h : Q (.ref fd) { s with toks := s.toks + 1 }) :
    wpAny (model PG w) A (getAttr (.ref x) "files" expr) Q E s := by
  obtain ⟨a, b, c, d, e, f, wl, ll, ix, z, rfl⟩ := he
  exact get_own (attr := none) F X₀ (inst_fr I F) (by k_is) (by k_is) (by k_is) (by k_is) (by k_get) (by k_handed) h
theorem dtb_sorts {Q : Value → Shared → Prop} (F : Fr h₀ L s.heap m) (X₀ : (KK w.params).In h₀) (I : InstAt h₀ x (instObj 214 dx) 214 (some (dictOf es 6))) (he : DataEs w.params fd sd es) (h : Q (.ref sd) { s with toks := s.toks + 1 }) :
    wpAny (model PG w) A (getAttr (.ref x) "sorts" expr) Q E s := by
  obtain ⟨a, b, c, d, e, f, wl, ll, ix, z, rfl⟩ := he
  exact get_own (attr := none) F X₀ (inst_fr I F) (by k_is) (by k_is) (by k_is) (by k_is) (by k_get) (by k_handed) h
theorem itb_name {Q : Value → Shared → Prop} (F : Fr h₀ L s.heap m) (X₀ : (KK w.params).In h₀) (I : InstAt h₀ x (instObj 188 dx) 188 (some (dictOf es 19))) (he : ItemEs w.params lv t nm u cl kl es) (h : Q (.str nm u) { s with toks := s.toks + 1 }) :
    wpAny (model PG w) A (getAttr (.ref x) "name" expr) Q E s := by
  obtain ⟨k, uv, pv, u2, u3, u4, z1, z2, rfl⟩ := he
  exact get_own (attr := none) F X₀ (inst_fr I F) (by k_is) (by k_is) (by k_is) (by k_is) (by k_get) (by k_handed) h
theorem valueAt_of : ∀ {kvs : List (Str × Value)} {i : Nat} {k : Str} {v : Value}, (kvs.map (·.1)).Nodup → kvs[i]? = some (k, v) → valueAt kvs k = some v
  | [], i, _, _, _, h => by simp at h
  | (k', v') :: r, 0, k, v, _, h => by
    simp only [List.getElem?_cons_zero, Option.some.injEq, Prod.mk.injEq] at h
    obtain ⟨rfl, rfl⟩ := h
    unfold valueAt
    rw [List.find?_cons_of_pos (by simp)]; rfl
  | (k', v') :: r, i + 1, k, v, hn, h => by
    rw [List.map_cons, List.nodup_cons] at hn
    rw [List.getElem?_cons_succ] at h
    have hk : k' ≠ k := fun e => hn.1 (e ▸ List.mem_map_of_mem (f := (·.1)) (List.mem_of_getElem? h))
    have ih := valueAt_of hn.2 h
    unfold valueAt at ih ⊢
    rw [List.find?_cons_of_neg (by simpa using hk)]; exact ih
theorem itemb {value slice : PySem.Expr} {d ep : Nat} {kvs : List (Str × Value)} {i : Nat} {k : Str} {tk : Tok} {v : Value} {Q : Value → Shared → Prop} (F : Fr h₀ L s.heap m) (hD : h₀.DictAt (strKind PG w) d kvs ep) (hi : kvs[i]? = some (k, v)) (h : Q v { s with toks := s.toks + 1 })
    (hs : subscripted slice false (.ref d) (.str k tk) = operate [.ref d, .str k tk] (getItem (.ref d) (.str k tk))) (hq : ∀ r, letTemporaryGo value (.ref d) r = pure ()) :
    wpAny (model PG w) A (subscriptTail value slice (.ref d) (.str k tk)) Q E s := by
  have hm : s.heap.DictAt (strKind PG w) d kvs ep := dictAt_keeps hD fun o e => F.keep _ _ e
  have hn : (kvs.map (·.1)).Nodup := let ⟨_, _, _, _, _, _, _, hn⟩ := hD; hn
  exact subscriptTail_builtin hm.dictOf.typeIs slot_dict_getitem.lookup (wpAny_getItem_of (strKind_is PG w _ _) hm.dictOf.mapOf (valueAt_of hn hi) h) hs hq
end
set_option maxHeartbeats 0
section
variable {prog : Program} {w : World} {A : Around} {h₀ : Heap} {L : Addr} {m : Str → Option Value} {env : Env} {elt : PySem.Expr} {x : Str} {scope : Scope} {cl : List (Str × Addr)} {s : Shared} {S : List (Addr × Obj) → Prop} {P : Nat → Value → Prop} {Fin : List Value → List (Addr × Obj) → Prop}
theorem compEnd_mono {s₁ : Shared} {I C D : Addr} {oI oC oD : Obj} {r r' : Value → List (Addr × Obj) → Prop} {y : Value} {s₂ : Shared} (h : LCg.CompEnd h₀ L m s₁ I oI C oC D oD S r y s₂) (k : ∀ y nw, r y nw → r' y nw) : LCg.CompEnd h₀ L m s₁ I oI C oC D oD S r' y s₂ :=
  let ⟨h', tk, nw, e, F, N, off, hS, hr⟩ := h; ⟨h', tk, nw, e, F, N, off, hS, k _ _ hr⟩
theorem comp_ind (J : Nat → List Value → List (Addr × Obj) → Prop) {n : Nat} (done : ∀ ys nw, J n ys nw → Fin ys nw)
    (turn : ∀ i ys nw, i < n → J i ys nw → ∀ v I oI C oC D m₂ h tk (E' : Value → Shared → Prop), P i v → LCg.NsObj oC m₂ → m₂ x = some v → Fr h₀ L h m → News h₀ L h ((I, oI) :: (C, oC) :: (D, LCg.lst ys) :: nw) → LCg.Off3 I C D nw → ((@Ne Nat I C) ∧ (@Ne Nat I D) ∧ (@Ne Nat C D)) →
      wpAny (model prog w) A (eval elt (compEnvC scope cl C env)) (LCg.CompEnd h₀ L m { s with heap := h, toks := tk } I oI C oC D (LCg.lst ys) S (fun y nw' => J (i + 1) (ys ++ [y]) nw')) E' { s with heap := h, toks := tk }) :
    ∀ j i ys nw, i + j = n → J i ys nw → LCg.CompRest prog w A h₀ L m env elt x scope cl s S P Fin j i ys nw := by
  intro j
  induction j with
  | zero => intro i ys nw e hJ; obtain rfl : i = n := by omega
            exact LCg.CompRest.zero (done ys nw hJ)
  | succ j ih =>
    intro i ys nw e hJ
    refine LCg.CompRest.succ fun v I oI C oC D m₂ h tk E' h1 h2 h3 h4 h5 h6 h7 => ?_
    exact wpAny_mono (turn i ys nw (by omega) hJ v I oI C oC D m₂ h tk E' h1 h2 h3 h4 h5 h6 h7) (fun y s₂ q => compEnd_mono q fun y nw q => ih (i + 1) _ nw (by omega) q) fun _ _ q => q
end
def StrsOf (xs : List Value) (ss : List Str) : Prop := ∃ l : List (Str × Tok), strValues l = xs ∧ l.map (·.1) = ss
theorem strsOf_snoc {xs : List Value} {ss : List Str} {y : Str} {t : Tok} (h : StrsOf xs ss) : StrsOf (xs ++ [.str y t]) (ss ++ [y]) := by
  obtain ⟨l, rfl, rfl⟩ := h
  exact ⟨l ++ [(y, t)], by simp [strValues], by simp⟩
abbrev tup2 (a b : Value) : Obj := { cls := .type "tuple", data := .seq #[a, b] }
def SeenL (nw : List (Addr × Obj)) : List Value → List (Str × List Str) → Prop
  | [], [] => True
  | y :: ys, f :: fs => (∃ T li t xs n, y = .ref T ∧ (T, tup2 (.str f.1 t) (.ref li)) ∈ nw ∧ (li, lst (List.toArray xs) n) ∈ nw ∧ StrsOf xs f.2) ∧ SeenL nw ys fs
  | _, _ => False
theorem seenL_mono {nw nw' : List (Addr × Obj)} (k : ∀ p ∈ nw, p ∈ nw') : ∀ {ys : List Value} {fs : List (Str × List Str)}, SeenL nw ys fs → SeenL nw' ys fs
  | [], [], _ => trivial
  | _ :: _, _ :: _, ⟨⟨T, li, t, xs, n, e, h1, h2, h3⟩, r⟩ => ⟨⟨T, li, t, xs, n, e, k _ h1, k _ h2, h3⟩, seenL_mono k r⟩
  | [], _ :: _, h => h.elim
  | _ :: _, [], h => h.elim
theorem seenL_snoc {nw : List (Addr × Obj)} {y : Value} {f : Str × List Str} (h : SeenL nw [y] [f]) : ∀ {ys : List Value} {fs : List (Str × List Str)}, SeenL nw ys fs → SeenL nw (ys ++ [y]) (fs ++ [f])
  | [], [], _ => h
  | _ :: _, _ :: _, ⟨a, r⟩ => ⟨a, seenL_snoc h r⟩
  | [], _ :: _, h => h.elim
  | _ :: _, [], h => h.elim
def SeenAt (nw : List (Addr × Obj)) (fl sl : Addr) (fs : List (Str × List Str)) (ss : List Str) : Prop := (∃ ys n, (fl, lst (List.toArray ys) n) ∈ nw ∧ SeenL nw ys fs) ∧ ∃ xs n, (sl, lst (List.toArray xs) n) ∈ nw ∧ StrsOf xs ss
theorem allLt_mem {d : Addr} : ∀ {l : List (Addr × Obj)}, AllLt d l → ∀ p ∈ l, p.1 < d
  | [], _, _, h => nomatch h
  | q :: r, ⟨a, b⟩, p, h => by
    rcases List.mem_cons.mp h with rfl | h
    · exact a
    · exact allLt_mem b p h
def RootsAt (P : Params) (h : Heap) : List Value → List Str → Prop
  | [], [] => True
  | v :: vs, t :: ts => (∃ x dx es lv k u cl kl, v = .ref x ∧ h.get? x = some (instObj 188 dx) ∧ h.get? dx = some (dictOf es 19) ∧ ItemEs P lv k t u cl kl es) ∧ RootsAt P h vs ts
  | _, _ => False
def FilesAt (P : Params) (h : Heap) : List (Str × Value) → List (Str × List Str) → Prop
  | [], [] => True
  | kv :: kvs, f :: fs => (kv.1 = f.1 ∧ ∃ rl vs n, kv.2 = .ref rl ∧ h.get? rl = some (lst (List.toArray vs) n) ∧ vs.length ≤ 1000 ∧ RootsAt P h vs f.2) ∧ FilesAt P h kvs fs
  | _, _ => False
theorem rootsAt_keeps {P : Params} {h h' : Heap} (k : ∀ b o, h.get? b = some o → h'.get? b = some o) : ∀ {vs : List Value} {ts : List Str}, RootsAt P h vs ts → RootsAt P h' vs ts
  | [], [], _ => trivial
  | _ :: _, _ :: _, ⟨⟨x, dx, es, lv, k', u, cl, kl, e, h1, h2, h3⟩, r⟩ => ⟨⟨x, dx, es, lv, k', u, cl, kl, e, k _ _ h1, k _ _ h2, h3⟩, rootsAt_keeps k r⟩
  | [], _ :: _, h => h.elim
  | _ :: _, [], h => h.elim
theorem filesAt_keeps {P : Params} {h h' : Heap} (k : ∀ b o, h.get? b = some o → h'.get? b = some o) : ∀ {kvs : List (Str × Value)} {fs : List (Str × List Str)}, FilesAt P h kvs fs → FilesAt P h' kvs fs
  | [], [], _ => trivial
  | _ :: _, _ :: _, ⟨⟨e, rl, vs, n, e2, h1, h2, h3⟩, r⟩ => ⟨⟨e, rl, vs, n, e2, k _ _ h1, h2, rootsAt_keeps k h3⟩, filesAt_keeps k r⟩
  | [], _ :: _, h => h.elim
  | _ :: _, [], h => h.elim
theorem files_at {P : Params} {h : Heap} : ∀ {kvs : List (Str × Value)} {fs : List (Str × List Str)} {i : Nat} {k : Str} {y : Value}, FilesAt P h kvs fs → kvs[i]? = some (k, y) →
    ∃ ts rl vs n, fs[i]? = some (k, ts) ∧ y = .ref rl ∧ h.get? rl = some (lst (List.toArray vs) n) ∧ vs.length ≤ 1000 ∧ RootsAt P h vs ts
  | [], [], i, k, y, _, e => by simp at e
  | kv :: kvs, f :: fs, 0, k, y, ⟨⟨e1, rl, vs, n, e2, h1, h2, h3⟩, _⟩, e => by
    simp only [List.getElem?_cons_zero, Option.some.injEq] at e
    subst e
    exact ⟨f.2, rl, vs, n, congrArg some (Prod.ext e1.symm rfl), e2, h1, h2, h3⟩
  | kv :: kvs, f :: fs, i + 1, k, y, ⟨_, r⟩, e => by
    rw [List.getElem?_cons_succ] at e
    obtain ⟨ts, rl, vs, n, a, b⟩ := files_at r e
    exact ⟨ts, rl, vs, n, by rw [List.getElem?_cons_succ]; exact a, b⟩
  | [], _ :: _, _, _, _, h, _ => h.elim
  | _ :: _, [], _, _, _, h, _ => h.elim
theorem roots_at {P : Params} {h : Heap} : ∀ {vs : List Value} {ts : List Str} {i : Nat} {v : Value}, RootsAt P h vs ts → vs[i]? = some v →
    ∃ t x dx es lv k u cl kl, ts[i]? = some t ∧ v = .ref x ∧ h.get? x = some (instObj 188 dx) ∧ h.get? dx = some (dictOf es 19) ∧ ItemEs P lv k t u cl kl es
  | [], [], i, v, _, e => by simp at e
  | v' :: vs, t :: ts, 0, v, ⟨⟨x, dx, es, lv, k, u, cl, kl, e1, h1⟩, _⟩, e => by
    simp only [List.getElem?_cons_zero, Option.some.injEq] at e
    subst e
    exact ⟨t, x, dx, es, lv, k, u, cl, kl, rfl, e1, h1⟩
  | v' :: vs, t :: ts, i + 1, v, ⟨_, r⟩, e => by
    rw [List.getElem?_cons_succ] at e
    obtain ⟨t', a⟩ := roots_at r e
    exact ⟨t', by simpa only [List.getElem?_cons_succ] using a⟩
  | [], _ :: _, _, _, h, _ => h.elim
  | _ :: _, [], _, _, h, _ => h.elim
theorem roots_len {P : Params} {h : Heap} : ∀ {vs : List Value} {ts : List Str}, RootsAt P h vs ts → vs.length = ts.length
  | [], [], _ => rfl
  | _ :: _, _ :: _, ⟨_, r⟩ => congrArg (· + 1) (roots_len r)
  | [], _ :: _, h => h.elim
  | _ :: _, [], h => h.elim
theorem files_len {P : Params} {h : Heap} : ∀ {vs : List (Str × Value)} {ts : List (Str × List Str)}, FilesAt P h vs ts → vs.length = ts.length
  | [], [], _ => rfl
  | _ :: _, _ :: _, ⟨_, r⟩ => congrArg (· + 1) (files_len r)
  | [], _ :: _, h => h.elim
  | _ :: _, [], h => h.elim
theorem take_snoc {α : Type} {l : List α} {i : Nat} {a : α} (h : l[i]? = some a) : l.take (i + 1) = l.take i ++ [a] := by
  rw [List.take_add_one, h]; rfl
local macro_rules | `(tactic| k_mem) => `(tactic| assumption)
local macro_rules
  | `(tactic| walk_at "eval ListComp") => zst
  | `(tactic| walk_at "CompSrc") => zst
  | `(tactic| walk_at "getAttr ref") => zaps [(`Mine.dtb_files, ["M z"]), (`Mine.dtb_sorts, ["M z"]), (`Mine.itb_name, ["M z"])]
  | `(tactic| walk_at "subscriptTail") => zap `Mine.itemb ["M z"]
section
variable {w : World} {A : Around} {s : Shared} {base h₀ : Heap} {L : Addr} {m : Str → Option Value} {news news' : List (Addr × Obj)} {Q E : Value → Shared → Prop} {r dr l nd : Addr} {k : RK} {a : Int} {ta : Nat} {ts : List TK}
theorem c_seen {D dD fd sd : Addr} {ed : List DictEntry} {o : Obj} {kvs : List (Str × Value)} {sv : List Value} {sn : Nat} {fs : List (Str × List Str)} {ss : List Str} (C : Cx w A base h₀ L m s.heap news 10) (hun : A.units + 300 < cLine)
    (hD : s.heap.get? D = some (instObj 214 dD)) (hdD : s.heap.get? dD = some (dictOf ed 6)) (hed : DataEs w.params fd sd ed) (lo : (fd == sysModules) = false) (hfd : s.heap.get? fd = some o) (ho : o.IsDictOf (PySem.strKind PG w) kvs) (hkl : kvs.length ≤ 1000) (hF : FilesAt w.params s.heap kvs fs) (hsd : s.heap.get? sd = some (lst (List.toArray sv) sn)) (hsl : sv.length ≤ 1000) (hss : StrsOf sv ss)
    (h : ∀ t fl sl rled h' tk', SeenAt rled fl sl fs ss → Fr h₀ L h' m → News h₀ L h' ((t, tup2 (.ref fl) (.ref sl)) :: (rled ++ news)) → (∀ p ∈ rled, p.1 ≠ t ∧ ∀ q ∈ news, q.1 ≠ p.1) → (∀ q ∈ news, q.1 ≠ t) → Q (.ref t) { s with heap := h', toks := tk' }) :
    wpAny (model PG w) A (call (.ref 675) [.ref D]) Q E s := by
  refine' enterCX [("data", .ref D)] [] C (fun _ h => (nomatch h)) ?k6 ?k7 ?k9 ?kB ?kD ?_ ?c2 ?c3 ?c4
  case k6 => k_is
  case k7 => k_is
  case k9 => exact BindsTo.of_eq rfl
  case kB => exact rfl
  case kD => decide +kernel
  case c2 => rfl
  case c3 => rfl
  case c4 => rfl
  intro dp fr gd un Q₁ E₁ g L' h₁ tk cells env outer mean mg mb eA hQ hE₁ hPO ret FG st F' N' Y' B' X' T' lt room hg
  subst eA
  obtain ⟨oc, hE, d1⟩ := CellsAre.one Y'
  subst hE
  clear Y'
  have hg' : ∀ b o, s.heap.get? b = some o → g.get? b = some o := fun b o e => hg b o e (fun q => nomatch q)
  have hI : InstAt g D (instObj 214 dD) 214 (some (dictOf ed 6)) := ⟨hg' _ _ hD, rfl, rfl, hg' _ _ hdD⟩
  obtain ⟨ep, hKd⟩ := KdkAt.of ho
  have hDict : g.DictAt (strKind PG w) fd kvs ep := hKd.dictAt (hg' _ _ hfd)
  have hFg := filesAt_keeps hg' hF
  have hSd : g.IsList sd (List.toArray sv) := ⟨_, hg' _ _ hsd, rfl, _, rfl⟩
  (try simp only [List.cons_append, List.nil_append] at N')
  (try dsimp only [AA] at room)
  (try dsimp only [AA] at hun)
  (try dsimp only)
  (try k_fold)
  k_steps
  all_goals (try with_reducible refine hQ _ _ ?_)
  (with_reducible rename Fr g _ _ _ => kF)
  refine Hold.mk (ListComp_D kF (by with_unfolding_all rfl) (by decide) (by rfl) (by decide) (by rfl) ?_ (by intro _; rfl))
  k_steps
  all_goals (try with_reducible refine hQ _ _ ?_)
  (with_reducible rename Fr g _ _ _ => kF2)
  (with_reducible rename News g _ _ _ => kN2)
  refine ⟨fd, kvs, ep, _, rfl, rfl, kF2, kN2, lo, hDict, size_line hkl, fun g' => ?_⟩
  refine comp_ind (J := fun i ys nw => SeenL nw ys (fs.take i) ∧ (L' + 1, oc) ∈ nw) (fun ys nw hJ => ?_) (fun i ys nw hi hJ v I oI C oC D' m₂ h tk E' hP hC hx F N off ne => ?_) kvs.length 0 [] _ (Nat.zero_add _) ⟨by rw [List.take_zero]; trivial, .head _⟩
  · obtain ⟨hs, hc⟩ := hJ
    rw [files_len hFg, List.take_length] at hs
    intro D1 h1 tk1 F1 N1 off1
    k_steps
    all_goals (try with_reducible refine hQ _ _ ?_)
    (try dsimp only)
    (with_reducible rename Fr g _ _ _ => kF3)
    (with_reducible rename News g _ _ _ => kN3)
    (rename (_ < _ ∧ _ < _ ∧ AllLt _ _) => ll)
    obtain ⟨l2, l3, l4⟩ := ll
    have B := backNew (m'' := m) C hg FG st kN3 (_ :: _ :: (D1, LCg.lst ys) :: nw) (fun p hp => ⟨hp, fun q => nomatch q⟩)
    refine h _ D1 _ (_ :: (D1, LCg.lst ys) :: nw) _ _ ⟨⟨ys, _, .tail _ (.head _), seenL_mono (fun p hp => .tail _ (.tail _ hp)) hs⟩, ⟨sv, _, .head _, hss⟩⟩ (FG.kept kF3.keep) (news_app B.1 (ret _ _ _ kF3 News.nil).2) (fun p hp => ⟨?_, fun q hq => B.2 q hq p (.tail _ hp)⟩) (fun q hq => B.2 q hq _ (.head _))
    rcases List.mem_cons.mp hp with rfl | hp
    · exact Nat.ne_of_lt l2
    · rcases List.mem_cons.mp hp with rfl | hp
      · exact Nat.ne_of_lt l3
      · exact Nat.ne_of_lt (allLt_mem l4 p hp)
  · obtain ⟨hs, hc⟩ := hJ
    obtain ⟨k, y, hk, hkv⟩ := hP
    obtain ⟨t0, rfl⟩ : ∃ t, v = .str k t := Value.isStrOf_shape hkv
    obtain ⟨ts, rl, vs, n, hf, rfl, hrl, hvl, hR⟩ := files_at hFg hk
    have hl : g.IsList rl (List.toArray vs) := ⟨_, hrl, rfl, _, rfl⟩
    k_steps
    all_goals (try with_reducible refine hQ _ _ ?_)
    (with_reducible rename Fr g _ _ _ => kF3)
    refine Hold.mk (LCg.ListComp_U (F₀ := kF3) (by with_unfolding_all rfl) (by decide) (by rfl) (by decide) (by rfl) ?_)
    k_steps
    all_goals (try with_reducible refine hQ _ _ ?_)
    (with_reducible rename Fr g _ _ _ => kF4)
    (with_reducible rename News g _ _ _ => kN4)
    refine Hold.mk (LCg.CompSrc.base rfl kF4 kN4 hl (size_line (by simpa using hvl)) fun g'' => ?_)
    refine comp_ind (J := fun j ys' nw' => StrsOf ys' (ts.take j) ∧ nw' = (I, oI) :: (C, oC) :: (D', LCg.lst ys) :: nw) (fun ys' nw' hJ => ?_) (fun j ys' nw' hj hJ v I2 oI2 C2 oC2 D2 m3 h2 tk2 E2 hP2 hC2 hx2 F2 N2 off2 ne2 => ?_) _ 0 [] _ (Nat.zero_add _) ⟨⟨[], rfl, by rw [List.take_zero]; rfl⟩, rfl⟩
    · obtain ⟨hs2, rfl⟩ := hJ
      rw [List.size_toArray, roots_len hR, List.take_length] at hs2
      intro D2 h2 tk2 F2 N2 off2
      (try clear kF3); (try clear kF4 kN4)
      k_steps
      all_goals (try with_reducible refine hQ _ _ ?_)
      (with_reducible rename Fr g _ _ _ => kF5)
      (with_reducible rename News g _ _ _ => kN5)
      (rename (_ < _ ∧ _ < _ ∧ _ < _ ∧ _ < _ ∧ AllLt _ _) => ll)
      obtain ⟨l1, l2, l3, l4, l5⟩ := ll
      obtain ⟨o1, o2, o3, o4⟩ := off2
      refine LCg.CompEnd.intro kF5 kN5 (_ :: (D2, LCg.lst ys') :: nw) (memCons (.tail _ (.tail _ (.head _))) (memCons (.tail _ (.tail _ (.tail _ (.head _)))) (memCons (.tail _ (.tail _ (.tail _ (.tail _ (.head _))))) (memCons (.head _) (memCons (.tail _ (.head _)) (fun p hp => .tail _ (.tail _ (.tail _ (.tail _ (.tail _ hp)))))))))) ⟨⟨Nat.ne_of_gt l2, Nat.ne_of_gt l3, Nat.ne_of_gt l4⟩, ⟨Ne.symm o1, Ne.symm o2, Ne.symm o3⟩, off⟩ trivial ⟨?_, .tail _ (.tail _ hc)⟩
      rw [take_snoc hf]
      exact seenL_snoc (f := (k, ts)) ⟨⟨_, D2, t0, ys', _, rfl, .head _, .tail _ (.head _), hs2⟩, trivial⟩ (seenL_mono (fun p hp => .tail _ (.tail _ hp)) hs)
    · obtain ⟨hs2, rfl⟩ := hJ
      have hP3 : vs[j]? = some v := by simpa using hP2
      obtain ⟨t, x, dx, es, lv, k', u, cl, kl, ht, rfl, hx0, hx1, hIt⟩ := roots_at hR hP3
      have hIx : InstAt g x (instObj 188 dx) 188 (some (dictOf es 19)) := ⟨hx0, rfl, rfl, hx1⟩
      (try clear kF3); (try clear kF4 kN4)
      k_steps
      all_goals (try with_reducible refine hQ _ _ ?_)
      (with_reducible rename Fr g _ _ _ => kF5)
      (with_reducible rename News g _ _ _ => kN5)
      exact LCg.CompEnd.intro kF5 kN5 _ (fun p hp => hp) off2 (.inl hl) ⟨by rw [take_snoc ht]; exact strsOf_snoc hs2, rfl⟩
end
set_option maxHeartbeats 0
section
variable {w : World} {A : Around} {E : Value → Shared → Prop} {s' : Shared} {base g h₂ kp : Heap} {env : Env} {L L' fa e d t : Addr} {od : Obj} {m : Str → Option Value} {cd : Value} {name : Str} {scope : Scope} {led : List (Addr × Obj)} {mt : List Addr} {mean : ExcName → Option Value} {mg mb : Str → Option Value}
  {n : Str} {b₀ : Stmt} {suite : List Stmt} {pos np : Pos} {rest : List ExceptHandler} {Q : Flow → Shared → Prop}
theorem caught_D (B : Below A base [env] g) (hfL : env.frame = some L) (F : Fr g L' h₂ m) (XB : (KK w.params).In base) (TB : Top vw lz mean mg mb base) (hk : scope.kind = .function)
    (Z : Rsd (A.deeper (envOfC name scope L' fa cd)) h₂ mt e d t kp s'.heap) (hmt : ∀ b ∈ mt, g.get? b = none) (hled : ∀ p ∈ (d, od) :: led, kp.get? p.1 = some p.2 ∧ g.get? p.1 = none) (hNs : ∃ m₀, h₂.Ns L m₀)
    (k : ∀ h' tk' oe oL, oe.cls = .ref 84 → oe.dict = some d → notCls oe = true → (∀ mm, h₂.Ns L mm → LCg.NsObj oL mm) → Fr (hideAll g [L]) L' h' (fun y => if y = n then some (.ref e) else m y) → News (hideAll g [L]) L' h' ((e, oe) :: (L, oL) :: (d, od) :: led) →
      (KK w.params).In (hideAll g [L]) → Top vw lz mean mg mb (hideAll g [L]) →
      wpAny (model PG w) ((A.deeper (envOfC name scope L' fa cd)).mark (some (.ref e))) (execs (b₀ :: suite) (envOfC name scope L' fa cd))
        (fun f s₄ => wpAny (model PG w) (A.deeper (envOfC name scope L' fa cd)) (do bindName (envOfC name scope L' fa cd) n .none; unbindBehindTheSuite (envOfC name scope L' fa cd) n pos) (fun _ s₅ => Q f s₅) E s₄)
        (AsSuiteRaised (model PG w) ((A.deeper (envOfC name scope L' fa cd)).mark (some (.ref e))) (envOfC name scope L' fa cd) n pos (notedBy (model PG w) ((A.deeper (envOfC name scope L' fa cd)).mark (some (.ref e))) (envOfC name scope L' fa cd) (cameBackBy (model PG w) (A.deeper (envOfC name scope L' fa cd)) (envOfC name scope L' fa cd) E)))
        { s' with heap := h', toks := tk' })
    (hlo : (envOfC name scope L' fa cd).kindOf n = some .local) (hx : (envOfC name scope L' fa cd).kindOf (Str.ofString "GrammarFault") = some .globalImplicit) :
    wpAny (model PG w) (A.deeper (envOfC name scope L' fa cd)) (noteFrame (.ref e) (envOfC name scope L' fa cd))
      (fun _ s₂ => wpAny (model PG w) (A.deeper (envOfC name scope L' fa cd)) (setFlight (.ref e) none) (fun _ s₃ =>
        wpAny (model PG w) (A.deeper (envOfC name scope L' fa cd)) (handleBy (.ref e) (envOfC name scope L' fa cd) (.ExceptHandler (some (.Name (Str.ofString "GrammarFault") np)) (some n) (b₀ :: suite) pos :: rest)) Q E s₃) E s₂) E s' := by
  obtain ⟨hp, gg, dd, tk, os⟩ := s'
  have hfr : (A.deeper (envOfC name scope L' fa cd)).frames = some [(envOfC name scope L' fa cd), env] := Around.frames_deeper B.stack
  have fL : ([(envOfC name scope L' fa cd), env] : List Env).filterMap (·.frame) = [L', L] := by
    simp only [List.filterMap_cons, List.filterMap_nil, hfL]; rfl
  have gL' : g.get? L' = none := kts_self F
  obtain ⟨hk1, ⟨L1, oL1, q1, q2, q3, q4⟩, _⟩ := B.frames
  obtain rfl : L = L1 := Option.some.inj (hfL.symm.trans q1)
  have kL' : kp.get? L' = none := by
    obtain ⟨_, ⟨L2, _, r1, r2, _⟩, _⟩ := Z.frames _ hfr
    obtain rfl : L' = L2 := Option.some.inj r1
    exact r2
  have bL : base.get? L = none := q2
  have gne : ∀ b o, g.get? b = some o → b ≠ L → kp.get? b = some o := fun b o e1 n1 => by
    refine Z.old b o (F.keep _ _ e1) (fun q => by rw [hmt b q] at e1; cases e1) fun fr hf q => ?_
    rw [hfr] at hf
    obtain rfl := Option.some.inj hf
    rw [fL] at q
    rcases List.mem_cons.mp q with q | q
    · rw [q, gL'] at e1; cases e1
    · exact n1 (List.mem_singleton.mp q)
  have hide : ∀ b o, (hideAll g [L]).get? b = some o → g.get? b = some o ∧ b ≠ L := fun b o e1 => ⟨of_hideAll _ e1, fun q => by rw [q, hideAll_none _ (.head _)] at e1; cases e1⟩
  have hb : ∀ b o, base.get? b = some o → (hideAll g [L]).get? b = some o := fun b o e1 => hideAll_get _ (B.stays b o e1) fun q => by rw [List.mem_singleton.mp q, bL] at e1; cases e1
  have X' : (KK w.params).In (hideAll g [L]) := XB.keeps hb
  have T' : Top vw lz mean mg mb (hideAll g [L]) := TB.keeps hb
  have ns1 : ∀ h', hp.UpToSlots h' → h'.Ns L' m := fun h' u => u.ns (Z.ns _ hfr L' (by rw [fL]; exact .head _) m F.ns)
  have frk : ∀ h', kp.StaysIn h' → hp.UpToSlots h' → Fr (hideAll g [L]) L' h' m := fun h' z u => ⟨ns1 h' u, fun b o e1 => z b o (gne b o (hide b o e1).1 (hide b o e1).2), by rw [hideAll_size]; exact F.above⟩
  refine noteNextD (base := kp) (a0 := .ref t) hfr (Z.frames _ hfr) rfl Z.tr Z.stays Z.new fun h4 y1 y2 y3 y4 => ?_
  refine flightD y2 y3 y1 fun h5 z1 z2 z3 z4 => ?_
  have F5 := frk h5 z1 (y4.trans z4)
  obtain ⟨oe5, vs5, T5, oT5, ts5, he5, hc5, _⟩ := id z3
  refine wpAny_handleBy_cons (codeAny_handlers_test (nameX_K F5 X' (topRead_of T') (by k_is) ?_ hk hx)) (by intro q; cases q)
  refine wpAny_excMatches_sub_self (cls84 (X'.keeps F5.keep)) he5 hc5 (by decide +kernel) (codeAny_handlers_suite_as ?_)
  refine flightD z2 z3 z1 fun h6 u1 u2 u3 u4 => ?_
  have F6 := frk h6 u1 ((y4.trans z4).trans u4)
  obtain ⟨oe, vs, T, oT, ts, he, hc, hdc, hdd, _⟩ := id u3
  obtain ⟨m₀, hm₀⟩ := hNs
  have nsL : ∀ mm, h₂.Ns L mm → h6.Ns L mm := fun mm hm => ((y4.trans z4).trans u4).ns (Z.ns _ hfr L (by rw [fL]; exact .tail _ (.head _)) mm hm)
  obtain ⟨oL, hoL, _⟩ := LCg.ns_obj (nsL _ hm₀)
  have eL : e ≠ L := fun q => by
    obtain ⟨o, es, ep, h1, h2, _⟩ := nsL _ hm₀
    rw [← q, he] at h1
    cases h1
    rw [hdd] at h2; cases h2
  have eL' : e ≠ L' := fun q => by
    obtain ⟨o, es, ep, h1, h2, _⟩ := F6.ns
    rw [← q, he] at h1
    cases h1
    rw [hdd] at h2; cases h2
  have eg : g.get? e = none := by
    cases q : g.get? e with
    | none => rfl
    | some o => have := gne e o q eL; rw [Z.new] at this; cases this
  have gn : ∀ b, g.get? b = none → (hideAll g [L]).get? b = none := fun b q => by
    cases q' : (hideAll g [L]).get? b with
    | none => rfl
    | some o => have := of_hideAll _ q'; rw [q] at this; cases this
  have LL' : L ≠ L' := fun q => by rw [← q, q3] at gL'; cases gL'
  have N6 : News (hideAll g [L]) L' h6 ((e, oe) :: (L, oL) :: (d, od) :: led) := fun p hp => by
    rcases List.mem_cons.mp hp with rfl | hp
    · exact ⟨he, eL', gn _ eg⟩
    · rcases List.mem_cons.mp hp with rfl | hp
      · exact ⟨hoL, LL', hideAll_none _ (.head _)⟩
      · obtain ⟨h1, h2⟩ := hled p hp
        exact ⟨u1 _ _ h1, (fun q => by rw [q, kL'] at h1; cases h1), gn _ h2⟩
  refine storeX_L F6 N6 (fun h7 F7 N7 => ?_) hk hlo
  refine k h7 _ oe oL hc hdc (by unfold notCls; rw [hdd]) (fun mm hm => ?_) F7 N7 X' T'
  obtain ⟨o, ho, hn⟩ := LCg.ns_obj (nsL _ hm)
  rw [hoL] at ho
  cases ho
  exact hn
end
set_option maxHeartbeats 0
theorem exc_at {w : World} {A : Around} {s : Shared} {h₀ : Heap} {L : Addr} {m : Str → Option Value} {news : List (Addr × Obj)} {E : Value → Shared → Prop} {x d tp : Addr} {oe : Obj} {y : Str} {u k1 k2 : Nat} {expr : Bool} {Q : Value → Shared → Prop} (F : Fr h₀ L s.heap m) (X₀ : (KK w.params).In h₀) (N : News h₀ L s.heap news) (hx : (x, oe) ∈ news) (c1 : oe.cls = .ref 84) (c2 : oe.dict = some d) (c3 : notCls oe = true) (hd : (d, faultD w.params y u tp k1 k2) ∈ news) (h : Q (.ref tp) { s with toks := s.toks + 1 }) :
    wpAny (model PG w) A (getAttr (.ref x) "at" expr) Q E s := by
  obtain ⟨hh, g, dd, t, os⟩ := s
  have X := X₀.keeps F.keep
  have I : InstAt hh x oe 84 (some (faultD w.params y u tp k1 k2)) := ⟨(N _ hx).1, c1, c3, by rw [c2]; exact (N _ hd).1⟩
  have L0 := I.type (M := model PG w)
  have L1 : Looks (model PG w) hh (typeLookup (.ref 84) "__getattribute__") (some (.builtin "BaseException.__getattribute__")) := looks_findIn X (by k_is)
  have L2 : Looks (model PG w) hh (typeLookup (.ref 84) "__getattr__") none := looks_findIn X (by k_is)
  have hf : findObj (KK w.params) 84 (some (faultD w.params y u tp k1 k2)) "at" = some (.value (.ref tp)) := findObj_own (attr := none) (by k_is) (by k_is) (by k_is) (by rw [lookIn_dict]; k_get)
  have L3 := looks_find (M := model PG w) X I hf
  have hx2 : (Value.builtin "BaseException.__getattribute__" == Value.builtin "object.__getattribute__") = false := by decide +kernel
  have hx1 : (onTheHeap (Value.ref 84) && Value.builtin "BaseException.__getattribute__" == Value.builtin "object.__getattribute__") = false := by rw [hx2]; rfl
  have hx0 : (expr && onTheHeap (Value.builtin "BaseException.__getattribute__")) = false := by cases expr <;> rfl
  unfold getAttr getAttrBy
  refine wpAny_bind (wpAny_mkText (wpAny_holding (wpAny_bind (L0.at (wpAny_bind (L1.at ?_))))))
  dsimp only
  rw [hx1, if_neg (by decide)]
  unfold getAttrByItsOwn hookBefore callGetattribute
  rw [if_pos (by decide)]
  refine wpAny_bind (L2.at ?_)
  rw [hx0]
  have f3 := PySem.F.attrBase_Exception.ga.bind (.ref x)
  unfold boundAndCalled
  repeat (first | with_reducible refine wpAny_call ?_ | wp_step)
  have sub : Looks (model PG w) hh (isInstance (.ref x) (.type "BaseException")) true := I.type.andThen (looks_subIn X (by k_is))
  have h1 : builtinKind "BaseException.__getattribute__" = some .slot := by decide +kernel
  have h2 : splitId "BaseException.__getattribute__" = some ("BaseException", "__getattribute__") := by decide +kernel
  have h3 := PySem.F.args_bexc_ga (.ref x) (.str "at" t)
  refine codeAny_call_builtin PySem.F.attrBase_Exception.ga.plain PySem.F.entry_bexc_ga ?_
  refine @check_slot (model PG w) _ _ ⟨hh, g, dd, t + 1, os⟩ "BaseException.__getattribute__" "BaseException" "__getattribute__" (.ref x) [.str "at" t] [] _ h1 h2 sub h3 ?_
  unfold Builtin.«object.__getattribute__»
  refine wpAny_bind (wpAny_pure (a := (Value.ref x, [Value.str (Str.ofString "at") t])) ?_)
  refine wpAny_bind (wpAny_pure (a := (Str.ofString "at")) ?_)
  refine wpAny_bind (L0.at (wpAny_bind (L3.at ?_)))
  refine wpAny_pure ?_
  show wpAny _ _ (handedOut (.ref tp)) _ _ _
  rw [handedOut_of (by k_handed)]; exact wpAny_pure h
set_option maxHeartbeats 0
theorem name_goesC {M : Model} {A : Around} {E : Value → Shared → Prop} {s : Shared} {name : Str} {scope : Scope} {L a : Addr} {cd : Value} {h₀ : Heap} {m : Str → Option Value} {news : List (Addr × Obj)} {n : Str} {pos : Pos} {Q : Unit → Shared → Prop} (F : Fr h₀ L s.heap m) (N : News h₀ L s.heap news)
    (h : ∀ h' v, Fr h₀ L h' (fun x => if x = n then v else m x) → News h₀ L h' news → Q () { s with heap := h', toks := s.toks + 1 })
    (hk : scope.kind = .function := by rfl) (hl : (envOfC name scope L a cd).kindOf n = some .local := by rfl) :
    wpAny M A (do bindName (envOfC name scope L a cd) n .none; unbindBehindTheSuite (envOfC name scope L a cd) n pos) Q E s :=
  wpAny_nameGoes_keeps hl F.ns (by show (scope.kind == .class || (scope.kind == .module && L != mainGlobals)) = false; rw [hk]; rfl) fun h' v hn hs => h h' v (F.set hn hs) (N.set hs)
theorem backHide {w : World} {A : Around} {base h₀ h g h' : Heap} {L L'' : Addr} {m m'' : Str → Option Value} {news hide led : List (Addr × Obj)} {c : Nat} {oL o9 : Obj} {t9 : Addr} (C : Cx w A base h₀ L m h news c)
    (hsub : ∀ p ∈ hide, p ∈ news) (hg : ∀ b o, h.get? b = some o → b ∉ hide.map (·.1) → g.get? b = some o) (FG : Fr h₀ L g m) (kF : Fr (hideAll g [L]) L'' h' m'') (kN : News (hideAll g [L]) L'' h' led) (hin : ∀ p ∈ hide, p ∈ led)
    (hL : (L, oL) ∈ led) (hns : LCg.NsObj oL m) (ht : (t9, o9) ∈ led) (htL : t9 ≠ L) (hF : ∀ q ∈ hide, q.1 ≠ t9) :
    Fr h₀ L h' m ∧ News h₀ L h' ((t9, o9) :: news) ∧ ∀ q ∈ news, q.1 ≠ t9 := by
  have h0L : h₀.get? L = none := kts_self FG
  have up : ∀ b o, h₀.get? b = some o → (hideAll g [L]).get? b = some o := fun b o e => hideAll_get _ (FG.keep b o e) fun q => by rw [List.mem_singleton.mp q, h0L] at e; cases e
  have ng : ∀ b o, g.get? b = some o → b ≠ L → (hideAll g [L]).get? b = some o := fun b o e n => hideAll_get _ e fun q => n (List.mem_singleton.mp q)
  refine ⟨⟨hns.ns (kN _ hL).1, fun b o e => kF.keep b o (up b o e), FG.above⟩, fun p hp => ?_, fun q hq e => ?_⟩
  · rcases List.mem_cons.mp hp with rfl | hp
    · refine ⟨(kN _ ht).1, htL, ?_⟩
      cases q : h₀.get? t9 with
      | none => rfl
      | some o => have := (kN _ ht).2.2; rw [up _ _ q] at this; cases this
    · obtain ⟨a1, a2, a3⟩ := C.N p hp
      refine ⟨?_, a2, a3⟩
      by_cases q : p.1 ∈ hide.map (·.1)
      · obtain ⟨p', hp', e⟩ := List.mem_map.mp q
        have e2 := (C.N p' (hsub p' hp')).1
        rw [e, a1] at e2
        have e3 := (kN p' (hin p' hp')).1
        rw [e] at e3
        rw [e3, Option.some.inj e2]
      · exact kF.keep _ _ (ng _ _ (hg _ _ a1 q) a2)
  · obtain ⟨a1, a2, a3⟩ := C.N q hq
    by_cases q' : q.1 ∈ hide.map (·.1)
    · obtain ⟨p', hp', e'⟩ := List.mem_map.mp q'
      exact hF p' hp' (e'.trans e)
    · have := (kN _ ht).2.2
      rw [← e, ng _ _ (hg _ _ a1 q') a2] at this
      cases this
set_option maxHeartbeats 0
def PairsL (h : Heap) : List Value → List (Str × Str) → Prop
  | [], [] => True
  | v :: vs, p :: ps => (∃ a t u, v = .ref a ∧ IsTup h a #[.str p.1 t, .str p.2 u]) ∧ PairsL h vs ps
  | _, _ => False
theorem pairs_at {h : Heap} : ∀ {vs : List Value} {ps : List (Str × Str)} {i : Nat} {v : Value}, PairsL h vs ps → vs[i]? = some v → ∃ k w a t u, ps[i]? = some (k, w) ∧ v = .ref a ∧ IsTup h a #[.str k t, .str w u]
  | [], [], i, v, _, e => by simp at e
  | v' :: vs, p :: ps, 0, v, ⟨⟨a, t, u, e1, h1⟩, _⟩, e => by
    simp only [List.getElem?_cons_zero, Option.some.injEq] at e
    subst e
    exact ⟨p.1, p.2, a, t, u, rfl, e1, h1⟩
  | v' :: vs, p :: ps, i + 1, v, ⟨_, r⟩, e => by
    rw [List.getElem?_cons_succ] at e
    obtain ⟨k, w, z⟩ := pairs_at r e
    exact ⟨k, w, by simpa only [List.getElem?_cons_succ] using z⟩
  | [], _ :: _, _, _, h, _ => h.elim
  | _ :: _, [], _, _, h, _ => h.elim
theorem pairs_len {h : Heap} : ∀ {vs : List Value} {ps : List (Str × Str)}, PairsL h vs ps → vs.length = ps.length
  | [], [], _ => rfl
  | _ :: _, _ :: _, ⟨_, r⟩ => congrArg (· + 1) (pairs_len r)
  | [], _ :: _, h => h.elim
  | _ :: _, [], h => h.elim
def TokL (P : Params) (nw : List (Addr × Obj)) : Int → List Value → List (Str × Str) → Prop
  | _, [], [] => True
  | i, y :: ys, p :: ps => (∃ x dx tp es a b r1 r2, y = .ref x ∧ (x, instObj 647 dx) ∈ nw ∧ (dx, dictOf es 4) ∈ nw ∧ TokEs P p.1 p.2 a b tp es ∧ (tp, tup2 (.int (i + 1) r1) (.int 12 r2)) ∈ nw) ∧ TokL P nw (i + 1) ys ps
  | _, _, _ => False
theorem tokL_mono {P : Params} {nw nw' : List (Addr × Obj)} (k : ∀ p ∈ nw, p ∈ nw') : ∀ {i : Int} {ys : List Value} {ps : List (Str × Str)}, TokL P nw i ys ps → TokL P nw' i ys ps
  | _, [], [], _ => trivial
  | _, _ :: _, _ :: _, ⟨⟨x, dx, tp, es, a, b, r1, r2, e, h1, h2, h3, h4⟩, r⟩ => ⟨⟨x, dx, tp, es, a, b, r1, r2, e, k _ h1, k _ h2, h3, k _ h4⟩, tokL_mono k r⟩
  | _, [], _ :: _, h => h.elim
  | _, _ :: _, [], h => h.elim
theorem tokL_snoc {P : Params} {nw : List (Addr × Obj)} {y : Value} {f : Str × Str} : ∀ {i : Int} {ys : List Value} {ps : List (Str × Str)}, TokL P nw (i + (ys.length : Int)) [y] [f] → TokL P nw i ys ps → TokL P nw i (ys ++ [y]) (ps ++ [f])
  | i, [], [], h, _ => by simpa using h
  | i, _ :: ys, _ :: _, h, ⟨a, r⟩ => ⟨a, tokL_snoc ((show i + ((ys.length + 1 : Nat) : Int) = i + 1 + (ys.length : Int) by omega) ▸ h) r⟩
  | _, [], _ :: _, _, h => h.elim
  | _, _ :: _, [], _, h => h.elim
theorem toks_of {P : Params} {nw : List (Addr × Obj)} : ∀ {i : Int} {ys : List Value} {ps : List (Str × Str)}, TokL P nw i ys ps → ∃ ts : List TK, itemsOf ts = ys ∧ ts.map (fun t => (t.kind, t.worth)) = ps ∧ (∀ (j : Nat) t, ts[j]? = some t → t.row = i + (j : Int) + 1) ∧
    ∀ t ∈ ts, (t.x, instObj 647 t.d) ∈ nw ∧ (t.d, tkD t) ∈ nw ∧ (t.tup, tup2 (.int t.row t.r1) (.int t.col t.r2)) ∈ nw
  | _, [], [], _ => ⟨[], rfl, rfl, fun j t h => by simp at h, fun t h => nomatch h⟩
  | i, y :: ys, p :: ps, ⟨⟨x, dx, tp, es, a, b, r1, r2, e, h1, h2, h3, h4⟩, r⟩ => by
    obtain ⟨ts, q1, q2, q3, q4⟩ := toks_of r
    obtain ⟨c1, c2, c3, c4, rfl⟩ := h3
    refine ⟨⟨x, dx, p.1, p.2, tp, i + 1, 12, PyData.keyHash P "kind", c1, a, PyData.keyHash P "worth", c2, b, PyData.keyHash P "at", c3, PyData.keyHash P "is_in_a", c4, r1, r2⟩ :: ts, ?_, ?_, fun j t h => ?_, fun t ht => ?_⟩
    · rw [e, ← q1]; rfl
    · rw [← q2]; rfl
    · cases j with
      | zero => simp only [List.getElem?_cons_zero, Option.some.injEq] at h; subst h; show i + 1 = i + ((0 : Nat) : Int) + 1; omega
      | succ j => rw [List.getElem?_cons_succ] at h; rw [q3 j t h]; omega
    · rcases List.mem_cons.mp ht with rfl | ht
      · exact ⟨h1, h2, h4⟩
      · exact q4 t ht
  | _, [], _ :: _, h => h.elim
  | _, _ :: _, [], h => h.elim
theorem off1_mem {d : Addr} : ∀ {l : List (Addr × Obj)}, LCg.Off1 d l → ∀ p ∈ l, p.1 ≠ d
  | [], _, _, h => nomatch h
  | q :: r, ⟨a, b⟩, p, h => by
    rcases List.mem_cons.mp h with rfl | h
    · exact a
    · exact off1_mem b p h
theorem tokEs_len {P : Params} {kd wd : Str} {k1 k2 : Nat} {tp : Addr} {es : List DictEntry} (h : TokEs P kd wd k1 k2 tp es) : es.length = 4 := by obtain ⟨_, _, _, _, rfl⟩ := h; rfl
theorem itemP {w : World} {A : Around} {s : Shared} {h₀ : Heap} {L : Addr} {m : Str → Option Value} {E : Value → Shared → Prop} {value slice : PySem.Expr} {l : Addr} {vs : List Value} {i : Nat} {u : Tok} {v : Value} {Q : Value → Shared → Prop} (F : Fr h₀ L s.heap m) (hl : h₀.IsList l (List.toArray vs)) (hz : vs.length ≤ 1000) (hx : vs[i]? = some v) (h : Q v s)
    (hs : subscripted slice false (.ref l) (.int (0 + (i : Int)) u) = operate [.ref l, .int (0 + (i : Int)) u] (getItem (.ref l) (.int (0 + (i : Int)) u))) (hg : ∀ r, letTemporaryGo value (.ref l) r = pure ()) :
    wpAny (model PG w) A (subscriptTail value slice (.ref l) (.int (0 + (i : Int)) u)) Q E s := by
  have hlt : i < vs.length := (List.getElem?_eq_some_iff.mp hx).1
  exact item_list (F.lst hl) (by omega) (by omega) (by simp only [List.getElem?_toArray]; rw [show (0 + (i : Int)).toNat = i by omega]; exact hx) h hs hg
theorem lenB {w : World} {A : Around} {s : Shared} {h₀ : Heap} {L : Addr} {m : Str → Option Value} {E : Value → Shared → Prop} {l : Addr} {vs : List Value} {Q : Value → Shared → Prop} (F : Fr h₀ L s.heap m) (hl : h₀.IsList l (List.toArray vs)) (hz : vs.length ≤ 1000) (h : Q (.int (vs.length : Int) (s.toks + 1)) { s with toks := s.toks + 1 + 1 }) :
    wpAny (model PG w) A (call (.builtin "len") [.ref l]) Q E s :=
  len_list (F.lst hl) (by simp only [List.size_toArray]; omega) (by simpa only [List.size_toArray] using h)
local macro_rules
  | `(tactic| walk_at "call builtin:len") => zap `Mine.lenB ["M z"]
  | `(tactic| walk_at "subscriptTail") => zap `Mine.itemP ["M z"]
  | `(tactic| walk_at "call ref") => zap `Mine.c_mktoken ["M z", "M s"]
def Run (w : World) (base : Heap) (D dD fd sd : Addr) (ed : List DictEntry) (o : Obj) (kvs : List (Str × Value)) (sv : Array Value) (sn : Nat) (bs : Bool) (ps : List (Str × Str)) (b : Bool) (titles : List Str) (nm : Str) (e j : Int) : Prop :=
  ∀ (A : Around) (s : Shared) (h₀ : Heap) (L : Addr) (m : Str → Option Value) (news : List (Addr × Obj)) (Q E : Value → Shared → Prop) (r dr l nd : Addr) (k : RK) (ta : Nat) (ts : List TK), Cx w A base h₀ L m s.heap news 30 → A.units + 300 < cLine →
    (∀ p ∈ [(r, instObj 617 dr), (dr, rdD k l nd 0 ta), (D, instObj 214 dD), (dD, dictOf ed 6), (fd, o), (sd, lst sv sn)], p ∈ news) → PW [(r, instObj 617 dr), (dr, rdD k l nd 0 ta), (D, instObj 214 dD), (dD, dictOf ed 6), (fd, o), (sd, lst sv sn)] →
    (∀ g, (∀ b o', s.heap.get? b = some o' → b ∉ ([(r, instObj 617 dr), (dr, rdD k l nd 0 ta), (D, instObj 214 dD), (dD, dictOf ed 6), (fd, o), (sd, lst sv sn)] : List (Addr × Obj)).map (·.1) → g.get? b = some o') → Toks g l ts) → ts.map (fun t => (t.kind, t.worth)) = ps → (∀ (i : Nat) t, ts[i]? = some t → t.row = (i : Int) + 1) →
    (b = true → ∀ rl vs n rled o' ta' sv' sn' u h' tk', RootsIn w.params rled vs titles → o'.IsDictOf (PySem.strKind PG w) (stored kvs nm (.ref rl)) → (sv' = if bs = true then sv.push (.str nm u) else sv) → Fr h₀ L h' m →
      (∀ n1 n2 n3, Upd dr (rdD k l nd 0 ta) (rdD k l nd e ta') news n1 → Upd fd o o' n1 n2 → Upd sd (lst sv sn) (lst sv' sn') n2 n3 → News h₀ L h' ((rl, lst (List.toArray vs) n) :: (n3 ++ rled))) → (∀ q ∈ news, q.1 ≠ rl) → (∀ p ∈ rled, p.1 ≠ rl ∧ ∀ q ∈ news, q.1 ≠ p.1) → Q .none { s with heap := h', toks := tk' }) →
    (b = false → ∀ t' x d t1 y u kp k1 k2 h' tk', t' ∈ ts → t'.row = j + 1 → Rsd A s.heap (([(r, instObj 617 dr), (dr, rdD k l nd 0 ta), (D, instObj 214 dD), (dD, dictOf ed 6), (fd, o), (sd, lst sv sn)] : List (Addr × Obj)).map (·.1)) x d t1 kp h' → kp.get? d = some (faultD w.params y u t'.tup k1 k2) → kp.get? D = some (instObj 214 dD) → kp.get? dD = some (dictOf ed 6) → kp.get? fd = some o → kp.get? sd = some (lst sv sn) → E (.ref x) { s with heap := h', toks := tk' }) →
    wpAny (model PG w) A (call (.ref 379) [.ref r, .ref D, .bool bs]) Q E s
local macro_rules | `(tactic| walk_at "getAttr ref") => zap `Mine.exc_at ["M z"]
section
variable {w : World} {A : Around} {s : Shared} {base h₀ : Heap} {L : Addr} {m : Str → Option Value} {news news' : List (Addr × Obj)} {Q E : Value → Shared → Prop} {r dr l nd : Addr} {k : RK} {a : Int} {ta : Nat} {ts : List TK}
theorem c_heard {D dD fd sd pl : Addr} {ed : List DictEntry} {o : Obj} {kvs : List (Str × Value)} {sv : Array Value} {sn pn : Nat} {bs : Bool} {vs : List Value} {ps : List (Str × Str)} {b : Bool} {titles : List Str} {nm : Str} {e9 j9 : Int} (C : Cx w A base h₀ L m s.heap news 40) (hun : A.units + 400 < cLine)
    (hfr1 : ∃ ev, A.frames = some [ev]) (XB : (KK w.params).In base) (TB : ∃ mean mg mb, Top vw lz mean mg mb base)
    (hsub : ∀ p ∈ [(D, instObj 214 dD), (dD, dictOf ed 6), (fd, o), (sd, lst sv sn)], p ∈ news) (hp : PW [(D, instObj 214 dD), (dD, dictOf ed 6), (fd, o), (sd, lst sv sn)]) (hed : DataEs w.params fd sd ed) (lo : (fd == sysModules) = false) (ho : o.IsDictOf (PySem.strKind PG w) kvs)
    (hPg : ∀ g, (∀ b o', s.heap.get? b = some o' → b ∉ ([(D, instObj 214 dD), (dD, dictOf ed 6), (fd, o), (sd, lst sv sn)] : List (Addr × Obj)).map (·.1) → g.get? b = some o') → g.get? pl = some (lst (List.toArray vs) pn) ∧ PairsL g vs ps) (hvl : vs.length ≤ 1000)
    (run : Run w base D dD fd sd ed o kvs sv sn bs ps b titles nm e9 j9)
    (hok : b = true → ∀ t9 k1 k2 rl vs n rled o' sv' sn' u h' tk', RootsIn w.params rled vs titles → o'.IsDictOf (PySem.strKind PG w) (stored kvs nm (.ref rl)) → (sv' = if bs = true then sv.push (.str nm u) else sv) → Fr h₀ L h' m →
      (∀ n2 n3, Upd fd o o' news n2 → Upd sd (lst sv sn) (lst sv' sn') n2 n3 → News h₀ L h' ((t9, tup2 (.str "read" k1) (.int e9 k2)) :: (rl, lst (List.toArray vs) n) :: (n3 ++ rled))) → (∀ q ∈ news, q.1 ≠ rl ∧ q.1 ≠ t9) → (∀ p ∈ rled, p.1 ≠ rl ∧ p.1 ≠ t9 ∧ ∀ q ∈ news, q.1 ≠ p.1) → @Ne Nat rl t9 → Q (.ref t9) { s with heap := h', toks := tk' })
    (hbad : b = false → ∀ t9 k1 k2 h' tk', Fr h₀ L h' m → News h₀ L h' ((t9, tup2 (.str "wrong" k1) (.int j9 k2)) :: news) → (∀ q ∈ news, q.1 ≠ t9) → Q (.ref t9) { s with heap := h', toks := tk' }) :
    wpAny (model PG w) A (call (.ref 670) [.ref D, .ref pl, .bool bs]) Q E s := by
  obtain ⟨A₀, ev, outer0, _, _, _, _, hA0, hf0, _⟩ := C.ex
  refine' enterCX [("data", .ref D), ("pairs", .ref pl), ("is_sort", .bool bs)] [(D, instObj 214 dD), (dD, dictOf ed 6), (fd, o), (sd, lst sv sn)] C hsub ?k6 ?k7 ?k9 ?kB ?kD ?_ ?c2 ?c3 ?c4
  case k6 => k_is
  case k7 => k_is
  case k9 => exact BindsTo.of_eq rfl
  case kB => exact rfl
  case kD => decide +kernel
  case c2 => rfl
  case c3 => rfl
  case c4 => rfl
  intro dp fr gd un Q₁ E₁ g L' h₁ tk cells env outer mean mg mb eA hQ hE₁ hPO ret FG st F' N' Y' B' X' T' lt room hg
  subst eA
  have hn0 : ∀ p ∈ [(D, instObj 214 dD), (dD, dictOf ed 6), (fd, o), (sd, lst sv sn)], g.get? p.1 = none := fun p hp => (N' p (List.mem_append_right _ hp)).2.2
  k_lt lt
  obtain ⟨oc, hE, d1⟩ := CellsAre.one Y'
  subst hE
  clear Y'
  (try simp only [List.cons_append, List.nil_append] at N')
  obtain ⟨hpl, hPL⟩ := hPg g hg
  have hlp : g.IsList pl (List.toArray vs) := ⟨_, hpl, rfl, _, rfl⟩
  (try dsimp only [AA] at room)
  (try dsimp only [AA] at hun)
  (try dsimp only)
  (try k_fold)
  k_steps
  all_goals (try with_reducible refine hQ _ _ ?_)
  (with_reducible rename Fr g _ _ _ => kF)
  refine Hold.mk (LCg.ListComp_U (F₀ := kF) (by with_unfolding_all rfl) (by decide) (by rfl) (by decide) (by rfl) ?_)
  k_steps
  all_goals (try with_reducible refine hQ _ _ ?_)
  (with_reducible rename Fr g _ _ _ => kF2)
  (with_reducible rename News g _ _ _ => kN2)
  (with_reducible rename IsRange _ _ _ _ _ _ _ _ => hr)
  refine Hold.mk (LCg.CompSrc.range (n := vs.length) rfl kF2 kN2 hr (small_one (by decide) (by decide) (by omega) (by omega)) (by rw [rangeSize_one]; split <;> omega) (size_line hvl) fun g' => ?_)
  clear hr
  refine comp_ind (J := fun i ys nw => ∃ acc, nw = acc ++ ((L' + 1, oc) :: [(D, instObj 214 dD), (dD, dictOf ed 6), (fd, o), (sd, lst sv sn)]) ∧ ys.length = i ∧ TokL w.params acc 0 ys (ps.take i) ∧ ∀ p ∈ acc, ∀ q ∈ ((L' + 1, oc) :: [(D, instObj 214 dD), (dD, dictOf ed 6), (fd, o), (sd, lst sv sn)]), q.1 < p.1) (fun ys nw hJ => ?_) (fun i ys nw hi hJ v I oI C oC D' m₂ h tk E' hP hC hx F N off ne => ?_) vs.length 0 [] _ (Nat.zero_add _) ⟨[], rfl, rfl, by rw [List.take_zero]; trivial, fun p hp => nomatch hp⟩
  · obtain ⟨acc, rfl, hl, hs, hlt⟩ := hJ
    rw [pairs_len hPL, List.take_length] at hs
    intro D1 h1 tk1 F1 N1 off1
    k_steps
    all_goals (try with_reducible refine hQ _ _ ?_)
    refine' c_mkreader ?cx ?_
    case cx => walk_at "M cx"
    intro r dr es h' tk' hes F3 N3 l1 l2
    obtain ⟨ka, kb, kc, nd, rfl⟩ := hes
    have N4 : News g L' h' ((r, instObj 617 dr) :: (dr, rdD ⟨PyData.keyHash w.params "tokens", ka, PyData.keyHash w.params "at", kb, PyData.keyHash w.params "named", kc⟩ D1 nd 0 880) :: (D1, LCg.lst ys) :: (acc ++ ((L' + 1, oc) :: [(D, instObj 214 dD), (dD, dictOf ed 6), (fd, o), (sd, lst sv sn)]))) := N3
    clear N3
    obtain ⟨ts, e1, e2, e3, e4⟩ := toks_of hs
    k_steps
    all_goals (try with_reducible refine hQ _ _ ?_)
    refine wpAny_Try_except ?_
    k_steps
    all_goals (try with_reducible refine hQ _ _ ?_)
    (with_reducible rename Fr g _ _ _ => kF3)
    (with_reducible rename News g _ _ _ => kN3)
    (with_reducible rename Heap => h7)
    have rD : @Ne Nat r dr := Nat.ne_of_gt l2
    have l2n : @LT.lt Nat _ dr r := l2
    have inB : ∀ q ∈ ((L' + 1, oc) :: [(D, instObj 214 dD), (dD, dictOf ed 6), (fd, o), (sd, lst sv sn)]), q.1 < dr := fun q hq => l1 q (.tail _ (List.mem_append_right _ hq))
    have hpw := hp
    have hp0 := hp.1
    have hp1 := hp.2.1
    have hp2 := hp.2.2.1
    clear hp
    have b1 : @LT.lt Nat _ D dr := inB (D, _) (.tail _ (.head _))
    have b2 : @LT.lt Nat _ dD dr := inB (dD, _) (.tail _ (.tail _ (.head _)))
    have b3 : @LT.lt Nat _ fd dr := inB (fd, _) (.tail _ (.tail _ (.tail _ (.head _))))
    have b4 : @LT.lt Nat _ sd dr := inB (sd, _) (.tail _ (.tail _ (.tail _ (.tail _ (.head _)))))
    have b1a : Ap D r := ⟨Nat.ne_of_lt (Nat.lt_trans b1 l2)⟩
    have b1b : Ap D dr := ⟨Nat.ne_of_lt b1⟩
    have b2a : Ap dD r := ⟨Nat.ne_of_lt (Nat.lt_trans b2 l2)⟩
    have b2b : Ap dD dr := ⟨Nat.ne_of_lt b2⟩
    have b3a : Ap fd r := ⟨Nat.ne_of_lt (Nat.lt_trans b3 l2)⟩
    have b3b : Ap fd dr := ⟨Nat.ne_of_lt b3⟩
    have b4a : Ap sd r := ⟨Nat.ne_of_lt (Nat.lt_trans b4 l2)⟩
    have b4b : Ap sd dr := ⟨Nat.ne_of_lt b4⟩
    have hpw6 : PW [(r, instObj 617 dr), (dr, rdD ⟨PyData.keyHash w.params "tokens", ka, PyData.keyHash w.params "at", kb, PyData.keyHash w.params "named", kc⟩ D1 nd 0 880), (D, instObj 214 dD), (dD, dictOf ed 6), (fd, o), (sd, lst sv sn)] :=
      ⟨⟨⟨Ne.symm rD⟩, ⟨Nat.ne_of_lt (Nat.lt_trans b1 l2)⟩, ⟨Nat.ne_of_lt (Nat.lt_trans b2 l2)⟩, ⟨Nat.ne_of_lt (Nat.lt_trans b3 l2)⟩, ⟨Nat.ne_of_lt (Nat.lt_trans b4 l2)⟩, trivial⟩, ⟨⟨Nat.ne_of_lt b1⟩, ⟨Nat.ne_of_lt b2⟩, ⟨Nat.ne_of_lt b3⟩, ⟨Nat.ne_of_lt b4⟩, trivial⟩, hpw⟩
    have kN6 : News g L' h7 [(r, instObj 617 dr), (dr, rdD ⟨PyData.keyHash w.params "tokens", ka, PyData.keyHash w.params "at", kb, PyData.keyHash w.params "named", kc⟩ D1 nd 0 880), (D, instObj 214 dD), (dD, dictOf ed 6), (fd, o), (sd, lst sv sn)] := cb_drop kN3 (memCons (.head _) (memCons (.tail _ (.head _)) (fun p hp => .tail _ (.tail _ (.tail _ (List.mem_append_right _ (.tail _ hp)))))))
    have notin : ∀ z : Nat, z < dr → (∀ q ∈ ((L' + 1, oc) :: [(D, instObj 214 dD), (dD, dictOf ed 6), (fd, o), (sd, lst sv sn)]), q.1 ≠ z) → z ∉ ([(r, instObj 617 dr), (dr, rdD ⟨PyData.keyHash w.params "tokens", ka, PyData.keyHash w.params "at", kb, PyData.keyHash w.params "named", kc⟩ D1 nd 0 880), (D, instObj 214 dD), (dD, dictOf ed 6), (fd, o), (sd, lst sv sn)] : List (Addr × Obj)).map (·.1) := fun z z1 z2 q => by
      simp only [List.map_cons, List.map_nil, List.mem_cons, List.not_mem_nil, or_false] at q
      rcases q with q | q | q | q | q | q
      · exact Nat.ne_of_lt (Nat.lt_trans z1 l2) q
      · exact Nat.ne_of_lt z1 q
      · exact z2 (D, _) (.tail _ (.head _)) q.symm
      · exact z2 (dD, _) (.tail _ (.tail _ (.head _))) q.symm
      · exact z2 (fd, _) (.tail _ (.tail _ (.tail _ (.head _)))) q.symm
      · exact z2 (sd, _) (.tail _ (.tail _ (.tail _ (.tail _ (.head _))))) q.symm
    have accIn : ∀ p ∈ acc, h7.get? p.1 = some p.2 ∧ p.1 ∉ ([(r, instObj 617 dr), (dr, rdD ⟨PyData.keyHash w.params "tokens", ka, PyData.keyHash w.params "at", kb, PyData.keyHash w.params "named", kc⟩ D1 nd 0 880), (D, instObj 214 dD), (dD, dictOf ed 6), (fd, o), (sd, lst sv sn)] : List (Addr × Obj)).map (·.1) := fun p hp =>
      have hm := List.mem_append_left ((L' + 1, oc) :: [(D, instObj 214 dD), (dD, dictOf ed 6), (fd, o), (sd, lst sv sn)]) hp
      ⟨(kN3 p (.tail _ (.tail _ (.tail _ hm)))).1, notin p.1 (l1 p (.tail _ hm)) fun q hq => Nat.ne_of_lt (hlt p hp q hq)⟩
    have D1in : h7.get? D1 = some (LCg.lst ys) ∧ D1 ∉ ([(r, instObj 617 dr), (dr, rdD ⟨PyData.keyHash w.params "tokens", ka, PyData.keyHash w.params "at", kb, PyData.keyHash w.params "named", kc⟩ D1 nd 0 880), (D, instObj 214 dD), (dD, dictOf ed 6), (fd, o), (sd, lst sv sn)] : List (Addr × Obj)).map (·.1) :=
      ⟨(kN3 _ (.tail _ (.tail _ (.head _)))).1, notin D1 (l1 _ (.head _)) fun q hq => off1_mem off1 q (List.mem_append_right _ hq)⟩
    have tlen : ts.length = vs.length := by
      have := congrArg List.length e1
      simp only [List.length_map] at this
      omega
    refine' run _ _ g L' _ [(r, instObj 617 dr), (dr, rdD ⟨PyData.keyHash w.params "tokens", ka, PyData.keyHash w.params "at", kb, PyData.keyHash w.params "named", kc⟩ D1 nd 0 880), (D, instObj 214 dD), (dD, dictOf ed 6), (fd, o), (sd, lst sv sn)] _ _ r dr D1 nd _ 880 ts ?cx ?un (fun p hp => hp) hpw6 ?tk e2 (fun i t hi => by rw [e3 i t hi]; omega) ?okc ?badc
    case cx => walk_at "M cx"
    case un => walk_at "M units"
    case tk =>
      refine fun g2 hg2 => ⟨?_, fun t ht => ?_, fun t ht => ?_, by omega⟩
      · rw [e1]; exact ⟨_, hg2 _ _ D1in.1 D1in.2, rfl, _, rfl⟩
      · obtain ⟨x1, x2, x3⟩ := e4 t ht
        exact ⟨hg2 _ _ (accIn _ x1).1 (accIn _ x1).2, rfl, rfl, hg2 _ _ (accIn _ x2).1 (accIn _ x2).2⟩
      · obtain ⟨x1, x2, x3⟩ := e4 t ht
        exact ⟨_, hg2 _ _ (accIn _ x3).1 (accIn _ x3).2, rfl, _, rfl⟩
    case okc =>
      intro hb rl vs' n rled o' ta' sv' sn' u h9 tk9 hr' ho' hsv F9 N9 q8 q9
      have N' := N9 _ _ _ (by k_upd) (by k_upd) (by k_upd)
      simp only [List.cons_append, List.nil_append] at N'
      clear N9 kN6 kN3 kF3
      k_steps
      all_goals (try with_reducible refine hQ _ _ ?_)
      (with_reducible rename Fr g _ _ _ => kF5)
      (with_reducible rename News g _ _ _ => kN5)
      (rename (_ < _ ∧ _) => ll)
      obtain ⟨w1, w2, w3, w4, w5, w6, w7, w8⟩ := ll
      have not4 : ∀ z : Nat, @Ne Nat D z → @Ne Nat dD z → @Ne Nat fd z → @Ne Nat sd z → z ∉ ([(D, instObj 214 dD), (dD, dictOf ed 6), (fd, o), (sd, lst sv sn)] : List (Addr × Obj)).map (·.1) := fun z n1 n2 n3 n4 q => by
        simp only [List.map_cons, List.map_nil, List.mem_cons, List.not_mem_nil, or_false] at q
        rcases q with q | q | q | q
        · exact n1 q.symm
        · exact n2 q.symm
        · exact n3 q.symm
        · exact n4 q.symm
      have B := backNew (m'' := m) C hg FG st kN5 (_ :: (rl, lst (List.toArray vs') n) :: rled) (fun p hp => by
        rcases List.mem_cons.mp hp with rfl | hp
        · exact ⟨.head _, not4 _ (Nat.ne_of_lt w4) (Nat.ne_of_lt w5) (Nat.ne_of_lt w6) (Nat.ne_of_lt w7)⟩
        · rcases List.mem_cons.mp hp with rfl | hp
          · exact ⟨.tail _ (.head _), not4 _ (q8 (D, _) (by k_mem)) (q8 (dD, _) (by k_mem)) (q8 (fd, _) (by k_mem)) (q8 (sd, _) (by k_mem))⟩
          · exact ⟨.tail _ (.tail _ (.tail _ (.tail _ (.tail _ (.tail _ (.tail _ (.tail _ hp))))))), not4 _ ((q9 p hp).2 (D, _) (by k_mem)) ((q9 p hp).2 (dD, _) (by k_mem)) ((q9 p hp).2 (fd, _) (by k_mem)) ((q9 p hp).2 (sd, _) (by k_mem))⟩)
      refine' hok hb _ tk9 ta' rl vs' n rled o' sv' sn' u _ _ hr' ho' hsv (FG.kept kF5.keep) (fun n2 n3 U2 U3 p hp => ?_) (fun q hq => ⟨B.2 q hq _ (.tail _ (.head _)), B.2 q hq _ (.head _)⟩) (fun p hp => ⟨(q9 p hp).1, Nat.ne_of_lt (allLt_mem w8 p hp), fun q hq => B.2 q hq p (.tail _ (.tail _ hp))⟩) (Nat.ne_of_lt w1)
      rcases List.mem_cons.mp hp with rfl | hp
      · exact B.1 _ (.head _)
      · rcases List.mem_cons.mp hp with rfl | hp
        · exact B.1 _ (.tail _ (.head _))
        · rcases List.mem_append.mp hp with hp | hp
          · refine back2 C hsub hg kF5 kN5 U2 U3 (by k_mem) (by k_mem) (fun p hp e1 e2 => ?_) p hp
            simp only [List.mem_cons, List.not_mem_nil, or_false] at hp
            rcases hp with rfl | rfl | rfl | rfl
            · k_mem
            · k_mem
            · exact absurd rfl e1
            · exact absurd rfl e2
          · exact B.1 p (.tail _ (.tail _ hp))
    case badc =>
      intro hb t' x d t1 y u kp k1 k2 h9 tk9 ht' hrow Z zd zD zdD zfd zsd
      obtain ⟨mean1, mg1, mb1, hTB⟩ := TB
      obtain ⟨ev1, hev1⟩ := hfr1
      have e0 : env :: outer = [ev1] := Option.some.inj (B'.stack.symm.trans hev1)
      have e00 : ev :: outer0 = [ev1] := Option.some.inj (hA0.symm.trans hev1)
      obtain ⟨rfl, rfl⟩ : env = ev1 ∧ outer = [] := by simpa using e0
      obtain ⟨rfl, rfl⟩ : ev = env ∧ outer0 = [] := by simpa using e00
      obtain ⟨x1, x2, x3⟩ := e4 t' ht'
      have gnone : ∀ b, h7.get? b = none → g.get? b = none := fun b q => by
        cases q' : g.get? b with
        | none => rfl
        | some o => have := kF3.keep _ _ q'; rw [q] at this; cases this
      have tk1 : kp.get? t'.tup = some (tup2 (.int t'.row t'.r1) (.int t'.col t'.r2)) ∧ g.get? t'.tup = none := by
        have hm := List.mem_append_left ((L' + 1, oc) :: [(D, instObj 214 dD), (dD, dictOf ed 6), (fd, o), (sd, lst sv sn)]) x3
        have hn := kN3 _ (.tail _ (.tail _ (.tail _ hm)))
        refine ⟨Z.old _ _ (accIn _ x3).1 (accIn _ x3).2 fun fr hf q => ?_, hn.2.2⟩
        rw [Around.frames_deeper B'.stack] at hf
        obtain rfl := Option.some.inj hf
        simp only [List.filterMap_cons, List.filterMap_nil, hf0] at q
        rcases List.mem_cons.mp q with q | q
        · exact hn.2.1 q
        · obtain ⟨_, ⟨L1, oL1, r1, r2, r3, r4⟩, _⟩ := B'.frames
          obtain rfl : L = L1 := Option.some.inj (hf0.symm.trans r1)
          rw [List.mem_singleton.mp q, r3] at hn
          cases hn.2.2
      refine caught_D (od := faultD w.params y u t'.tup k1 k2) (led := (t'.tup, tup2 (.int t'.row t'.r1) (.int t'.col t'.r2)) :: [(D, instObj 214 dD), (dD, dictOf ed 6), (fd, o), (sd, lst sv sn)]) B' hf0 kF3 XB hTB rfl Z (fun b hb => ?_) (fun p hp => ?_) ⟨m, ?_⟩ (fun h8 tk8 oe oL c1 c2 c3 c4 F8 N8 X8 T8 => ?_) rfl rfl
      · obtain ⟨p, hp, rfl⟩ := List.mem_map.mp hb
        exact (kN6 p hp).2.2
      · rcases List.mem_cons.mp hp with rfl | hp
        · exact ⟨zd, gnone _ Z.dnew⟩
        · rcases List.mem_cons.mp hp with rfl | hp
          · exact tk1
          · refine ⟨?_, hn0 p hp⟩
            simp only [List.mem_cons, List.not_mem_nil, or_false] at hp
            rcases hp with rfl | rfl | rfl | rfl
            · exact zD
            · exact zdD
            · exact zfd
            · exact zsd
      · obtain ⟨oL1, es1, ep1, r1, r2⟩ := FG.ns
        exact ⟨oL1, es1, ep1, kF3.keep _ _ r1, r2⟩
      · have hLm : h7.Ns L m := by
          obtain ⟨oL1, es1, ep1, r1, r2⟩ := FG.ns
          exact ⟨oL1, es1, ep1, kF3.keep _ _ r1, r2⟩
        clear kN6 kN3 kF3
        k_steps
        all_goals (try with_reducible refine hQ _ _ ?_)
        (with_reducible rename Fr (hideAll g [L]) _ _ _ => kF8)
        (with_reducible rename News (hideAll g [L]) _ _ _ => kN8)
        refine name_goesC kF8 kN8 (fun h9' v9 F9 N9 => ?_)
        clear kF8 kN8
        (rename (_ < _ ∧ _) => ll)
        obtain ⟨w1, w2, w3, w4, w5, w6, w7, w8⟩ := ll
        have hro : t'.row - 1 = j9 := by omega
        (try rw [hro] at N9)
        have B := backHide C hsub hg FG F9 N9 (fun p hp => by k_mem) (.tail _ (.tail _ (.head _))) (c4 m hLm) (.head _) (Nat.ne_of_gt w2) (fun q hq => by
          simp only [List.mem_cons, List.not_mem_nil, or_false] at hq
          rcases hq with rfl | rfl | rfl | rfl
          · exact Nat.ne_of_lt w5
          · exact Nat.ne_of_lt w6
          · exact Nat.ne_of_lt w7
          · exact Nat.ne_of_lt w8)
        (repeat walk_at "Kont")
        (try with_reducible refine hQ _ _ ?_)
        exact hbad hb _ _ _ _ _ B.1 B.2.1 B.2.2
  · obtain ⟨acc, rfl, hl, hs, hlt⟩ := hJ
    obtain ⟨t0, rfl⟩ := hP
    obtain ⟨vi, hvi⟩ : ∃ vi, vs[i]? = some vi := ⟨_, List.getElem?_eq_getElem hi⟩
    obtain ⟨k, w9, a, t, u, hps, rfl, hT⟩ := pairs_at hPL hvi
    have hcell : (L' + 1, oc) ∈ acc ++ ((L' + 1, oc) :: [(D, instObj 214 dD), (dD, dictOf ed 6), (fd, o), (sd, lst sv sn)]) := List.mem_append_right _ (.head _)
    k_steps
    all_goals (try with_reducible refine hQ _ _ ?_)
    (with_reducible rename Fr g _ _ _ => kF5)
    (with_reducible rename News g _ _ _ => kN5)
    (with_reducible rename TokEs _ _ _ _ _ _ _ => hte)
    (rename (∀ q : Addr × Obj, q ∈ _ → q.1 < _) => l1)
    (rename (_ < _ ∧ _ < _ ∧ _ < _ ∧ AllLt _ _) => ll)
    (with_reducible rename (@LT.lt Nat _ _ _) => l2)
    rw [tokEs_len hte] at kN5
    obtain ⟨m1, m2, m3, m4⟩ := ll
    subst hl
    refine LCg.CompEnd.intro kF5 kN5 (_ :: _ :: _ :: (acc ++ ((L' + 1, oc) :: [(D, instObj 214 dD), (dD, dictOf ed 6), (fd, o), (sd, lst sv sn)]))) (memCons (.tail _ (.tail _ (.tail _ (.head _)))) (memCons (.tail _ (.tail _ (.tail _ (.tail _ (.head _))))) (memCons (.tail _ (.tail _ (.tail _ (.tail _ (.tail _ (.head _)))))) (memCons (.head _) (memCons (.tail _ (.head _)) (memCons (.tail _ (.tail _ (.head _))) (fun p hp => .tail _ (.tail _ (.tail _ (.tail _ (.tail _ (.tail _ hp))))))))))))
      ⟨⟨Nat.ne_of_gt (Nat.lt_trans (l1 (I, _) (.tail _ (.head _))) l2), Nat.ne_of_gt (Nat.lt_trans (l1 (C, _) (.tail _ (.tail _ (.head _)))) l2), Nat.ne_of_gt (Nat.lt_trans (l1 (D', _) (.tail _ (.tail _ (.tail _ (.head _))))) l2)⟩,
       ⟨Nat.ne_of_gt (l1 (I, _) (.tail _ (.head _))), Nat.ne_of_gt (l1 (C, _) (.tail _ (.tail _ (.head _)))), Nat.ne_of_gt (l1 (D', _) (.tail _ (.tail _ (.tail _ (.head _)))))⟩, ⟨Nat.ne_of_gt m1, Nat.ne_of_gt m2, Nat.ne_of_gt m3⟩, off⟩
      trivial ⟨_ :: _ :: _ :: acc, rfl, by simp, ?_, fun p hp q hq => ?_⟩
    · rw [take_snoc hps]
      exact tokL_snoc (f := (k, w9)) ⟨⟨_, _, _, _, _, _, _, _, rfl, .head _, .tail _ (.head _), hte, .tail _ (.tail _ (.head _))⟩, trivial⟩ (tokL_mono (fun p hp => .tail _ (.tail _ (.tail _ hp))) hs)
    · have hq' := List.mem_append_right acc hq
      rcases List.mem_cons.mp hp with rfl | hp
      · exact Nat.lt_trans (l1 q (.tail _ (.tail _ (.tail _ (.tail _ hq'))))) l2
      · rcases List.mem_cons.mp hp with rfl | hp
        · exact l1 q (.tail _ (.tail _ (.tail _ (.tail _ hq'))))
        · rcases List.mem_cons.mp hp with rfl | hp
          · exact allLt_mem m4 q hq'
          · exact hlt p hp q hq
end
set_option maxHeartbeats 400000
def scan : List Nat → List Nat → Bool
  | [], sub => sub.isPrefixOf []
  | c :: r, sub => sub.isPrefixOf (c :: r) || scan r sub
theorem scan_no : ∀ {l sub : List Nat}, scan l sub = false → ∀ i, sub.isPrefixOf (l.drop i) = false
  | [], sub, h, i => by rw [List.drop_nil]; exact h
  | c :: r, sub, h, 0 => (Bool.or_eq_false_iff.mp h).1
  | c :: r, sub, h, i + 1 => by rw [List.drop_succ_cons]; exact scan_no (Bool.or_eq_false_iff.mp h).2 i
theorem sub_pre {x y : Str} {i : Nat} (h : Builtin.Str.subAt x y i = true) : y.cps.toList.isPrefixOf (x.cps.toList.drop i) = true := by
  have e := congrArg Array.toList (beq_iff_eq.mp h)
  rw [List.isPrefixOf_iff_prefix, ← e, Array.toList_extract]
  exact List.take_prefix _ _
theorem rsv_no {x : Str} (h : scan RES.cps.toList (" " ++ x ++ " " : Str).cps.toList = false) : (!rsv x) = true := by
  unfold rsv
  rcases StrLaws.occ_head RES (" " ++ x ++ " ") 1 (Nat.le_refl _) with ⟨e, _⟩ | ⟨i, r, _, a, _⟩
  · rw [e]; rfl
  · have := sub_pre a.2
    rw [scan_no h i] at this
    cases this
theorem rsv_yes {x : Str} (i : Nat) (h : i + (" " ++ x ++ " " : Str).length ≤ RES.length) (h2 : Builtin.Str.subAt RES (" " ++ x ++ " ") i = true) : (!rsv x) = false := by
  unfold rsv
  rcases StrLaws.occ_head RES (" " ++ x ++ " ") 1 (Nat.le_refl _) with ⟨_, n⟩ | ⟨i, r, e, a, _⟩
  · exact absurd ⟨h, h2⟩ (n i)
  · rw [e]; rfl
theorem resR : RES = R := by rfl
theorem rsv_of {x : Str} (l : List Nat) (e : (" " ++ x ++ " " : Str).cps.toList = l) (h : (!scan R.cps.toList l) = true) : (!rsv x) = true :=
  rsv_no (by rw [resR, e]; simpa using h)
theorem tS : ((R.cps.toList.drop 1506).take 9 == [32, 83, 69, 67, 84, 73, 79, 78, 32]) = true := onR (f := fun x => (x.cps.toList.drop 1506).take 9 == [32, 83, 69, 67, 84, 73, 79, 78, 32]) rfl (by k_qdec)
theorem tl : (R.cps.toList.length == 1860) = true := onR (f := fun x => x.cps.toList.length == 1860) rfl (by k_qdec)
theorem rsv_SECTION : (!rsv "SECTION") = false := rsv_yes 1506 (by
    show _ ≤ RES.cps.size
    rw [resR, ← Array.length_toList, beq_iff_eq.mp tl]; decide +kernel) (beq_iff_eq.mpr (Array.ext' (by
    rw [Array.toList_extract, resR, show (" " ++ ("SECTION" : Str) ++ " " : Str).cps.toList = [32, 83, 69, 67, 84, 73, 79, 78, 32] by decide +kernel]
    exact beq_iff_eq.mp tS)))
theorem rsv_A : (!rsv "A") = true := rsv_of [32, 65, 32] (by decide +kernel) (onR (f := fun x => !scan x.cps.toList [32, 65, 32]) rfl (by k_qdec))
theorem rsv_Z : (!rsv "Z") = true := rsv_of [32, 90, 32] (by decide +kernel) (onR (f := fun x => !scan x.cps.toList [32, 90, 32]) rfl (by k_qdec))
theorem rsv_H : (!rsv "H") = true := rsv_of [32, 72, 32] (by decide +kernel) (onR (f := fun x => !scan x.cps.toList [32, 72, 32]) rfl (by k_qdec))
theorem rsv_F : (!rsv "F") = true := rsv_of [32, 70, 32] (by decide +kernel) (onR (f := fun x => !scan x.cps.toList [32, 70, 32]) rfl (by k_qdec))
theorem rsv_G : (!rsv "G") = true := rsv_of [32, 71, 32] (by decide +kernel) (onR (f := fun x => !scan x.cps.toList [32, 71, 32]) rfl (by k_qdec))
theorem rsv_K : (!rsv "K") = true := rsv_of [32, 75, 32] (by decide +kernel) (onR (f := fun x => !scan x.cps.toList [32, 75, 32]) rfl (by k_qdec))
theorem rsv_R0 : (!rsv "R0") = true := rsv_of [32, 82, 48, 32] (by decide +kernel) (onR (f := fun x => !scan x.cps.toList [32, 82, 48, 32]) rfl (by k_qdec))
theorem rsv_R1 : (!rsv "R1") = true := rsv_of [32, 82, 49, 32] (by decide +kernel) (onR (f := fun x => !scan x.cps.toList [32, 82, 49, 32]) rfl (by k_qdec))
set_option maxHeartbeats 400000
theorem ww : (("word" : Str) == ("word" : Str)) = true := by decide +kernel
theorem wn : (("word" : Str) == ("number" : Str)) = false := by decide +kernel
theorem map_at {ts : List TK} {ps : List (Str × Str)} (e : ts.map (fun t => (t.kind, t.worth)) = ps) {i : Nat} {p : Str × Str} (h : ps[i]? = some p) : ∃ t, ts[i]? = some t ∧ t.kind = p.1 ∧ t.worth = p.2 := by
  subst e
  rw [List.getElem?_map] at h
  cases q : ts[i]? with
  | none => rw [q] at h; cases h
  | some t =>
    rw [q] at h
    cases h
    exact ⟨t, rfl, rfl, rfl⟩
theorem map_back {ts : List TK} {ps : List (Str × Str)} (e : ts.map (fun t => (t.kind, t.worth)) = ps) {i : Nat} {t : TK} (h : ts[i]? = some t) : ps[i]? = some (t.kind, t.worth) := by
  subst e
  rw [List.getElem?_map, h]; rfl
theorem map_len {ts : List TK} {ps : List (Str × Str)} (e : ts.map (fun t => (t.kind, t.worth)) = ps) : ts.length = ps.length := by
  subst e; rw [List.length_map]
theorem sign_at {ts : List TK} {ps : List (Str × Str)} (e : ts.map (fun t => (t.kind, t.worth)) = ps) {c : Int} {i : Nat} (hi : c.toNat = i) (h : ps[i]? = some (("sign", ".") : Str × Str)) : signIs ts c "." = true := by
  obtain ⟨t, q, h1, h2⟩ := map_at e h
  unfold signIs
  rw [hi, q]
  show (t.kind == "sign" && t.worth == ".") = true
  rw [h1, h2]; decide +kernel
theorem sign_not {ts : List TK} {ps pre post : List (Str × Str)} (e : ts.map (fun t => (t.kind, t.worth)) = ps) {c : Int} (hp : ps = pre ++ post) (hno : ∀ p ∈ pre, (p.1 == ("sign" : Str) && p.2 == (("." : Str))) = false) (hc : post = [] ∨ c.toNat < pre.length) : signIs ts c "." = false := by
  unfold signIs
  cases q : ts[c.toNat]? with
  | none => rfl
  | some t =>
    have h := map_back e q
    have hm : (t.kind, t.worth) ∈ pre := by
      rcases hc with rfl | hc
      · rw [hp, List.append_nil] at h; exact List.mem_of_getElem? h
      · rw [hp, List.getElem?_append_left hc] at h; exact List.mem_of_getElem? h
    exact hno _ hm
def recs : List Str → List (Str × Str)
  | [] => []
  | y :: r => ("number", "01") :: ("word", y) :: ("sign", ".") :: ("number", "05") :: ("word", "A") :: ("word", "BINARY") :: ("sign", ".") :: recs r
theorem recs_len : ∀ l : List Str, (recs l).length = 7 * l.length
  | [] => rfl
  | _ :: r => by simp only [recs, List.length_cons, recs_len r]; omega
theorem A_ok : ("A" : Str).length ≤ 100 ∧ (!rsv "A") = true := ⟨by decide +kernel, rsv_A⟩
theorem recs_at {ts : List TK} {ps post : List (Str × Str)} (e : ts.map (fun t => (t.kind, t.worth)) = ps) : ∀ (titles : List Str) (a : Int) (pre : List (Str × Str)), 0 ≤ a → pre.length = a.toNat → ps = pre ++ (recs titles ++ post) → RecsAt ts a titles
  | [], _, _, _, _, _ => trivial
  | y :: r, a, pre, h0, hl, hp => by
    have hat : ∀ (j : Nat) (p : Str × Str), (recs (y :: r) ++ post)[j]? = some p → ps[a.toNat + j]? = some p := fun j p q => by
      rw [hp, List.getElem?_append_right (by omega), ← q]
      congr 1
      omega
    obtain ⟨t0, q0, a0, b0⟩ := map_at e (hat 0 _ rfl)
    obtain ⟨t1, q1, a1, b1⟩ := map_at e (hat 1 _ rfl)
    obtain ⟨t3, q3, a3, b3⟩ := map_at e (hat 3 _ rfl)
    obtain ⟨t4, q4, a4, b4⟩ := map_at e (hat 4 _ rfl)
    obtain ⟨t5, q5, a5, b5⟩ := map_at e (hat 5 _ rfl)
    have i5 : (a + 1 + 1 + 1 + 1 + 1 + 0).toNat = a.toNat + 5 := by omega
    refine ⟨⟨t0, t1, t3, t4, t5, ⟨?_, ?_, b0⟩, ⟨?_, ?_, b1⟩, sign_at e (by omega) (hat 2 _ rfl), ⟨?_, ?_, b3⟩, ⟨?_, ?_, ?_, ?_⟩, ?_, ?_, fun x => ?_, sign_at e (by omega) (hat 6 _ rfl)⟩, recs_at (post := post) e r _ (pre ++ ([("number", "01"), ("word", y), ("sign", "."), ("number", "05"), ("word", "A"), ("word", "BINARY"), ("sign", ".")] : List (Str × Str))) (by omega) (by simp only [List.length_append, List.length_cons, List.length_nil]; omega) (by rw [hp]; simp only [recs, List.append_assoc, List.cons_append, List.nil_append])⟩
    · rw [show (a + 0).toNat = a.toNat + 0 by omega]; exact q0
    · rw [a0]; decide +kernel
    · rw [show (a + 1 + 0).toNat = a.toNat + 1 by omega]; exact q1
    · rw [a1]; exact ww
    · rw [show (a + 1 + 1 + 1 + 0).toNat = a.toNat + 3 by omega]; exact q3
    · rw [a3]; decide +kernel
    · rw [show (a + 1 + 1 + 1 + 1 + 0).toNat = a.toNat + 4 by omega]; exact q4
    · rw [a4]; decide +kernel
    · rw [b4]; exact A_ok.1
    · rw [b4]; exact A_ok.2
    · unfold signIs
      rw [i5, q5]
      show (t5.kind == "sign" && t5.worth == ".") = false
      rw [a5, b5]; decide +kernel
    · exact pk_some (by rw [i5]; exact q5)
    · unfold wordIs
      rw [i5, q5]
      show (t5.kind == "word" && t5.worth == x) = _
      rw [a5, b5]
      rw [show ((("word" : Str), ("BINARY" : Str)).1 == ("word" : Str)) = true by decide +kernel]; rfl
section
variable {w : World} {base : Heap} {D dD fd sd : Addr} {ed : List DictEntry} {o : Obj} {kvs : List (Str × Value)} {sv : Array Value} {sn : Nat} {bs : Bool} {nm z : Str} {rem rest : List (Str × Str)} {titles : List Str} {e9 j9 : Int}
theorem sec_bad : ("SECTION" : Str).length ≤ 100 ∧ (!rsv "SECTION") = false := ⟨by decide +kernel, rsv_SECTION⟩
theorem run_bad (hed : DataEs w.params fd sd ed) (lo : (fd == sysModules) = false) (ho : o.IsDictOf (PySem.strKind PG w) kvs) : Run w base D dD fd sd ed o kvs sv sn bs (("word", "SECTION") :: rest) false titles nm e9 0 := by
  intro A s h₀ L m news Q E r dr l nd k ta ts C hun hsub hp hTg e hrow _ hbad
  obtain ⟨t0, q0, a0, b0⟩ := map_at e (i := 0) rfl
  exact c_file_bad (t0 := t0) C hun hsub hp hed lo ho hTg q0 (by rw [a0]; exact ww) (by rw [b0]; exact sec_bad.1) (by rw [b0]; exact sec_bad.2)
    fun x d t1 y u kp k1 k2 h' tk' Z z1 z2 z3 z4 z5 => hbad rfl t0 x d t1 y u kp k1 k2 h' tk' (List.mem_of_getElem? q0) (hrow 0 t0 q0) Z z1 z2 z3 z4 z5
theorem run_wrong (hed : DataEs w.params fd sd ed) (lo : (fd == sysModules) = false) (ho : o.IsDictOf (PySem.strKind PG w) kvs) (hz : nm.length ≤ 100) (hv : (!rsv nm) = true) (hno : ∀ p ∈ rem, (p.1 == ("sign" : Str) && p.2 == (("." : Str))) = false) :
    Run w base D dD fd sd ed o kvs sv sn bs ((("word", nm) : Str × Str) :: rem) false titles nm e9 (rem.length : Int) := by
  intro A s h₀ L m news Q E r dr l nd k ta ts C hun hsub hp hTg e hrow _ hbad
  obtain ⟨t0, q0, a0, b0⟩ := map_at e (i := 0) rfl
  have hl := map_len e
  rw [List.length_cons] at hl
  have hlt : rem.length < ts.length := by omega
  have q1 : ts[rem.length]? = some ts[rem.length] := List.getElem?_eq_getElem hlt
  have hno' : ∀ p ∈ (("word", nm) : Str × Str) :: rem, (p.1 == ("sign" : Str) && p.2 == (("." : Str))) = false := fun p hp => by
    rcases List.mem_cons.mp hp with rfl | hp
    · show ((("word" : Str) == ("sign" : Str)) && _) = false
      rw [show (("word" : Str) == ("sign" : Str)) = false by decide +kernel]; rfl
    · exact hno p hp
  exact c_file_wrong (t0 := t0) (tl := ts[rem.length]) C hun hsub hp hed lo ho hTg q0 (by rw [a0]; exact ww) (by rw [b0]; exact hz) (by rw [b0]; exact hv)
    (fun c _ _ => sign_not e (List.append_nil _).symm hno' (.inl rfl)) (by rw [if_pos (by omega), show ((ts.length : Int) - 1).toNat = rem.length by omega]; exact q1)
    fun x d t1 y u kp k1 k2 h' tk' Z z1 z2 z3 z4 z5 => hbad rfl _ x d t1 y u kp k1 k2 h' tk' (List.mem_of_getElem? q1) (hrow _ _ q1) Z z1 z2 z3 z4 z5
theorem shape {ts : List TK} (e : ts.map (fun t => (t.kind, t.worth)) = (("word", nm) : Str × Str) :: (rem ++ (("sign", ".") : Str × Str) :: (recs titles ++ [(("word", z) : Str × Str)]))) (hno : ∀ p ∈ rem, (p.1 == ("sign" : Str) && p.2 == (("." : Str))) = false) :
    ∃ t0, ts[0]? = some t0 ∧ t0.kind = ("word" : Str) ∧ t0.worth = nm ∧ (1 : Int) ≤ (rem.length : Int) + 1 ∧ (rem.length : Int) + 1 < (ts.length : Int) ∧ (∀ c : Int, 1 ≤ c → c < (rem.length : Int) + 1 → signIs ts (c + 0) "." = false) ∧ signIs ts ((rem.length : Int) + 1 + 0) "." = true ∧ RecsAt ts ((rem.length : Int) + 1 + 1) titles ∧
      kindIs ts ((rem.length : Int) + 1 + 1 + 7 * (titles.length : Int) + 0) "number" = false := by
  obtain ⟨t0, q0, a0, b0⟩ := map_at e (i := 0) rfl
  have hl := map_len e
  simp only [List.length_cons, List.length_append, List.length_nil] at hl
  refine ⟨t0, q0, a0, b0, by omega, by omega, fun c c1 c2 => ?_, ?_, ?_, ?_⟩
  · refine sign_not (pre := (("word", nm) : Str × Str) :: rem) (post := (("sign", ".") : Str × Str) :: (recs titles ++ [(("word", z) : Str × Str)])) e rfl (fun p hp => ?_) (.inr (by rw [List.length_cons]; omega))
    rcases List.mem_cons.mp hp with rfl | hp
    · show ((("word" : Str) == ("sign" : Str)) && _) = false
      rw [show (("word" : Str) == ("sign" : Str)) = false by decide +kernel]; rfl
    · exact hno p hp
  · refine sign_at e (i := rem.length + 1) (by omega) ?_
    rw [List.getElem?_cons_succ, List.getElem?_append_right (Nat.le_refl _), Nat.sub_self]; rfl
  · refine recs_at (post := [(("word", z) : Str × Str)]) e titles _ ((("word", nm) : Str × Str) :: (rem ++ [(("sign", ".") : Str × Str)])) (by omega) (by simp only [List.length_cons, List.length_append, List.length_nil]; omega) (by simp only [List.cons_append, List.append_assoc, List.nil_append])
  · have h : ((("word", nm) : Str × Str) :: (rem ++ (("sign", ".") : Str × Str) :: (recs titles ++ [(("word", z) : Str × Str)])) : List (Str × Str))[rem.length + 1 + 1 + 7 * titles.length]? = some (("word", z) : Str × Str) := by
      rw [show rem.length + 1 + 1 + 7 * titles.length = (rem.length + 1 + 7 * titles.length) + 1 by omega, List.getElem?_cons_succ, List.getElem?_append_right (by omega), show rem.length + 1 + 7 * titles.length - rem.length = 7 * titles.length + 1 by omega, List.getElem?_cons_succ, List.getElem?_append_right (by rw [recs_len]; omega), recs_len, Nat.sub_self]
      rfl
    obtain ⟨t, q, h1, h2⟩ := map_at e h
    unfold kindIs
    rw [show ((rem.length : Int) + 1 + 1 + 7 * (titles.length : Int) + 0).toNat = rem.length + 1 + 1 + 7 * titles.length by omega, q]
    show (t.kind == "number") = false
    rw [h1]; exact wn
theorem run_place (hed : DataEs w.params fd sd ed) (lo : (fd == sysModules) = false) (ho : o.IsDictOf (PySem.strKind PG w) kvs) (hz : nm.length ≤ 100) (hv : (!rsv nm) = true) (hno : ∀ p ∈ rem, (p.1 == ("sign" : Str) && p.2 == (("." : Str))) = false)
    (ht2 : titles.length ≤ 2) (hy : ∀ y ∈ titles, y.length ≤ 100 ∧ (!rsv y) = true) (hkl : kvs.length ≤ 1000) (hb : (valueAt kvs nm).isSome = true ∨ titles = []) :
    Run w base D dD fd sd ed o kvs sv sn bs ((("word", nm) : Str × Str) :: (rem ++ (("sign", ".") : Str × Str) :: (recs titles ++ [(("word", z) : Str × Str)]))) false titles nm e9 0 := by
  intro A s h₀ L m news Q E r dr l nd k ta ts C hun hsub hp hTg e hrow _ hbad
  obtain ⟨t0, q0, a0, b0, s1, s2, s3, s4, s5, s6⟩ := shape e hno
  exact c_file_place (t0 := t0) C hun hsub hp hed lo ho hTg q0 (by rw [a0]; exact ww) (by rw [b0]; exact hz) (by rw [b0]; exact hv) s1 s2 s3 s4 s5 ht2 hy s6 rfl hkl (by rw [b0]; exact hb)
    fun x d t1 y u kp k1 k2 h' tk' Z z1 z2 z3 z4 z5 => hbad rfl t0 x d t1 y u kp k1 k2 h' tk' (List.mem_of_getElem? q0) (hrow 0 t0 q0) Z z1 z2 z3 z4 z5
theorem run_ok (hed : DataEs w.params fd sd ed) (lo : (fd == sysModules) = false) (ho : o.IsDictOf (PySem.strKind PG w) kvs) (hz : nm.length ≤ 100) (hv : (!rsv nm) = true) (hno : ∀ p ∈ rem, (p.1 == ("sign" : Str) && p.2 == (("." : Str))) = false)
    (ht2 : titles.length ≤ 2) (hy : ∀ y ∈ titles, y.length ≤ 100 ∧ (!rsv y) = true) (hkl : kvs.length ≤ 1000) (hsv : sv.size ≤ 1000) (hin : (valueAt kvs nm).isSome = false) (hti : titles ≠ []) :
    Run w base D dD fd sd ed o kvs sv sn bs ((("word", nm) : Str × Str) :: (rem ++ (("sign", ".") : Str × Str) :: (recs titles ++ [(("word", z) : Str × Str)]))) true titles nm ((rem.length : Int) + 1 + 1 + 7 * (titles.length : Int)) j9 := by
  intro A s h₀ L m news Q E r dr l nd k ta ts C hun hsub hp hTg e hrow hok _
  obtain ⟨t0, q0, a0, b0, s1, s2, s3, s4, s5, s6⟩ := shape e hno
  refine c_file_ok (t0 := t0) C hun hsub hp hed lo ho hTg hsv q0 (by rw [a0]; exact ww) (by rw [b0]; exact hz) (by rw [b0]; exact hv) s1 s2 s3 s4 s5 ht2 hy s6 rfl hkl (by rw [b0]; exact hin) hti
    fun rl vs n rled o' ta' sv' sn' h' tk' hr ho' hs F N q8 q9 => ?_
  rw [b0] at ho' hs
  exact hok rfl rl vs n rled o' ta' sv' sn' t0.k2 h' tk' hr ho' hs F N q8 q9
end
set_option maxHeartbeats 0
abbrev lstO (vs : Array Value) (n : Nat) : Obj := { cls := .type "list", data := .seq vs n }
theorem fmod_lo {x k : Int} (h : 0 < k) : 0 ≤ x.fmod k := by rw [Int.fmod_eq_emod_of_nonneg x (Int.le_of_lt h)]; exact Int.emod_nonneg x (by omega)
theorem fmod_hi {x k : Int} (h : 0 < k) : x.fmod k < k := by rw [Int.fmod_eq_emod_of_nonneg x (Int.le_of_lt h)]; exact Int.emod_lt_of_pos x h
section
variable {w : World} {A : Around} {s : Shared} {base h₀ : Heap} {L : Addr} {m : Str → Option Value} {news news' : List (Addr × Obj)} {Q E : Value → Shared → Prop}
theorem c_draw {tp cl : Addr} {n : Nat} {a : Int} {ta : Nat} {many : Int} {tm : Nat} {vs : List Value} {ns : List Int} (C : Cx w A base h₀ L m s.heap news 2) (ht : (tp, lstO #[.ref cl, .int a ta] n) ∈ news)
    (hc : s.heap.IsList cl vs.toArray) (hv : IntsAre vs ns) (hn : 0 < ns.length) (hn2 : ns.length ≤ 63) (ne : cl ≠ tp) (ha : 0 ≤ a) (ha2 : a < 100) (hm : 0 < many) (hm2 : many < 10)
    (h : ∀ v tv ta' n' h' tk', 0 ≤ v → v < many → Fr h₀ L h' m → (∀ news', Upd tp (lstO #[.ref cl, .int a ta] n) (lstO #[.ref cl, .int (a + 1) ta'] n') news news' → News h₀ L h' news') → Q (.int v tv) { s with heap := h', toks := tk' }) :
    wpAny (model PG w) A (call (.ref 665) [.ref tp, .int many tm]) Q E s := by
  refine' enterX [("tape", .ref tp), ("many", .int many tm)] [(tp, lstO #[.ref cl, .int a ta] n)] C (fun p hp => by rcases List.mem_cons.mp hp with rfl | hp; exact ht; cases hp) ?k6 ?k7 ?k9 ?kB ?_
  case k6 => k_is
  case k7 => k_is
  case k9 => exact BindsTo.of_eq rfl
  walk_at "M sides"
  intro dp fr gd un Q₁ E₁ g L' h₁ tk env outer mean mg mb eA hQ hE₁ hPO ret retU FG st F' N' B' X' T' lt room hg
  k_lt lt
  (try dsimp only [AA] at room)
  have hc' : g.IsList cl vs.toArray := by
    obtain ⟨o, ho, r⟩ := hc
    exact ⟨o, hg _ _ ho (by simpa using ne), r⟩
  have hlen := IntsAre.length hv
  (try dsimp only)
  (try k_fold)
  k_steps
  all_goals (try with_reducible refine hQ _ _ ?_)
  all_goals (try dsimp only)
  (with_reducible rename Fr g _ _ _ => kF)
  (with_reducible rename News g _ _ _ => kN)
  refine h _ _ _ _ _ _ (fmod_lo hm) (fmod_hi hm) (FG.kept kF.keep) fun _ U => (retU _ _ _ [(tp, _)] _ _ _ _ kF (cb_drop kN (by k_sub)) U (.head _) (fun p hp np => ?_)).2
  rcases List.mem_cons.mp hp with rfl | hp
  · exact absurd rfl np
  · cases hp
end
set_option maxHeartbeats 400000
section
variable {w : World} {A : Around} {s : Shared} {R : Result → Shared → Prop} {name qual : Str} {params : Arguments} {body : List Stmt} {scope : Scope} {dV kV doc pm cdv ct oc : Value} {an od : Option Addr} {osl : Array (Option Value)} {f : Addr} {args : Args} {mean : ExcName → Option Value} {mg mb : Str → Option Value}
theorem enterT (binds : List (Str × Value)) (X : (KK w.params).In s.heap) (T : Top vw lz mean mg mb s.heap) (hroom : A.depth < recursionLimit)
    (ho : (KK w.params).lookup f = some ⟨oc, od, .func (fnOf name qual params body scope dV kV doc pm an cdv ct), osl⟩) (hcd : codeIn (KK w.params) cdv qual = true)
    (hbind : BindsTo s (fnOf name qual params body scope dV kV doc pm an cdv ct) args binds) (hkind : (binds.all fun y => scope.names.lookup y.1 == some .local || scope.names.lookup y.1 == some .cell) = true)
    (hnd : ((cellsFrom 0 scope.names []).map (·.1)).Nodup)
    (h : ∀ h₁ tk cells, Fr s.heap s.heap.objs.size h₁ (bindL (envOfC qual scope s.heap.objs.size f cdv).kindOf binds fun _ => none) → News s.heap s.heap.objs.size h₁ cells → CellsAre (bindC (envOfC qual scope s.heap.objs.size f cdv).kindOf binds fun _ => none) (cellsFrom (s.heap.objs.size + 1) scope.names []) cells →
      wpAny (model PG w) (A.deeper (envOfC qual scope s.heap.objs.size f cdv)) (execs body (envOfC qual scope s.heap.objs.size f cdv))
        (fun fl s' => R (.ok (.ret (match fl with | .ret v => v | _ => .none))) s') (fun _ _ => False)
        { s with heap := h₁, toks := tk })
    (hco : scope.isCoroutine = false) (hgen : scope.isGenerator = false) (hk : scope.kind = .function) : codeAny (model PG w) A (.call (.ref f) args) R s := by
  refine codeAny_call_function hroom (X _ _ ho) rfl hco hgen rfl (codeRec_of X hcd) (hbind _ _ _ _ ?_)
  refine wpAny_newFunctionEnv_cells hk (kindsX hkind _) fun env' he s' x => ?_
  subst he
  refine ⟨T.nolimit.keeps x.toInCall.keep, codeAny_func ?_⟩
  obtain ⟨h₁, tk, rfl, _⟩ := x.done
  have hk₁ := x.toInCall.keep
  obtain ⟨cells, NC, Y⟩ := Cl.news (h₀ := s.heap) (Nat.le_refl _) fun n c hm => ⟨x.cell n c (lookup_of_mem_nodup (cellsFrom_names scope.names 0 (s.heap.objs.size + 1) [] [] rfl ▸ hnd) hm), x.above n c hm⟩
  exact wpAny_mono (h h₁ tk cells ⟨x.toInCall.ns, hk₁, Nat.le_refl _⟩ NC Y) (fun _ _ g => g) fun _ _ g => g.elim
end
set_option maxHeartbeats 400000
noncomputable def LB : List Stmt := match st 68 with
  | .FunctionDef _ _ body _ _ _ _ _ _ _ => body
  | _ => []
noncomputable def LPs : Arguments := match st 68 with
  | .FunctionDef _ ps _ _ _ _ _ _ _ _ => ps
  | _ => default
noncomputable def LSc : Scope := match st 68 with
  | .FunctionDef _ _ _ _ _ _ sc _ _ _ => sc
  | _ => default
noncomputable def ls (k : Nat) : Stmt := LB.getD k (.Pass default)
section
variable {n : Str} {ps : Arguments} {body : List Stmt} {d : List PySem.Expr} {ret : Option PySem.Expr} {dc : Option Str} {sc : Scope}
theorem LB_eq : LB = [ls 0, ls 1, ls 2, ls 3, ls 4, ls 5, ls 6, ls 7, ls 8, ls 9, ls 10, ls 11, ls 12] := by kernel_rfl
end
theorem dk_name : dk.1.name = Str.ofString "law" := by kernel_rfl
theorem dk_body : dk.1.body = LB := by kernel_rfl
theorem dk_params : dk.1.params = LPs := by kernel_rfl
theorem dk_scope : dk.1.scope = LSc := by kernel_rfl
theorem ls_of {a b c e f g h i j k : _} (x : st 68 = .FunctionDef a b c e f g h i j k) (n : Nat) {S : Stmt} (y : c[n]? = some S) : ls n = S := by unfold ls LB; rw [x]; show c.getD n (.Pass default) = S; rw [List.getD_eq_getElem?_getD, y]; rfl
theorem sc_of {a b c e f g h i j k : _} (x : st 68 = .FunctionDef a b c e f g h i j k) : LSc = h := by unfold LSc; rw [x]
theorem ps_of {a b c e f g h i j k : _} (x : st 68 = .FunctionDef a b c e f g h i j k) : LPs = b := by unfold LPs; rw [x]
theorem LSc_kinds : LSc.kind = .function ∧ LSc.isGenerator = false ∧ LSc.isCoroutine = false ∧ (∀ v : Value, ([(Str.ofString "script", v)].all fun y => LSc.names.lookup y.1 == some NameKind.local || LSc.names.lookup y.1 == some NameKind.cell) = true) ∧ ((cellsFrom 0 LSc.names []).map (·.1)).Nodup := by
  rw [sc_of (by with_unfolding_all rfl)]
  exact ⟨rfl, rfl, rfl, fun _ => rfl, by decide +kernel⟩
noncomputable abbrev LE (L fa : Addr) (cd : Value) : Env := envOfC (Str.ofString "law") LSc L fa cd
noncomputable abbrev LA (L fa : Addr) (cd : Value) : Around := callerA.deeper (LE L fa cd)
theorem top_lz {mean : ExcName → Option Value} {mg mb : Str → Option Value} {h : Heap} (T : Top vw (looseW vw lz) mean mg mb h) : Top vw lz mean mg mb h := by
  have sub : ∀ x, x ∈ looseW vw lz → x ∈ lz := fun x hx => by
    have : (looseW vw lz).all (fun x => lz.contains x) = true := by kernel_rfl
    have := List.all_eq_true.mp this x hx
    simpa using this
  have cl : clssOf vw lz = clssOf vw (looseW vw lz) := by kernel_rfl
  exact { T with free := fun x h1 h2 h3 h4 h5 => T.free x h1 (fun q => h2 (sub x q)) h3 h4 (by rw [← cl]; exact h5) }
theorem enterL {w : World} {s : Shared} {R : Result → Shared → Prop} {fa : Addr} {o : Obj} {pm cd doc dV kV v : Value} {mean : ExcName → Option Value} {mg mb : Str → Option Value} (T : Top vw lz mean mg mb s.heap) (ho : s.heap.get? fa = some o)
    (hd : o.data = .func { docDef dk.1.name dk.1.params dk.1.body dk.1.scope pm cd doc with defaults := dV, kwdefaults := kV }) (hdV : dV = .none) (hkV : kV = .none) (hcd : s.heap.CodeRec cd dk.1.name)
    (h : ∀ h₁ tk cells, Fr s.heap s.heap.objs.size h₁ (bindL (LE s.heap.objs.size fa cd).kindOf [(Str.ofString "script", v)] fun _ => none) → News s.heap s.heap.objs.size h₁ cells → CellsAre (bindC (LE s.heap.objs.size fa cd).kindOf [(Str.ofString "script", v)] fun _ => none) (cellsFrom (s.heap.objs.size + 1) LSc.names []) cells →
      wpAny (model PG w) (LA s.heap.objs.size fa cd) (execs LB (LE s.heap.objs.size fa cd))
        (fun fl s' => R (.ok (.ret (match fl with | .ret v => v | _ => .none))) s') (fun _ _ => False)
        { s with heap := h₁, toks := tk }) : codeAny (model PG w) callerA (.call (.ref fa) ⟨[v], []⟩) R s := by
  subst hdV hkV
  rw [dk_name, dk_params, dk_body, dk_scope] at hd
  rw [dk_name] at hcd
  obtain ⟨c1, c2, c3, c4, c5⟩ := LSc_kinds
  have hb : bindArgs { docDef (Str.ofString "law") LPs LB LSc pm cd doc with defaults := .none, kwdefaults := .none } ⟨[v], []⟩ = pure [(Str.ofString "script", v)] := by
    rw [ps_of (by with_unfolding_all rfl)]
    rfl
  refine codeAny_call_function (by decide +kernel) ho hd c3 c2 rfl hcd (BindsTo.of_eq hb _ _ _ _ ?_)
  refine wpAny_newFunctionEnv_cells c1 (kindsX (c4 v) _) fun env' he s' x => ?_
  subst he
  refine ⟨T.nolimit.keeps x.toInCall.keep, codeAny_func ?_⟩
  obtain ⟨h₁, tk, rfl, _⟩ := x.done
  have hk₁ := x.toInCall.keep
  obtain ⟨cells, NC, Y⟩ := Cl.news (h₀ := s.heap) (Nat.le_refl _) fun n c hm => ⟨x.cell n c (lookup_of_mem_nodup (cellsFrom_names LSc.names 0 (s.heap.objs.size + 1) [] [] rfl ▸ c5) hm), x.above n c hm⟩
  exact wpAny_mono (h h₁ tk cells ⟨x.toInCall.ns, hk₁, Nat.le_refl _⟩ NC Y) (fun _ _ g => g) fun _ _ g => g.elim
set_option maxHeartbeats 400000
structure Tape (L tp cl : Addr) (fz : List (Addr × Obj)) : Prop where
  cells : ∃ us ks n', (cl, lst (List.toArray us) n') ∈ fz ∧ IntsAre us ks ∧ 0 < ks.length ∧ ks.length ≤ 63
  ne : cl ≠ tp
  cell : ∃ oc, (L + 1, oc) ∈ fz ∧ oc.data = .cell (some (.ref tp))
theorem Tape.mono {L tp cl : Addr} {fz fz' : List (Addr × Obj)} (T : Tape L tp cl fz) (k : ∀ p ∈ fz, p ∈ fz') : Tape L tp cl fz' :=
  ⟨let ⟨us, ks, n', a, b⟩ := T.cells; ⟨us, ks, n', k _ a, b⟩, T.ne, let ⟨oc, a, b⟩ := T.cell; ⟨oc, k _ a, b⟩⟩
section
variable {w : World} {g : Heap} {L fa : Addr} {cd : Value} {mean : ExcName → Option Value} {mg mb : Str → Option Value} {s : Shared} {m : Str → Option Value} {Q : Flow → Shared → Prop} {E : Value → Shared → Prop}
theorem s_0 {st : Stmt} (hst : st = ls 0) {sa : Addr} {vs : List Value} {ns : List Int} {oc : Obj} (B : Below callerA g [] g) (X : (KK w.params).In g) (T : Top vw lz mean mg mb g) (F : Fr g L s.heap m) (N : News g L s.heap [(L + 1, oc)]) (d1 : oc.data = .cell none)
    (hm : m (Str.ofString "script") = some (.ref sa)) (hs : g.IsList sa vs.toArray) (hi : IntsAre vs ns) (hn : ns.length ≤ 63)
    (h : ∀ tp cl ta n fz h' tk', Fr g L h' m → News g L h' ((tp, lst #[.ref cl, .int 0 ta] n) :: fz) → Tape L tp cl fz → (∀ p ∈ fz, p.1 < tp) → Q .next { s with heap := h', toks := tk' }) : wpAny (model PG w) (LA L fa cd) (exec st (LE L fa cd)) Q E s := by
  subst hst
  obtain ⟨m0, hm0⟩ := m_as hm
  subst hm0
  clear hm
  have hlen := IntsAre.length hi
  unfold LA LE
  rw [ls_of (by with_unfolding_all rfl) 0 (by with_unfolding_all rfl), sc_of (by with_unfolding_all rfl)]
  (try k_fold)
  k_steps
  · (with_reducible rename Fr g _ _ _ => kF)
    (with_reducible rename News g _ _ _ => kN)
    (rename IntsAre _ (List.take 30 ns) => hI)
    (rename (_ < _ ∧ _ < _ ∧ _ < _) => ll)
    (rename 0 < (List.take 30 ns).length => h0)
    refine h _ _ _ _ _ _ _ kF kN ⟨⟨_, _, _, .head _, hI, h0, by rw [List.length_take]; omega⟩, Nat.ne_of_lt ll.1, _, .tail _ (.tail _ (.head _)), by assumption⟩ (allLt_mem ⟨ll.1, ll.2.1, ll.2.2, trivial⟩)
  · (with_reducible rename Fr g _ _ _ => kF)
    (with_reducible rename News g _ _ _ => kN)
    (rename (_ < _ ∧ _ < _ ∧ _ < _ ∧ _ < _) => ll)
    refine h _ _ _ _ _ _ _ kF kN ⟨⟨[.int 2 _], [2], _, .head _, .cons _ _ .nil, by decide, by decide⟩, Nat.ne_of_lt ll.1, _, .tail _ (.tail _ (.tail _ (.head _))), by assumption⟩ (allLt_mem ⟨ll.1, ll.2.1, ll.2.2.1, ll.2.2.2, trivial⟩)
end
set_option maxHeartbeats 400000
structure LFx (w : World) (L tp cl D dD fd sd : Addr) (ed : List DictEntry) (o : Obj) (kvs : List (Str × Value)) (fz : List (Addr × Obj)) : Prop where
  T : Tape L tp cl fz
  hD : (D, instObj 214 dD) ∈ fz
  hdD : (dD, dictOf ed 6) ∈ fz
  hed : DataEs w.params fd sd ed
  lo : (fd == sysModules) = false
  ho : o.IsDictOf (PySem.strKind PG w) kvs
  off1 : ∀ p ∈ fz, p.1 ≠ tp
  off2 : ∀ p ∈ fz, p.1 ≠ fd
  off3 : ∀ p ∈ fz, p.1 ≠ sd
  ap1 : Ap tp fd
  ap2 : Ap tp sd
  ap3 : Ap fd sd
local macro_rules | `(tactic| walk_at "call ref") => zst
theorem data_len {P : Params} {fd sd : Addr} {es : List DictEntry} (h : DataEs P fd sd es) : es.length = 6 := by obtain ⟨_, _, _, _, _, _, _, _, _, _, rfl⟩ := h; rfl
section
variable {w : World} {g : Heap} {L fa : Addr} {cd : Value} {mean : ExcName → Option Value} {mg mb : Str → Option Value} {s : Shared} {m : Str → Option Value} {Q : Flow → Shared → Prop} {E : Value → Shared → Prop}
theorem s_1 {st : Stmt} (hst : st = ls 1) {tp cl : Addr} {ta n : Nat} {fz : List (Addr × Obj)} (B : Below callerA g [] g) (X : (KK w.params).In g) (T : Top vw lz mean mg mb g) (room : callerA.depth + 60 < recursionLimit) (F : Fr g L s.heap m) (N : News g L s.heap ((tp, lst #[.ref cl, .int 0 ta] n) :: fz)) (TT : Tape L tp cl fz) (hlt : ∀ p ∈ fz, p.1 < tp)
    (h : ∀ D dD fd sd ed o fz' m' h' tk', m' (Str.ofString "data") = some (.ref D) → Fr g L h' m' → News g L h' ((tp, lst #[.ref cl, .int 0 ta] n) :: (fd, o) :: (sd, lst #[] 0) :: fz') → LFx w L tp cl D dD fd sd ed o [] fz' → Q .next { s with heap := h', toks := tk' }) : wpAny (model PG w) (LA L fa cd) (exec st (LE L fa cd)) Q E s := by
  subst hst
  unfold LA LE
  rw [ls_of (by with_unfolding_all rfl) 1 (by with_unfolding_all rfl), sc_of (by with_unfolding_all rfl)]
  (try k_fold)
  k_steps
  refine Hold.mk (c_mkdata (by walk_at "M cx") ?_)
  intro x dx es fd sd o h' tk' hes lo ho F' N' q1 q2 l1 l2
  k_steps
  (with_reducible rename Fr g _ _ _ => kF)
  (with_reducible rename News g _ _ _ => kN)
  rw [data_len hes] at kN
  have a1 : (∀ q ∈ (x, instObj 214 dx) :: (dx, emptyDict) :: (tp, lst #[Value.ref cl, Value.int 0 ta] n) :: fz, q.1 ≠ fd ∧ q.1 ≠ sd) := q1
  have a2 := l1 _ (.head _)
  have a3 : ∀ p ∈ (x, instObj 214 dx) :: (dx, dictOf es 6) :: fz, p.1 ≠ tp ∧ p.1 ≠ fd ∧ p.1 ≠ sd := by
    intro p hp
    rcases List.mem_cons.mp hp with rfl | hp
    · exact ⟨Nat.ne_of_gt (Nat.lt_trans a2 l2), a1 (x, _) (.head _)⟩
    · rcases List.mem_cons.mp hp with rfl | hp
      · exact ⟨Nat.ne_of_gt a2, a1 (dx, emptyDict) (.tail _ (.head _))⟩
      · exact ⟨Nat.ne_of_lt (hlt p hp), a1 p (.tail _ (.tail _ (.tail _ hp)))⟩
  exact h x dx fd sd es o ((x, instObj 214 dx) :: (dx, dictOf es 6) :: fz) _ _ _ (if_pos rfl) kF (cb_drop kN (memCons (.tail _ (.tail _ (.tail _ (.tail _ (.head _))))) (memCons (.tail _ (.head _)) (memCons (.head _) (memCons (.tail _ (.tail _ (.head _))) (memCons (.tail _ (.tail _ (.tail _ (.head _)))) (fun p hp => .tail _ (.tail _ (.tail _ (.tail _ (.tail _ hp)))))))))))
    ⟨TT.mono (fun p hp => .tail _ (.tail _ hp)), .head _, .tail _ (.head _), hes, lo, ho, fun p hp => (a3 p hp).1, fun p hp => (a3 p hp).2.1, fun p hp => (a3 p hp).2.2, ⟨(a1 (tp, _) (.tail _ (.tail _ (.head _)))).1⟩, ⟨(a1 (tp, _) (.tail _ (.tail _ (.head _)))).2⟩, ⟨q2⟩⟩
end
set_option maxHeartbeats 400000
theorem upd_tape {tp : Addr} {o1 o2 : Obj} {a b : Addr × Obj} {r : List (Addr × Obj)} (h1 : Ap tp a.1) (h2 : Ap tp b.1) (h : ∀ p ∈ r, p.1 ≠ tp) : Upd tp o1 o2 ((tp, o1) :: a :: b :: r) ((tp, o2) :: a :: b :: r) :=
  .head (List.forall_mem_cons.mpr ⟨Ne.symm h1.ne, List.forall_mem_cons.mpr ⟨Ne.symm h2.ne, h⟩⟩)
section
variable {w : World} {A : Around} {s : Shared} {base h₀ : Heap} {L : Addr} {m : Str → Option Value} {news fz : List (Addr × Obj)} {Q E : Value → Shared → Prop}
theorem draw_T {tp cl : Addr} {n : Nat} {a : Int} {ta : Nat} {many : Int} {tm : Nat} (C : Cx w A base h₀ L m s.heap news 2) (ht : (tp, lst #[.ref cl, .int a ta] n) ∈ news)
    (TT : Tape L tp cl fz) (hf : ∀ p ∈ fz, p ∈ news) (ha : 0 ≤ a) (ha2 : a < 100) (hm : 0 < many) (hm2 : many < 10)
    (h : ∀ v tv ta' n' h' tk', 0 ≤ v → v < many → Fr h₀ L h' m → (∀ news', Upd tp (lst #[.ref cl, .int a ta] n) (lst #[.ref cl, .int (a + 1) ta'] n') news news' → News h₀ L h' news') → Q (.int v tv) { s with heap := h', toks := tk' }) :
    wpAny (model PG w) A (call (.ref 665) [.ref tp, .int many tm]) Q E s := by
  obtain ⟨us, ks, n', h1, h2, h3, h4⟩ := TT.cells
  exact c_draw C ht (isl C.N (hf _ h1) rfl) h2 h3 h4 TT.ne ha ha2 hm hm2 h
end
abbrev tupN (vs : Array Value) (n : Nat) : Obj := { cls := .type "tuple", data := .seq vs n }
section
variable {prog : Program} {w : World} {A : Around} {E : Value → Shared → Prop} {s : Shared}
theorem sliceApplied_to {sl : Addr} {k n : Nat} {u : Tok} {Q : Int × Int × Nat → Shared → Prop} (hs : s.heap.IsSliceOf sl .none (.int k u) .none) (hk : k ≤ n) (h : Q (0, 1, k) s) :
    wpAny (model prog w) A (Builtin.Slice.sliceApplied (.ref sl) (pure (n : Int))) Q E s := by
  obtain ⟨os, hos, hcs, hds⟩ := id hs
  have e1 : Builtin.Slice.sliceAdjust none (some (k : Int)) 1 (n : Int) = (0, (k : Int)) := by
    unfold Builtin.Slice.sliceAdjust
    have h1 : ¬ ((1 : Int) < 0) := by omega
    have h2 : ¬ ((k : Int) < 0) := by omega
    simp only [h1, h2, if_false]
    congr 1
    omega
  have e2 : Builtin.Slice.slicePlaces 0 (k : Int) 1 = k := by
    unfold Builtin.Slice.slicePlaces
    have h1 : (1 : Int) > 0 := by omega
    simp only [h1, if_true, Int.ediv_one]
    split <;> omega
  unfold Builtin.Slice.sliceApplied Builtin.Slice.sliceFields
  refine wpAny_bind (wpAny_bind (wpAny_field hos hds (x := .none) rfl (wpAny_bind (wpAny_field hos hds (x := .int k u) rfl (wpAny_bind (wpAny_field hos hds (x := .none) rfl (wpAny_pure ?_)))))))
  refine wpAny_bind (slicePart_none ?_)
  show wpAny _ _ (if ((1 : Int) == 0) = true then _ else _) _ _ s
  rw [if_neg (by decide)]
  refine wpAny_bind (slicePart_none (wpAny_bind (slicePart_int (wpAny_bind (wpAny_pure ?_)))))
  show wpAny _ _ (match Builtin.Slice.sliceAdjust none (some (k : Int)) 1 (n : Int) with | (lo, hi) => pure (lo, (1 : Int), Builtin.Slice.slicePlaces lo hi 1)) _ _ s
  rw [e1]
  show wpAny _ _ (pure ((0 : Int), (1 : Int), Builtin.Slice.slicePlaces 0 (k : Int) 1)) _ _ s
  rw [e2]
  exact wpAny_pure h
theorem pick_to (xs : Array Value) (k : Nat) : ((List.range k).filterMap fun (j : Nat) => xs[((0 : Int) + (j : Int) * 1).toNat]?).toArray = (xs.toList.take k).toArray := by
  have e : (fun (j : Nat) => xs[((0 : Int) + (j : Int) * 1).toNat]?) = ((xs[·]?) ∘ fun j => 0 + j) := by
    funext j
    show xs[_]? = xs[0 + j]?
    congr 1
    omega
  rw [e, ← List.filterMap_map]
  have := pick_run xs 0 k
  rw [this, List.drop_zero]
theorem getItem_tuple_to {t sl : Addr} {items : Array Value} {k : Nat} {u : Tok} {Q : Value → Shared → Prop} (ht : IsTup s.heap t items) (hs : s.heap.IsSliceOf sl .none (.int k u) .none) (hk : k ≤ items.size)
    (h1 : k = items.size → Q (.ref t) s) (h : Q (.ref s.heap.objs.size) { s with heap := s.heap.push { cls := .type "tuple", data := .seq (items.toList.take k).toArray } })
    (hsz : items.size ≤ sizeLine) : wpAny (model prog w) A (getItem (.ref t) (.ref sl)) Q E s := by
  have htake : sizeOk (.seq (items.toList.take k).toArray) := by
    show (items.toList.take k).toArray.size ≤ sizeLine
    rw [List.size_toArray, List.length_take, Array.length_toList]
    omega
  obtain ⟨os, hos, hcs, hds⟩ := id hs
  have hTs : s.TypeIs (.ref sl) "slice" := ⟨os, hos, hcs⟩
  unfold getItem
  try with_reducible refine wpAny_holding ?_
  first | refine wpAny_bind (wpAny_pure ?_) | skip
  refine wpAny_bind (wpAny_sequenceKey ht.typeIs (by decide) ?_)
  refine wpAny_bind (wpAny_callSpecial?_slot (name := Str.ofString "__getitem__") ht.typeIs slot_tuple_getitem
    (wpAny_call_entry slot_tuple_getitem ht.typeIs entry_tuple_getitem ?_ (args_tuple_getitem _ _)))
  show wpAny _ _ (Builtin.Tuple.tupleItemsOf (.ref t) >>= _) _ _ s
  refine wpAny_bind (tupleItemsOf_ ht ?_)
  refine wpAny_bind (wpAny_typeOf hTs ?_)
  rw [if_pos (by decide)]
  refine wpAny_bind (sliceApplied_to hs hk ?_)
  by_cases hkn : k = items.size
  · have hyes : (((0 : Int) == 0 && (1 : Int) == 1 && k == items.size) = true) := by simp [hkn]
    show wpAny _ _ (if ((0 : Int) == 0 && (1 : Int) == 1 && k == items.size) = true then _ else _) _ _ s
    rw [if_pos hyes]
    have hT : s.TypeIs (.ref t) "tuple" := ht.typeIs
    refine wpAny_bind (m := Builtin.Tuple.tupleIsExact (.ref t)) (wpAny_bind (wpAny_typeOf hT (wpAny_pure ?_)))
    rw [if_pos (by decide)]
    exact wpAny_bind (wpAny_rule (wpAny_pure ⟨_, rfl, wpAny_pure (h1 hkn)⟩))
  · have hno : ¬ (((0 : Int) == 0 && (1 : Int) == 1 && k == items.size) = true) := by simp [hkn]
    show wpAny _ _ (if ((0 : Int) == 0 && (1 : Int) == 1 && k == items.size) = true then _ else _) _ _ s
    rw [if_neg hno, pick_to items k]
    first
      | exact wpAny_bind (m := Builtin.Tuple.tupleExact _) (wpAny_newObj_type (wpAny_pure ⟨_, rfl, wpAny_pure h⟩) htake)
      | exact wpAny_bind (m := Builtin.Tuple.tupleExact _) (wpAny_newObj_type (wpAny_bind (wpAny_pure (wpAny_pure ⟨_, rfl, wpAny_pure h⟩))) htake)
      | exact wpAny_bind (wpAny_bind (m := Builtin.Tuple.tupleExact _) (wpAny_newObj_type (wpAny_pure (wpAny_pure ⟨_, rfl, wpAny_pure h⟩)) htake))
      | exact wpAny_bind (wpAny_bind (m := Builtin.Tuple.tupleExact _) (wpAny_newObj_type (wpAny_pure ⟨_, rfl, wpAny_pure h⟩) htake))
end
section
variable {prog : Program} {w : World} {A : Around} {E : Value → Shared → Prop} {s : Shared} {h₀ : Heap} {L : Addr} {m : Str → Option Value} {news : List (Addr × Obj)}
theorem slice_to {value slice : PySem.Expr} {t : Addr} {vs : List Value} {n k : Nat} {u : Tok} {Q : Value → Shared → Prop}
    (F : Fr h₀ L s.heap m) (N : News h₀ L s.heap news) (hm : (t, tupN vs.toArray n) ∈ news) (hk : k ≤ vs.length)
    (h : ∀ x n' h', Fr h₀ L h' m → News h₀ L h' ((x, tupN (vs.take k).toArray n') :: news) → (∀ z : Nat, z < t → z < x) → Q (.ref x) { s with heap := h' })
    (hs : subscripted slice false (.ref t) (.ref s.heap.objs.size) = operate [.ref s.heap.objs.size, .ref t] (getItem (.ref t) (.ref s.heap.objs.size)))
    (hsz : vs.length ≤ 1000) :
    wpAny (model prog w) A (subscriptTail value slice (.ref t) (.ref s.heap.objs.size)) Q E { s with heap := s.heap.push { cls := .type "slice", data := .fields #[.none, .int k u, .none] } } := by
  have ht : IsTup s.heap t vs.toArray := ⟨_, (N _ hm).1, rfl, _, rfl⟩
  have hlt : t < s.heap.objs.size := Heap.lt_size (N _ hm).1
  have ht' : IsTup (s.heap.push { cls := .type "slice", data := .fields #[.none, .int k u, .none] }) t vs.toArray := ht.keeps fun _ _ e => Heap.get?_push_of_some _ e
  have Ng : News h₀ L (s.heap.push { cls := .type "slice", data := .fields #[.none, .int k u, .none] }) news := N.grown fun _ _ e => Heap.get?_push_of_some _ e
  refine tail_any (s := { s with heap := s.heap.push { cls := .type "slice", data := .fields #[.none, .int k u, .none] } }) ht'.typeIs slot_tuple_getitem.lookup
    (getItem_tuple_to ht' (Heap.IsSliceOf.new ..) (by simpa using hk) (fun e => ?_) ?_ (size_line (by simpa using hsz))) hs
  · refine h t n _ (F.push _) (fun p hp => ?_) fun z q => q
    rcases List.mem_cons.mp hp with rfl | hp
    · have e' : vs.take k = vs := List.take_of_length_le (by simp at e; omega)
      rw [e']
      exact Ng _ hm
    · exact Ng p hp
  · have N1 := News.push (F.push { cls := .type "slice", data := .fields #[.none, .int k u, .none] }) Ng { cls := .type "tuple", data := .seq (vs.toArray.toList.take k).toArray }
    rw [Heap.size_push] at N1
    show Q (.ref (s.heap.push _).objs.size) _
    rw [Heap.size_push]
    exact h _ _ _ ((F.push _).push _) N1 fun z q => Nat.lt_succ_of_lt (Nat.lt_trans q hlt)
end
set_option maxHeartbeats 400000
section
variable {prog : Program} {w : World} {A : Around} {E : Value → Shared → Prop} {s : Shared} {env : Env} {h₀ : Heap} {target : PySem.Expr} {body : List Stmt} {Q : Flow → Shared → Prop} {keep : List (Addr × Obj)} {I : Addr} {tn : String} {xs : List Itm}
theorem items_ind (J : Nat → (Str → Option Value) → List (Addr × Obj) → Prop)
    (done : ∀ m news, J xs.length m news → ∀ h tk, Fr h₀ env.locals h m → News h₀ env.locals h news → Q .next { s with heap := h, toks := tk })
    (turn : ∀ i a v m news it h tk, xs[i]? = some a → J i m news → a.Is v h → it.cls = .type tn → Fr h₀ env.locals h m → News h₀ env.locals h ((I, it) :: news) →
      wpAny (model prog w) A (assign target env v) (fun _ s₂ => wpAny (model prog w) A (execs body env) (UnrPostW h₀ env.locals { s with heap := h, toks := tk } [(I, it)] (fun m' n' => SubL keep n' ∧ J (i + 1) m' n') Q) E s₂) E { s with heap := h, toks := tk }) :
    ∀ j i m news, i + j = xs.length → J i m news → ItemsRest prog w A E h₀ env target body Q s [(I, tn)] keep (xs.drop i) m news := by
  intro j
  induction j with
  | zero =>
    intro i m news e hJ
    have : xs.drop i = [] := List.drop_eq_nil_of_le (by omega)
    rw [this]
    obtain rfl : i = xs.length := by omega
    exact ItemsRest.zero (done m news hJ)
  | succ j ih =>
    intro i m news e hJ
    have hi : i < xs.length := by omega
    rw [List.drop_eq_getElem_cons hi]
    intro v h tk ha F o ho N
    refine wpAny_mono (turn i _ v m news o h tk (List.getElem?_eq_getElem hi) hJ ha ho F N) (fun _ s₂ q => wpAny_mono q (fun f s₃ p => unrPostW_mono p fun m' n' z => ⟨z.1, ih (i + 1) m' n' (by omega) z.2⟩) fun _ _ z => z) fun _ _ z => z
end
def FilesIn (P : Params) (fz : List (Addr × Obj)) : List (Str × Value) → List (Str × List Str) → Prop
  | [], [] => True
  | kv :: kvs, f :: fs => (kv.1 = f.1 ∧ ∃ rl vs n, kv.2 = .ref rl ∧ (rl, lst (List.toArray vs) n) ∈ fz ∧ vs.length ≤ 1000 ∧ RootsIn P fz vs f.2) ∧ FilesIn P fz kvs fs
  | _, _ => False
theorem rootsIn_mono {P : Params} {fz fz' : List (Addr × Obj)} (k : ∀ p ∈ fz, p ∈ fz') : ∀ {vs : List Value} {ts : List Str}, RootsIn P fz vs ts → RootsIn P fz' vs ts
  | [], [], _ => trivial
  | _ :: _, _ :: _, ⟨⟨x, dx, es, lv, k', u, cl, kl, e, h1, h2, h3⟩, r⟩ => ⟨⟨x, dx, es, lv, k', u, cl, kl, e, k _ h1, k _ h2, h3⟩, rootsIn_mono k r⟩
  | [], _ :: _, h => h.elim
  | _ :: _, [], h => h.elim
theorem filesIn_mono {P : Params} {fz fz' : List (Addr × Obj)} (k : ∀ p ∈ fz, p ∈ fz') : ∀ {kvs : List (Str × Value)} {fs : List (Str × List Str)}, FilesIn P fz kvs fs → FilesIn P fz' kvs fs
  | [], [], _ => trivial
  | _ :: _, _ :: _, ⟨⟨e, rl, vs, n, e2, h1, h2, h3⟩, r⟩ => ⟨⟨e, rl, vs, n, e2, k _ h1, h2, rootsIn_mono k h3⟩, filesIn_mono k r⟩
  | [], _ :: _, h => h.elim
  | _ :: _, [], h => h.elim
theorem filesIn_snoc {P : Params} {fz : List (Addr × Obj)} {nm : Str} {rl : Addr} {vs : List Value} {n : Nat} {ts : List Str} (h1 : (rl, lst (List.toArray vs) n) ∈ fz) (h2 : vs.length ≤ 1000) (h3 : RootsIn P fz vs ts) :
    ∀ {kvs : List (Str × Value)} {fs : List (Str × List Str)}, FilesIn P fz kvs fs → FilesIn P fz (kvs ++ [(nm, .ref rl)]) (fs ++ [(nm, ts)])
  | [], [], _ => ⟨⟨rfl, rl, vs, n, rfl, h1, h2, h3⟩, trivial⟩
  | _ :: _, _ :: _, ⟨a, r⟩ => ⟨a, filesIn_snoc h1 h2 h3 r⟩
  | [], _ :: _, h => h.elim
  | _ :: _, [], h => h.elim
theorem filesIn_keys {P : Params} {fz : List (Addr × Obj)} : ∀ {kvs : List (Str × Value)} {fs : List (Str × List Str)}, FilesIn P fz kvs fs → kvs.map (·.1) = fs.map (·.1)
  | [], [], _ => rfl
  | _ :: _, _ :: _, ⟨⟨e, _⟩, r⟩ => by rw [List.map_cons, List.map_cons, e, filesIn_keys r]
  | [], _ :: _, h => h.elim
  | _ :: _, [], h => h.elim
theorem valueAt_none : ∀ {kvs : List (Str × Value)} {k : Str}, k ∉ kvs.map (·.1) → valueAt kvs k = none
  | [], _, _ => rfl
  | (k', v) :: r, k, h => by
    rw [List.map_cons, List.mem_cons, not_or] at h
    have ih := valueAt_none (kvs := r) h.2
    unfold valueAt at ih ⊢
    rw [List.find?_cons_of_neg (by simpa using fun e => h.1 e.symm)]; exact ih
theorem valueAt_some : ∀ {kvs : List (Str × Value)} {k : Str}, k ∈ kvs.map (·.1) → (valueAt kvs k).isSome = true
  | (k', v) :: r, k, h => by
    unfold valueAt
    by_cases e : k' = k
    · rw [List.find?_cons_of_pos (by simpa using e)]; rfl
    · rw [List.find?_cons_of_neg (by simpa using e)]
      rw [List.map_cons, List.mem_cons] at h
      exact valueAt_some (h.resolve_left fun q => e q.symm)
theorem stored_new {kvs : List (Str × Value)} {k : Str} {v : Value} (h : k ∉ kvs.map (·.1)) : stored kvs k v = kvs ++ [(k, v)] := by
  have h' := valueAt_none h
  unfold stored
  unfold valueAt at h'
  simp_all
theorem rootsAt_in {P : Params} {h₀ h : Heap} {L : Addr} {fz : List (Addr × Obj)} (N : News h₀ L h fz) : ∀ {vs : List Value} {ts : List Str}, RootsIn P fz vs ts → RootsAt P h vs ts
  | [], [], _ => trivial
  | _ :: _, _ :: _, ⟨⟨x, dx, es, lv, k', u, cl, kl, e, h1, h2, h3⟩, r⟩ => ⟨⟨x, dx, es, lv, k', u, cl, kl, e, (N _ h1).1, (N _ h2).1, h3⟩, rootsAt_in N r⟩
  | [], _ :: _, h => h.elim
  | _ :: _, [], h => h.elim
theorem filesAt_in {P : Params} {h₀ h : Heap} {L : Addr} {fz : List (Addr × Obj)} (N : News h₀ L h fz) : ∀ {kvs : List (Str × Value)} {fs : List (Str × List Str)}, FilesIn P fz kvs fs → FilesAt P h kvs fs
  | [], [], _ => trivial
  | _ :: _, _ :: _, ⟨⟨e, rl, vs, n, e2, h1, h2, h3⟩, r⟩ => ⟨⟨e, rl, vs, n, e2, (N _ h1).1, h2, rootsAt_in N h3⟩, filesAt_in N r⟩
  | [], _ :: _, h => h.elim
  | _ :: _, [], h => h.elim
def FsOk (fs : List (Str × List Str)) : Prop := ∀ f ∈ fs, PyData.strOk f.1 = true ∧ ∀ x ∈ f.2, PyData.strOk x = true
theorem fsOk_snoc {fs : List (Str × List Str)} {f : Str × List Str} (h : FsOk fs) (h1 : PyData.strOk f.1 = true) (h2 : ∀ x ∈ f.2, PyData.strOk x = true) : FsOk (fs ++ [f]) := fun g hg => by
  rcases List.mem_append.mp hg with hg | hg
  · exact h g hg
  · rw [List.mem_singleton.mp hg]; exact ⟨h1, h2⟩
set_option maxHeartbeats 400000
local macro_rules
  | `(tactic| walk_at "pyIter ref") => zst
  | `(tactic| walk_at "setItem ref str") => zst
  | `(tactic| walk_at "subscriptTail Tuple") => zst
section
variable {w : World} {g : Heap} {L fa : Addr} {cd : Value} {mean : ExcName → Option Value} {mg mb : Str → Option Value} {s : Shared} {m : Str → Option Value} {Q : Flow → Shared → Prop}
theorem s_2 {st : Stmt} (hst : st = ls 2) {tp cl D dD fd sd : Addr} {ta n : Nat} {ed : List DictEntry} {o : Obj} {fz : List (Addr × Obj)} (B : Below callerA g [] g) (X : (KK w.params).In g) (T : Top vw lz mean mg mb g) (room : callerA.depth + 60 < recursionLimit)
    (hm : m (Str.ofString "data") = some (.ref D)) (F : Fr g L s.heap m) (N : News g L s.heap ((tp, lst #[.ref cl, .int 0 ta] n) :: (fd, o) :: (sd, lst #[] 0) :: fz)) (S : LFx w L tp cl D dD fd sd ed o [] fz)
    (h : ∀ k ta' n' o' kvs' fs fz' m' h' tk', m' (Str.ofString "data") = some (.ref D) → Fr g L h' m' → News g L h' ((tp, lst #[.ref cl, .int 1 ta'] n') :: (fd, o') :: (sd, lst #[] 0) :: fz') → LFx w L tp cl D dD fd sd ed o' kvs' fz' →
      FilesIn w.params fz' kvs' fs → fs.map (·.1) = (["F", "G"] : List Str).take k → FsOk fs → Q .next { s with heap := h', toks := tk' }) :
    wpAny (model PG w) (LA L fa cd) (exec st (LE L fa cd)) Q (fun _ _ => False) s := by
  subst hst
  obtain ⟨TT, hD, hdD, hed, lo, ho, off1, off2, off3, ap1, ap2, ap3⟩ := S
  obtain ⟨m0, hm0⟩ := m_as hm
  subst hm0
  clear hm
  obtain ⟨oc, hcell, d1⟩ := TT.cell
  unfold LA LE
  rw [ls_of (by with_unfolding_all rfl) 2 (by with_unfolding_all rfl), sc_of (by with_unfolding_all rfl)]
  (try k_fold)
  refine For_turns F ?_
  k_steps
  refine Hold.mk (draw_T (by walk_at "M cx") (by k_mem) TT (fun p hp => by k_mem) (by decide) (by decide) (by decide) (by decide) ?_)
  intro v tv ta' n' h' tk' v0 v1 F' hN
  (rename (_ < _ ∧ _) => ll)
  have N' := hN _ (.tail (Nat.ne_of_gt ll.1) (upd_tape ap1 ap2 off1))
  clear hN
  obtain ⟨k, rfl⟩ : ∃ k : Nat, v = (k : Int) := ⟨v.toNat, by omega⟩
  have hk : k ≤ 2 := by omega
  (try k_sweep)
  k_steps
  (with_reducible rename Fr g _ _ _ => kF)
  (with_reducible rename News g _ _ _ => kN)
  refine Hold.mk ?_
  with_unfolding_all refine slice_to (vs := [Value.str (Str.ofString "F") _, Value.str (Str.ofString "G") _]) kF kN (.head _) hk (fun x n2 h2 F2 N2 hx => ?_) (by with_unfolding_all rfl) (by show 2 ≤ 1000; decide)
  clear kF kN
  k_steps
  refine Hold.mk ?_
  generalize hvs : [Value.str (Str.ofString "F") _, Value.str (Str.ofString "G") _] = vs at N2 ⊢
  have N3 : News g L h2 ((tp, lst #[.ref cl, .int (0 + 1) ta'] n') :: (fd, o) :: (sd, lst #[] 0) :: (x, tupN (List.take k vs).toArray n2) :: fz) :=
    cb_drop N2 (memCons (.tail _ (.tail _ (.head _))) (memCons (.tail _ (.tail _ (.tail _ (.head _)))) (memCons (.tail _ (.tail _ (.tail _ (.tail _ (.head _))))) (memCons (.head _) (fun p hp => .tail _ (.tail _ (.tail _ (.tail _ (.tail _ hp)))))))))
  clear N2
  refine iter_tupTurns (by rfl) F2 N3 (.tail _ (.tail _ (.tail _ (.head _)))) rfl rfl (fun I hI => ?_)
  clear F2 N3
  have x1 : tp < x := hx tp ll.1
  have x2 : fd < x := hx fd ll.2.1
  have x3 : sd < x := hx sd ll.2.2.1
  have I1 : tp < I := hI _ (.head _)
  have I2 : fd < I := hI _ (.tail _ (.head _))
  have I3 : sd < I := hI _ (.tail _ (.tail _ (.head _)))
  have hvs' : ∀ (i : Nat) v, vs[i]? = some v → ∃ nm t, v = .str nm t ∧ (["F", "G"] : List Str)[i]? = some nm := by
    subst hvs
    intro i v hv
    match i, hv with
    | 0, hv => exact ⟨_, _, (Option.some.inj hv).symm, rfl⟩
    | 1, hv => exact ⟨_, _, (Option.some.inj hv).symm, rfl⟩
  clear hvs
  refine items_ind (fun i m news => ∃ o' kvs' fz' fs, news = (tp, lst #[.ref cl, .int (0 + 1) ta'] n') :: (fd, o') :: (sd, lst #[] 0) :: fz' ∧ LFx w L tp cl D dD fd sd ed o' kvs' fz' ∧ (x, tupN (List.take k vs).toArray n2) ∈ fz' ∧ (∀ p ∈ fz', p.1 ≠ I) ∧ m (Str.ofString "data") = some (.ref D) ∧ FilesIn w.params fz' kvs' fs ∧ fs.map (·.1) = (["F", "G"] : List Str).take i ∧ FsOk fs)
    (fun m news hJ hh tk F N => ?_) (fun i a v m news it h tk hxa hJ hav hit F N => ?_) _ 0 _ _ (Nat.zero_add _) ?_
  · obtain ⟨o', kvs', fz', fs, rfl, S', hx', hI', hm', hf, hk', hfo⟩ := hJ
    exact h _ ta' n' o' kvs' fs fz' _ _ _ hm' F N S' hf hk' hfo
  · obtain ⟨o', kvs', fz', fs, rfl, ⟨TT, hD, hdD, hed, lo, ho, off1, off2, off3, ap1, ap2, ap3⟩, hx', hI', hm', hf, hk', hfo⟩ := hJ
    obtain ⟨nm, t, rfl, hnm⟩ : ∃ nm t, v = .str nm t ∧ (["F", "G"] : List Str)[i]? = some nm := by
      rw [List.getElem?_map] at hxa
      cases q : (List.take k vs)[i]? with
      | none => rw [q] at hxa; cases hxa
      | some u =>
        rw [q] at hxa
        cases hxa
        have hvu : v = u := hav
        subst hvu
        refine hvs' i v ?_
        rw [← q, List.getElem?_take, if_pos]
        have := (List.getElem?_eq_some_iff.mp q).1
        rw [List.length_take] at this
        omega
    obtain ⟨m0, hm0⟩ := m_as hm'
    subst hm0
    have hnl : nm.length ≤ 100 := by
      have hmm := List.mem_of_getElem? hnm
      rcases List.mem_cons.mp hmm with rfl | hmm
      · decide +kernel
      · rw [List.mem_singleton.mp hmm]; decide +kernel
    k_steps
    refine Hold.mk ?_
    refine' mkitem19 ?cx ?_
    case cx => walk_at "M cx"
    intro x' dx' es' cl' kl' h' tk' hes' F' N' q1 q2 q3 q4 d1 d2 d3 d4 d5 d6
    have b3 := q1.2.2.1
    have c3 := q2.2.2.1
    have e3 := q3.2.2.1
    have f3 := q4.2.2.1
    have e1 := q3.1
    have e2 := q3.2.1
    have e4 := q3.2.2.2.1
    have f1 := q4.1
    have f2 := q4.2.1
    have f4 := q4.2.2.2.1
    k_steps
    (with_reducible rename Fr g _ _ _ => kF)
    (with_reducible rename News g _ _ _ => kN)
    (rename (_ < _ ∧ _) => l9)
    refine Hold.mk ?_
    refine kda_set (knd := PySem.strKind _ _) kF kN (.tail (Nat.ne_of_gt l9.2.2.2.2.2.2.1) (.tail (Ne.symm c3.ne) (.tail (Ne.symm b3.ne) (.tail (Ne.symm e3.ne) (.tail (Ne.symm f3.ne) (.tail (Nat.ne_of_gt I2) (.tail ap1.ne (.head (List.forall_mem_cons.mpr ⟨Ne.symm ap3.ne, off2⟩))))))))) ho (strKind_is _ _ _ _) (size_line ?_) ?_
    · have := congrArg List.length ((filesIn_keys hf).trans hk')
      simp only [List.length_map, List.length_take, List.length_cons, List.length_nil] at this
      omega
    intro h9 o9 F9 N9 hd9
    k_steps
    have ei : nm ∉ kvs'.map (·.1) := by
      rw [filesIn_keys hf, hk']
      match i, hnm with
      | 0, hnm => simp
      | 1, hnm =>
        have : nm = Str.ofString "G" := (Option.some.inj hnm).symm
        subst this
        decide +kernel
    rw [stored_new ei] at hd9
    have mz : ∀ (q p : Addr × Obj), p ∈ fz' → p ∈ q :: (x', instObj 188 dx') :: (dx', dictOf es' 19) :: fz' := fun q p hp => .tail _ (.tail _ (.tail _ hp))
    refine ⟨h9, _, _, (tp, lst #[.ref cl, .int (0 + 1) ta'] n') :: (fd, o9) :: (sd, lst #[] 0) :: (_, W.listOf #[Value.ref x'] 0) :: (x', instObj 188 dx') :: (dx', dictOf es' 19) :: fz', rfl, F9,
      cb_drop N9 (memCons (.tail _ (.tail _ (.tail _ (.tail _ (.tail _ (.head _)))))) (memCons (.tail _ (.tail _ (.tail _ (.tail _ (.tail _ (.tail _ (.head _))))))) (memCons (.tail _ (.tail _ (.tail _ (.tail _ (.tail _ (.tail _ (.tail _ (.head _)))))))) (memCons (.tail _ (.tail _ (.tail _ (.tail _ (.tail _ (.tail _ (.tail _ (.tail _ (.head _))))))))) (memCons (.head _) (memCons (.tail _ (.tail _ (.tail _ (.head _)))) (memCons (.tail _ (.tail _ (.tail _ (.tail _ (.head _))))) (fun p hp => .tail _ (.tail _ (.tail _ (.tail _ (.tail _ (.tail _ (.tail _ (.tail _ (.tail _ hp)))))))))))))))), fun p hp q hq => ?_,
      ⟨.tail _ (.tail _ (.tail _ (mz _ _ hx'))), trivial⟩, o9, _, _, fs ++ [(nm, [nm ++ Str.ofString "-R"])], rfl, ⟨TT.mono (mz _), mz _ _ hD, mz _ _ hdD, hed, lo, hd9, ?_, ?_, ?_, ap1, ap2, ap3⟩, mz _ _ hx', ?_, hm', filesIn_snoc (vs := [.ref x']) (.head _) (by simp) ?_ (filesIn_mono (mz _) hf), ?_, fsOk_snoc hfo ?_ ?_⟩
    · rw [List.mem_singleton.mp hq]
      rcases List.mem_cons.mp hp with rfl | hp
      · exact Nat.ne_of_lt I1
      · rcases List.mem_cons.mp hp with rfl | hp
        · exact Nat.ne_of_lt I2
        · rcases List.mem_cons.mp hp with rfl | hp
          · exact Nat.ne_of_lt I3
          · rcases List.mem_cons.mp hp with rfl | hp
            · exact Nat.ne_of_gt l9.2.2.2.2.1
            · rcases List.mem_cons.mp hp with rfl | hp
              · exact Ne.symm e1.ne
              · rcases List.mem_cons.mp hp with rfl | hp
                · exact Ne.symm f1.ne
                · exact hI' p hp
    · exact List.forall_mem_cons.mpr ⟨Nat.ne_of_gt l9.2.2.2.2.2.1, List.forall_mem_cons.mpr ⟨Ne.symm e2.ne, List.forall_mem_cons.mpr ⟨Ne.symm f2.ne, off1⟩⟩⟩
    · exact List.forall_mem_cons.mpr ⟨Nat.ne_of_gt l9.2.2.2.2.2.2.1, List.forall_mem_cons.mpr ⟨Ne.symm e3.ne, List.forall_mem_cons.mpr ⟨Ne.symm f3.ne, off2⟩⟩⟩
    · exact List.forall_mem_cons.mpr ⟨Nat.ne_of_gt l9.2.2.2.2.2.2.2.1, List.forall_mem_cons.mpr ⟨Ne.symm e4.ne, List.forall_mem_cons.mpr ⟨Ne.symm f4.ne, off3⟩⟩⟩
    · exact List.forall_mem_cons.mpr ⟨Nat.ne_of_gt l9.2.2.2.2.1, List.forall_mem_cons.mpr ⟨Ne.symm e1.ne, List.forall_mem_cons.mpr ⟨Ne.symm f1.ne, hI'⟩⟩⟩
    · exact ⟨⟨x', dx', es', _, _, _, _, _, rfl, .tail _ (.head _), .tail _ (.tail _ (.head _)), hes'⟩, trivial⟩
    · rw [List.map_append, hk', take_snoc hnm]; rfl
    · match i, hnm with
      | 0, hnm => rw [← Option.some.inj hnm]; decide +kernel
      | 1, hnm => rw [← Option.some.inj hnm]; decide +kernel
    · intro x hx
      rw [List.mem_singleton.mp hx]
      match i, hnm with
      | 0, hnm => rw [← Option.some.inj hnm]; decide +kernel
      | 1, hnm => rw [← Option.some.inj hnm]; decide +kernel
  · refine ⟨o, [], (x, tupN (List.take k vs).toArray n2) :: fz, [], rfl, ⟨TT.mono fun p hp => .tail _ hp, .tail _ hD, .tail _ hdD, hed, lo, ho, ?_, ?_, ?_, ap1, ap2, ap3⟩, .head _, ?_, if_pos rfl, trivial, rfl, fun f hf => nomatch hf⟩
    · exact List.forall_mem_cons.mpr ⟨Nat.ne_of_gt x1, off1⟩
    · exact List.forall_mem_cons.mpr ⟨Nat.ne_of_gt x2, off2⟩
    · exact List.forall_mem_cons.mpr ⟨Nat.ne_of_gt x3, off3⟩
    · exact fun p hp => Nat.ne_of_lt (hI p (.tail _ (.tail _ (.tail _ hp))))
end
set_option maxHeartbeats 400000
theorem seenAt_mono {nw nw' : List (Addr × Obj)} {fl sl : Addr} {fs : List (Str × List Str)} {ss : List Str} (k : ∀ p ∈ nw, p ∈ nw') (h : SeenAt nw fl sl fs ss) : SeenAt nw' fl sl fs ss :=
  let ⟨⟨ys, n, a, b⟩, xs, n', c, d⟩ := h; ⟨⟨ys, n, k _ a, seenL_mono k b⟩, xs, n', k _ c, d⟩
theorem LFx.more {w : World} {L tp cl D dD fd sd : Addr} {ed : List DictEntry} {o : Obj} {kvs : List (Str × Value)} {fz fz' : List (Addr × Obj)} (S : LFx w L tp cl D dD fd sd ed o kvs fz) (k : ∀ p ∈ fz, p ∈ fz') (ne : ∀ p ∈ fz', p ∈ fz ∨ p.1 ≠ tp ∧ p.1 ≠ fd ∧ p.1 ≠ sd) : LFx w L tp cl D dD fd sd ed o kvs fz' :=
  ⟨S.T.mono k, k _ S.hD, k _ S.hdD, S.hed, S.lo, S.ho, fun p hp => (ne p hp).elim (S.off1 p) fun q => q.1, fun p hp => (ne p hp).elim (S.off2 p) fun q => q.2.1, fun p hp => (ne p hp).elim (S.off3 p) fun q => q.2.2, S.ap1, S.ap2, S.ap3⟩
section
variable {w : World} {g : Heap} {L fa : Addr} {cd : Value} {mean : ExcName → Option Value} {mg mb : Str → Option Value} {s : Shared} {m : Str → Option Value} {Q : Flow → Shared → Prop}
theorem s_3 {st : Stmt} (hst : st = ls 3) {tp cl D dD fd sd : Addr} {a : Int} {ta n : Nat} {ed : List DictEntry} {o : Obj} {kvs : List (Str × Value)} {fs : List (Str × List Str)} {fz : List (Addr × Obj)} (B : Below callerA g [] g) (X : (KK w.params).In g) (T : Top vw lz mean mg mb g) (room : callerA.depth + 60 < recursionLimit) (hun : callerA.units + 600 < cLine)
    (hm : m (Str.ofString "data") = some (.ref D)) (F : Fr g L s.heap m) (N : News g L s.heap ((tp, lst #[.ref cl, .int a ta] n) :: (fd, o) :: (sd, lst #[] 0) :: fz)) (S : LFx w L tp cl D dD fd sd ed o kvs fz) (hf : FilesIn w.params fz kvs fs) (hkl : kvs.length ≤ 1000)
    (h : ∀ fl sl fz' m' h' tk', m' (Str.ofString "data") = some (.ref D) → m' (Str.ofString "files") = some (.ref fl) → m' (Str.ofString "sorts") = some (.ref sl) → Fr g L h' m' → News g L h' ((tp, lst #[.ref cl, .int a ta] n) :: (fd, o) :: (sd, lst #[] 0) :: fz') → LFx w L tp cl D dD fd sd ed o kvs fz' →
      FilesIn w.params fz' kvs fs → SeenAt fz' fl sl fs [] → Q .next { s with heap := h', toks := tk' }) :
    wpAny (model PG w) (LA L fa cd) (exec st (LE L fa cd)) Q (fun _ _ => False) s := by
  subst hst
  obtain ⟨m0, hm0⟩ := m_as hm
  subst hm0
  clear hm
  unfold LA LE
  rw [ls_of (by with_unfolding_all rfl) 3 (by with_unfolding_all rfl), sc_of (by with_unfolding_all rfl)]
  (try k_fold)
  k_steps
  (with_reducible rename Fr g _ _ _ => kF)
  (with_reducible rename News g _ _ _ => kN)
  have fz4 : ∀ p ∈ fz, p ∈ (tp, lst #[.ref cl, .int a ta] n) :: (fd, o) :: (sd, lst #[] 0) :: fz := fun p hp => .tail _ (.tail _ (.tail _ hp))
  have hfa := filesAt_in (cb_drop kN fz4) hf
  refine Hold.mk (c_seen (by walk_at "M cx") (by walk_at "M units") (kN _ (fz4 _ S.hD)).1 (kN _ (fz4 _ S.hdD)).1 S.hed S.lo (kN _ (.tail _ (.head _))).1 S.ho hkl hfa (sv := []) (kN _ (.tail _ (.tail _ (.head _)))).1 (Nat.zero_le _) ⟨[], rfl, rfl⟩ ?_)
  intro t fl sl rled h' tk' hseen F' N1 q1 q2
  have N' : News g L h' ((t, tup2 (.ref fl) (.ref sl)) :: (tp, lst #[.ref cl, .int a ta] n) :: (fd, o) :: (sd, lst #[] 0) :: (rled ++ fz)) := cb_drop N1 (memCons (.head _) (memCons (.tail _ (List.mem_append_right _ (.head _))) (memCons (.tail _ (List.mem_append_right _ (.tail _ (.head _)))) (memCons (.tail _ (List.mem_append_right _ (.tail _ (.tail _ (.head _))))) (fun p hp => (List.mem_append.mp hp).elim (fun hp => .tail _ (List.mem_append_left _ hp)) fun hp => .tail _ (List.mem_append_right _ (fz4 p hp)))))))
  clear N1 kN kF
  k_steps
  (with_reducible rename Fr g _ _ _ => kF)
  (with_reducible rename News g _ _ _ => kN)
  refine h fl sl (rled ++ fz) _ _ _ ?_ ?_ ?_ kF (cb_drop kN fun p hp => .tail _ hp) (S.more (fun p hp => List.mem_append_right _ hp) fun p hp => (List.mem_append.mp hp).symm.imp (fun q => q) fun hp => ⟨Ne.symm ((q1 p hp).2 (tp, _) (.head _)), Ne.symm ((q1 p hp).2 (fd, _) (.tail _ (.head _))), Ne.symm ((q1 p hp).2 (sd, _) (.tail _ (.tail _ (.head _))))⟩)
    (filesIn_mono (fun p hp => List.mem_append_right _ hp) hf) (seenAt_mono (fun p hp => List.mem_append_left _ hp) hseen)
  · rfl
  · rfl
  · rfl
end
set_option maxHeartbeats 400000
local macro_rules | `(tactic| walk_at "subscriptTail Name Call") => zst
theorem item_T {prog : Program} {w : World} {A : Around} {E : Value → Shared → Prop} {s : Shared} {value slice : PySem.Expr} {t : Addr} {l : List Value} {k : Int} {u : Tok} {Q : Value → Shared → Prop} (ht : IsTup s.heap t l.toArray) (h0 : 0 ≤ k) (h1 : k < l.length) (hz : l.length ≤ 1000) (h : ∀ x, l[k.toNat]? = some x → Q x s)
    (hs : subscripted slice false (.ref t) (.int k u) = operate [.ref t, .int k u] (getItem (.ref t) (.int k u))) : wpAny (model prog w) A (subscriptTail value slice (.ref t) (.int k u)) Q E s := by
  have hi : k.toNat < l.length := by omega
  have hq : seqIndex? k l.length = some k.toNat := by
    unfold seqIndex?
    have : ¬ k < 0 := by omega
    simp only [this, if_false]
    rw [if_pos (by simp; omega)]
  exact item_tupleT ht (by omega) (by omega) hq (List.getElem?_eq_getElem hi) (h _ (List.getElem?_eq_getElem hi)) hs
theorem strs_at {l : List (Str × Tok)} {i : Nat} {x : Value} (h : (strValues l)[i]? = some x) : ∃ nm t, x = .str nm t ∧ nm ∈ l.map (·.1) := by
  unfold strValues at h
  rw [List.getElem?_map] at h
  cases q : l[i]? with
  | none => rw [q] at h; cases h
  | some y => rw [q] at h; cases h; exact ⟨y.1, y.2, rfl, List.mem_map_of_mem (List.mem_of_getElem? q)⟩
section
variable {w : World} {g : Heap} {L fa : Addr} {cd : Value} {mean : ExcName → Option Value} {mg mb : Str → Option Value} {s : Shared} {m : Str → Option Value} {Q : Flow → Shared → Prop}
theorem s_4 {st : Stmt} (hst : st = ls 4) {tp cl D dD fd sd fl sl : Addr} {ta n : Nat} {ed : List DictEntry} {o : Obj} {kvs : List (Str × Value)} {fz : List (Addr × Obj)} (B : Below callerA g [] g) (X : (KK w.params).In g) (T : Top vw lz mean mg mb g) (room : callerA.depth + 60 < recursionLimit)
    (hm : m (Str.ofString "data") = some (.ref D)) (hm2 : m (Str.ofString "files") = some (.ref fl)) (hm3 : m (Str.ofString "sorts") = some (.ref sl)) (F : Fr g L s.heap m) (N : News g L s.heap ((tp, lst #[.ref cl, .int 1 ta] n) :: (fd, o) :: (sd, lst #[] 0) :: fz)) (S : LFx w L tp cl D dD fd sd ed o kvs fz)
    (h : ∀ ta' n' nm tn bs m' h' tk', m' (Str.ofString "data") = some (.ref D) → m' (Str.ofString "files") = some (.ref fl) → m' (Str.ofString "sorts") = some (.ref sl) → m' (Str.ofString "name") = some (.str nm tn) → m' (Str.ofString "is_sort") = some (.bool bs) → nm ∈ (["H", "F", "G", "K"] : List Str) →
      Fr g L h' m' → News g L h' ((tp, lst #[.ref cl, .int 3 ta'] n') :: (fd, o) :: (sd, lst #[] 0) :: fz) → Q .next { s with heap := h', toks := tk' }) :
    wpAny (model PG w) (LA L fa cd) (exec st (LE L fa cd)) Q (fun _ _ => False) s := by
  subst hst
  obtain ⟨TT, hD, hdD, hed, lo, ho, off1, off2, off3, ap1, ap2, ap3⟩ := S
  obtain ⟨oc, hcell, d1⟩ := TT.cell
  unfold LA LE
  rw [ls_of (by with_unfolding_all rfl) 4 (by with_unfolding_all rfl), sc_of (by with_unfolding_all rfl)]
  (try k_fold)
  k_steps
  refine Hold.mk (draw_T (by walk_at "M cx") (by k_mem) TT (fun p hp => by k_mem) (by decide) (by decide) (by decide) (by decide) ?_)
  intro v tv ta' n' h' tk' v0 v1 F' hN
  (rename (_ < _ ∧ _) => ll)
  have N' := hN _ (.tail (Nat.ne_of_gt ll.1) (upd_tape ap1 ap2 off1))
  clear hN
  (try k_sweep)
  k_steps
  refine Hold.mk ?_
  (with_reducible rename Fr g _ _ _ => kF)
  (with_reducible rename News g _ _ _ => kN)
  refine item_T (l := strValues [(Str.ofString "H", _), (Str.ofString "F", _), (Str.ofString "G", _), (Str.ofString "K", _)]) ⟨_, (kN _ (.head _)).1, rfl, _, rfl⟩ v0 v1 (by show 4 ≤ 1000; decide) (fun x hx => ?_) (by with_unfolding_all rfl)
  obtain ⟨nm, tn, rfl, hnm⟩ := strs_at hx
  clear hx
  have hnm' : nm ∈ (["H", "F", "G", "K"] : List Str) := hnm
  clear hnm
  k_steps
  (with_reducible rename Fr g _ _ _ => kF)
  (with_reducible rename News g _ _ _ => kN)
  refine Hold.mk (draw_T (by walk_at "M cx") (by k_mem) TT (fun p hp => by k_mem) (by decide) (by decide) (by decide) (by decide) ?_)
  intro v2 tv2 ta2 n2 h2 tk2 v02 v12 F2 hN
  have N' := hN _ (.tail (Nat.ne_of_gt ll.1) (upd_tape ap1 ap2 off1))
  clear hN kF kN
  have N'' := cb_drop N' (fun p hp => .tail _ hp)
  clear N'
  (try k_sweep)
  k_steps
  (with_reducible rename Fr g _ _ _ => kF)
  (with_reducible rename News g _ _ _ => kN)
  refine h _ _ nm tn (v2 == 1) _ _ _ ?_ ?_ ?_ ?_ ?_ hnm' kF (cb_drop kN fun p hp => .tail _ hp)
  · exact hm
  · exact hm2
  · exact hm3
  · rfl
  · rfl
end
set_option maxHeartbeats 400000
local macro_rules | `(tactic| walk_at "binaryOp Add ref ref") => zst
def PairsIn (g : Heap) (fz : List (Addr × Obj)) : List Value → List (Str × Str) → Prop
  | [], [] => True
  | v :: vs, p :: ps => (∃ a t u, v = .ref a ∧ (IsTup g a #[.str p.1 t, .str p.2 u] ∨ (a, tup2 (.str p.1 t) (.str p.2 u)) ∈ fz)) ∧ PairsIn g fz vs ps
  | _, _ => False
theorem pairsIn_mono {g : Heap} {fz fz' : List (Addr × Obj)} (k : ∀ p ∈ fz, p ∈ fz') : ∀ {vs : List Value} {ps : List (Str × Str)}, PairsIn g fz vs ps → PairsIn g fz' vs ps
  | [], [], _ => trivial
  | _ :: _, _ :: _, ⟨⟨a, t, u, e, h⟩, r⟩ => ⟨⟨a, t, u, e, h.imp (fun q => q) (k _)⟩, pairsIn_mono k r⟩
  | [], _ :: _, h => h.elim
  | _ :: _, [], h => h.elim
theorem pairsIn_app {g : Heap} {fz : List (Addr × Obj)} {us : List Value} {qs : List (Str × Str)} (h : PairsIn g fz us qs) : ∀ {vs : List Value} {ps : List (Str × Str)}, PairsIn g fz vs ps → PairsIn g fz (vs ++ us) (ps ++ qs)
  | [], [], _ => h
  | _ :: _, _ :: _, ⟨a, r⟩ => ⟨a, pairsIn_app h r⟩
  | [], _ :: _, h => h.elim
  | _ :: _, [], h => h.elim
theorem pairsIn_one {g : Heap} {fz : List (Addr × Obj)} {p : Str × Str} {a : Addr} {t u : Tok} (h : IsTup g a #[.str p.1 t, .str p.2 u] ∨ (a, tup2 (.str p.1 t) (.str p.2 u)) ∈ fz) : PairsIn g fz [.ref a] [p] := ⟨⟨a, t, u, rfl, h⟩, trivial⟩
theorem pairsIn_len {g : Heap} {fz : List (Addr × Obj)} : ∀ {vs : List Value} {ps : List (Str × Str)}, PairsIn g fz vs ps → vs.length = ps.length
  | [], [], _ => rfl
  | _ :: _, _ :: _, ⟨_, r⟩ => congrArg (· + 1) (pairsIn_len r)
  | [], _ :: _, h => h.elim
  | _ :: _, [], h => h.elim
theorem pairsIn_L {g g2 : Heap} {fz : List (Addr × Obj)} (k1 : ∀ b o, g.get? b = some o → g2.get? b = some o) (k2 : ∀ (a : Addr) (x y : Str × Tok), (a, tup2 (.str x.1 x.2) (.str y.1 y.2)) ∈ fz → g2.get? a = some (tup2 (.str x.1 x.2) (.str y.1 y.2))) : ∀ {vs : List Value} {ps : List (Str × Str)}, PairsIn g fz vs ps → PairsL g2 vs ps
  | [], [], _ => trivial
  | _ :: _, p :: _, ⟨⟨a, t, u, e, h⟩, r⟩ => ⟨⟨a, t, u, e, h.elim (fun q => q.keeps k1) fun q => ⟨_, k2 a (p.1, t) (p.2, u) q, rfl, _, rfl⟩⟩, pairsIn_L k1 k2 r⟩
  | [], _ :: _, h => h.elim
  | _ :: _, [], h => h.elim
theorem tup_K {w : World} {h : Heap} (X : (KK w.params).In h) {a : Addr} {o : Obj} {vs : Array Value} {n : Nat} (hk : (KK w.params).lookup a = some o) (hc : o.cls = .type "tuple") (hd : o.data = .seq vs n) : IsTup h a vs := ⟨o, X _ _ hk, hc, n, hd⟩
theorem rem_tup {w : World} {h : Heap} (X : (KK w.params).In h) : ∃ l : List Value, IsTup h 658 l.toArray ∧ l.length = 6 ∧ ∀ x ∈ l, ∃ (p : Str × Str) (a : Addr) (t u : Tok), x = .ref a ∧ IsTup h a #[.str p.1 t, .str p.2 u] ∧ (p.1 == ("sign" : Str) && p.2 == ("." : Str)) = false := by
  refine ⟨_, tup_K X (by k_is) rfl rfl, rfl, ?_⟩
  intro x hx
  simp only [List.mem_cons, List.not_mem_nil, or_false] at hx
  rcases hx with rfl | rfl | rfl | rfl | rfl | rfl
  · exact ⟨(_, _), _, _, _, rfl, tup_K X (by k_is) rfl rfl, by decide +kernel⟩
  · exact ⟨(_, _), _, _, _, rfl, tup_K X (by k_is) rfl rfl, by decide +kernel⟩
  · exact ⟨(_, _), _, _, _, rfl, tup_K X (by k_is) rfl rfl, by decide +kernel⟩
  · exact ⟨(_, _), _, _, _, rfl, tup_K X (by k_is) rfl rfl, by decide +kernel⟩
  · exact ⟨(_, _), _, _, _, rfl, tup_K X (by k_is) rfl rfl, by decide +kernel⟩
  · exact ⟨(_, _), _, _, _, rfl, tup_K X (by k_is) rfl rfl, by decide +kernel⟩
section
variable {w : World} {g : Heap} {L fa : Addr} {cd : Value} {mean : ExcName → Option Value} {mg mb : Str → Option Value} {s : Shared} {m : Str → Option Value} {Q : Flow → Shared → Prop}
theorem s_5 {st : Stmt} (hst : st = ls 5) {tp cl D dD fd sd fl sl : Addr} {ta n tn : Nat} {nm : Str} {ed : List DictEntry} {o : Obj} {kvs : List (Str × Value)} {fz : List (Addr × Obj)} (B : Below callerA g [] g) (X : (KK w.params).In g) (T : Top vw lz mean mg mb g) (room : callerA.depth + 60 < recursionLimit)
    (hm : m (Str.ofString "name") = some (.str nm tn)) (F : Fr g L s.heap m) (N : News g L s.heap ((tp, lst #[.ref cl, .int 3 ta] n) :: (fd, o) :: (sd, lst #[] 0) :: fz)) (S : LFx w L tp cl D dD fd sd ed o kvs fz)
    (h : ∀ pl vs rem a' ta' n' n1 fz' m' h' tk', m' (Str.ofString "pairs") = some (.ref pl) → (∀ y, y ≠ Str.ofString "pairs" → m' y = m y) → 0 ≤ a' → a' ≤ 8 → Fr g L h' m' → News g L h' ((tp, lst #[.ref cl, .int a' ta'] n') :: (fd, o) :: (sd, lst #[] 0) :: fz') → LFx w L tp cl D dD fd sd ed o kvs fz' → (∀ p ∈ fz, p ∈ fz') →
      (pl, lst (List.toArray vs) n1) ∈ fz' → PairsIn g fz' vs ((("word", nm) : Str × Str) :: rem) → (∀ p ∈ rem, (p.1 == ("sign" : Str) && p.2 == (("." : Str))) = false) → rem.length ≤ 4 → Q .next { s with heap := h', toks := tk' }) :
    wpAny (model PG w) (LA L fa cd) (exec st (LE L fa cd)) Q (fun _ _ => False) s := by
  subst hst
  obtain ⟨TT, hD, hdD, hed, lo, ho, off1, off2, off3, ap1, ap2, ap3⟩ := id S
  obtain ⟨oc, hcell, d1⟩ := TT.cell
  obtain ⟨m0, hm0⟩ := m_as hm
  subst hm0
  clear hm
  unfold LA LE
  rw [ls_of (by with_unfolding_all rfl) 5 (by with_unfolding_all rfl), sc_of (by with_unfolding_all rfl)]
  (try k_fold)
  k_steps
  (with_reducible rename Fr g _ _ _ => kF)
  (rename (_ < _ ∧ _ < _ ∧ _ < _ ∧ _ < _ ∧ _) => l1)
  (rename (_ < _ ∧ _ < _ ∧ _ < _ ∧ AllLt _ _) => l0)
  (with_reducible rename News g _ _ _ => kN)
  rename_i T1 x1 lp x2
  refine Hold.mk (LCg.ListComp_U (F₀ := kF) (by with_unfolding_all rfl) (by decide) (by rfl) (by decide) (by rfl) ?_)
  k_steps
  refine Hold.mk (draw_T (by walk_at "M cx") (by k_mem) TT (fun p hp => by k_mem) (by decide) (by decide) (by decide) (by decide) ?_)
  intro v tv ta' n' h' tk' v0 v1 F' hN
  have N' := hN _ (.tail (Nat.ne_of_gt l1.2.1) (.tail (Nat.ne_of_gt l0.1) (upd_tape ap1 ap2 off1)))
  clear hN kF kN
  obtain ⟨k, rfl⟩ : ∃ k : Nat, v = (k : Int) := ⟨v.toNat, by omega⟩
  have hk : k ≤ 4 := by omega
  (try k_sweep)
  k_steps
  (with_reducible rename Fr g _ _ _ => kF2)
  (with_reducible rename News g _ _ _ => kN2)
  (with_reducible rename IsRange _ _ _ _ _ _ _ _ => hr)
  have kN3 : News g L _ ((tp, lst #[Value.ref cl, Value.int (3 + 1) ta'] n') :: (fd, o) :: (sd, lst #[] 0) :: (lp, W.listOf #[Value.ref T1] 0) :: (T1, tup2 (.str (Str.ofString "word") s.toks) (.str nm tn)) :: fz) :=
    cb_drop kN2 (memCons (.tail _ (.tail _ (.head _))) (memCons (.tail _ (.tail _ (.tail _ (.head _)))) (memCons (.tail _ (.tail _ (.tail _ (.tail _ (.head _))))) (memCons (.head _) (memCons (.tail _ (.head _)) (fun p hp => .tail _ (.tail _ (.tail _ (.tail _ (.tail _ hp))))))))))
  clear kN2
  refine Hold.mk (LCg.CompSrc.range (n := k) rfl kF2 kN3 hr (small_one (by decide) (by decide) (by omega) (by omega)) (by rw [rangeSize_one]; split <;> omega) (size_line (by omega)) fun g' => ?_)
  clear hr
  refine comp_ind (J := fun i ys nw => ∃ ta' n' ps, nw = (tp, lst #[.ref cl, .int (4 + (i : Int)) ta'] n') :: (fd, o) :: (sd, lst #[] 0) :: (lp, W.listOf #[Value.ref T1] 0) :: (T1, tup2 (.str (Str.ofString "word") s.toks) (.str nm tn)) :: fz ∧ ys.length = i ∧ PairsIn g [] ys ps ∧ ∀ p ∈ ps, (p.1 == ("sign" : Str) && p.2 == (("." : Str))) = false) (fun ys nw hJ => ?_) (fun i ys nw hi hJ v I oI C oC D' m₂ h tk E' hP hC hx F N off ne => ?_) k 0 [] _ (Nat.zero_add _) ?_
  · obtain ⟨ta', n', ps, rfl, hl, hp, hno⟩ := hJ
    intro D1 h1 tk1 F1 N1 off1'
    k_steps
    (with_reducible rename Fr g _ _ _ => kF)
    (with_reducible rename News g _ _ _ => kN)
    refine Hold.mk (kmk_add_lit kF kN ⟨_, (kN (lp, _) (.tail _ (.tail _ (.tail _ (.tail _ (.head _)))))).1, rfl, _, rfl⟩ ⟨_, (kN (D1, _) (.head _)).1, rfl, _, rfl⟩ rfl (fun D3 h3 F3 N3 hlt => ?_) ?_)
    clear kF kN
    k_steps
    (with_reducible rename Fr g _ _ _ => kF)
    (with_reducible rename News g _ _ _ => kN)
    have mz : ∀ (q r p : Addr × Obj), p ∈ fz → p ∈ q :: r :: fz := fun q r p hp => .tail _ (.tail _ hp)
    refine h D3 (.ref T1 :: ys) ps (4 + (k : Int)) ta' n' 0 ((D3, W.listOf (Value.ref T1 :: ys).toArray 0) :: (T1, tup2 (.str (Str.ofString "word") s.toks) (.str nm tn)) :: fz) _ _ _ (if_pos rfl) (fun y hy => if_neg hy) (by omega) (by omega) kF
      (cb_drop kN (memCons (.tail _ (.tail _ (.head _))) (memCons (.tail _ (.tail _ (.tail _ (.head _)))) (memCons (.tail _ (.tail _ (.tail _ (.tail _ (.head _))))) (memCons (.head _) (memCons (.tail _ (.tail _ (.tail _ (.tail _ (.tail _ (.tail _ (.head _))))))) (fun p hp => .tail _ (.tail _ (.tail _ (.tail _ (.tail _ (.tail _ (.tail _ hp))))))))))))) (S.more (mz _ _) fun p hp => ?_) (mz _ _) (.head _) ⟨⟨T1, _, _, rfl, .inr (.tail _ (.head _))⟩, pairsIn_mono memNil hp⟩ hno (by rw [← pairsIn_len hp, hl]; exact hk)
    · rcases List.mem_cons.mp hp with rfl | hp
      · exact .inr ⟨Nat.ne_of_gt (hlt (tp, _) (.tail _ (.head _))), Nat.ne_of_gt (hlt (fd, _) (.tail _ (.tail _ (.head _)))), Nat.ne_of_gt (hlt (sd, _) (.tail _ (.tail _ (.tail _ (.head _)))))⟩
      · rcases List.mem_cons.mp hp with rfl | hp
        · exact .inr ⟨Nat.ne_of_gt l0.1, Nat.ne_of_gt l0.2.1, Nat.ne_of_gt l0.2.2.1⟩
        · exact .inl hp
    · rw [sizeLine_eq]
      simp only [List.length_cons, List.length_nil, hl]
      omega
  · obtain ⟨ta', n', ps, rfl, hl, hp, hno⟩ := hJ
    k_steps
    refine Hold.mk (draw_T (by walk_at "M cx") (by k_mem) TT (fun p hp => by k_mem) (by omega) (by omega) (by decide) (by decide) ?_)
    intro v2 tv2 ta2 n2 h2 tk2 v02 v12 F2 hN
    have N' := hN _ (.tail (Ne.symm off.1.1) (.tail (Ne.symm off.1.2.1) (.tail (Ne.symm off.1.2.2) (.head (List.forall_mem_cons.mpr ⟨Ne.symm ap1.ne, List.forall_mem_cons.mpr ⟨Ne.symm ap2.ne, List.forall_mem_cons.mpr ⟨Nat.ne_of_gt l1.2.1, List.forall_mem_cons.mpr ⟨Nat.ne_of_gt l0.1, off1⟩⟩⟩⟩)))))
    clear hN F N
    (try k_sweep)
    k_steps
    obtain ⟨l, hl6, hlen, hall⟩ := rem_tup X
    (with_reducible rename Fr g _ _ _ => kF)
    (with_reducible rename News g _ _ _ => kN)
    refine Hold.mk (item_T (hl6.keeps kF.keep) v02 (by rw [hlen]; exact v12) (by omega) (fun x hx => ?_) (by with_unfolding_all rfl))
    obtain ⟨p, a, t, u, rfl, hT, hs⟩ := hall x (List.mem_of_getElem? hx)
    refine LCg.CompEnd.intro kF kN ((tp, lst #[Value.ref cl, Value.int (4 + (i : Int) + 1) ta2] n2) :: (fd, o) :: (sd, lst #[] 0) :: (lp, W.listOf #[Value.ref T1] 0) :: (T1, tup2 (.str (Str.ofString "word") s.toks) (.str nm tn)) :: fz) (fun p hp => hp) off trivial ⟨ta2, n2, ps ++ [p], ?_, by simp [hl], pairsIn_app (pairsIn_one (.inl hT)) hp, fun q hq => ?_⟩
    · rw [show (4 : Int) + (i : Int) + 1 = 4 + ((i + 1 : Nat) : Int) by omega]
    · rcases List.mem_append.mp hq with hq | hq
      · exact hno q hq
      · rw [List.mem_singleton.mp hq]; exact hs
  · exact ⟨ta', n', [], rfl, rfl, trivial, fun p hp => nomatch hp⟩
end
set_option maxHeartbeats 400000
local macro_rules | `(tactic| walk_at "call builtin:len") => zst
section
variable {w : World} {g : Heap} {L fa : Addr} {cd : Value} {mean : ExcName → Option Value} {mg mb : Str → Option Value} {s : Shared} {m : Str → Option Value} {Q : Flow → Shared → Prop} {E : Value → Shared → Prop} {news : List (Addr × Obj)}
theorem s_6 {st : Stmt} (hst : st = ls 6) {pl : Addr} {vs : List Value} {n1 : Nat} (B : Below callerA g [] g) (X : (KK w.params).In g) (T : Top vw lz mean mg mb g) (room : callerA.depth + 60 < recursionLimit)
    (hm : m (Str.ofString "pairs") = some (.ref pl)) (F : Fr g L s.heap m) (N : News g L s.heap news) (hp : (pl, lst (List.toArray vs) n1) ∈ news) (hz : vs.length ≤ 1000)
    (h : ∀ t m' h' tk', m' (Str.ofString "head") = some (.int (vs.length : Int) t) → (∀ y, y ≠ Str.ofString "head" → m' y = m y) → Fr g L h' m' → News g L h' news → Q .next { s with heap := h', toks := tk' }) :
    wpAny (model PG w) (LA L fa cd) (exec st (LE L fa cd)) Q (fun _ _ => False) s := by
  subst hst
  obtain ⟨m0, hm0⟩ := m_as hm
  subst hm0
  clear hm
  unfold LA LE
  rw [ls_of (by with_unfolding_all rfl) 6 (by with_unfolding_all rfl), sc_of (by with_unfolding_all rfl)]
  (try k_fold)
  k_steps
  (with_reducible rename Fr g _ _ _ => kF)
  (with_reducible rename News g _ _ _ => kN)
  refine Hold.mk (len_list (isl kN hp rfl) (by simp only [List.size_toArray]; omega) ?_)
  rw [List.size_toArray]
  k_steps
  (with_reducible rename Fr g _ _ _ => kF)
  (with_reducible rename News g _ _ _ => kN)
  exact h _ _ _ _ (if_pos rfl) (fun y hy => if_neg hy) kF kN
theorem s_7 {st : Stmt} (hst : st = ls 7) {tp cl D dD fd sd pl : Addr} {a : Int} {ta n n1 : Nat} {ed : List DictEntry} {o : Obj} {kvs : List (Str × Value)} {fz : List (Addr × Obj)} {vs : List Value} {ps : List (Str × Str)} (B : Below callerA g [] g) (X : (KK w.params).In g) (T : Top vw lz mean mg mb g) (room : callerA.depth + 60 < recursionLimit)
    (hm : m (Str.ofString "pairs") = some (.ref pl)) (F : Fr g L s.heap m) (N : News g L s.heap ((tp, lst #[.ref cl, .int a ta] n) :: (fd, o) :: (sd, lst #[] 0) :: fz)) (S : LFx w L tp cl D dD fd sd ed o kvs fz) (hp : (pl, lst (List.toArray vs) n1) ∈ fz) (hz : vs.length ≤ 900) (hps : PairsIn g fz vs ps)
    (h : ∀ tl pl2 vs2 fz' m' h' tk', m' (Str.ofString "pairs") = some (.ref pl2) → m' (Str.ofString "titles") = some (.ref tl) → (∀ y, y ≠ Str.ofString "pairs" → y ≠ Str.ofString "titles" → m' y = m y) → Fr g L h' m' → News g L h' ((tl, lst #[] 0) :: (tp, lst #[.ref cl, .int a ta] n) :: (fd, o) :: (sd, lst #[] 0) :: fz') → LFx w L tp cl D dD fd sd ed o kvs fz' → (∀ p ∈ fz, p ∈ fz') →
      (∀ p ∈ (tp, lst #[.ref cl, .int a ta] n) :: (fd, o) :: (sd, lst #[] 0) :: fz', p.1 < tl) → (pl2, lst (List.toArray vs2) 0) ∈ fz' → PairsIn g fz' vs2 (ps ++ [(("sign", ".") : Str × Str)]) → Q .next { s with heap := h', toks := tk' }) :
    wpAny (model PG w) (LA L fa cd) (exec st (LE L fa cd)) Q (fun _ _ => False) s := by
  subst hst
  obtain ⟨m0, hm0⟩ := m_as hm
  subst hm0
  clear hm
  unfold LA LE
  rw [ls_of (by with_unfolding_all rfl) 7 (by with_unfolding_all rfl), sc_of (by with_unfolding_all rfl)]
  (try k_fold)
  k_steps
  (with_reducible rename Fr g _ _ _ => kF)
  (with_reducible rename News g _ _ _ => kN)
  (rename (_ < _ ∧ _ < _ ∧ _ < _ ∧ _ < _ ∧ _) => l1)
  (rename (_ < _ ∧ _ < _ ∧ _ < _ ∧ AllLt _ _) => l0)
  rename_i T1 x1 lp x2
  refine Hold.mk (kmk_add_lit kF kN ⟨_, (kN _ (.tail _ (.tail _ (.tail _ (.tail _ (.tail _ hp)))))).1, rfl, _, rfl⟩ ⟨_, (kN (lp, _) (.head _)).1, rfl, _, rfl⟩ rfl (fun D3 h3 F3 N3 hlt => ?_) ?_)
  · clear kF kN
    k_steps
    (with_reducible rename Fr g _ _ _ => kF)
    (with_reducible rename News g _ _ _ => kN)
    rename_i tl y1 lt1 Dt y2 lt2 y3 y4 y5
    have mz : ∀ (q r p : Addr × Obj), p ∈ fz → p ∈ q :: r :: fz := fun q r p hp => .tail _ (.tail _ hp)
    refine h tl D3 (vs ++ [.ref T1]) ((D3, lst (vs ++ [Value.ref T1]).toArray 0) :: (T1, tup2 (.str (Str.ofString "sign") s.toks) (.str (Str.ofString ".") (s.toks + 1))) :: fz) _ _ _ rfl rfl (fun y h1 h2 => (if_neg h1).trans (if_neg h2)) kF
      (cb_drop kN (memCons (.tail _ (.head _)) (memCons (.tail _ (.tail _ (.tail _ (.tail _ (.tail _ (.head _)))))) (memCons (.tail _ (.tail _ (.tail _ (.tail _ (.tail _ (.tail _ (.head _))))))) (memCons (.tail _ (.tail _ (.tail _ (.tail _ (.tail _ (.tail _ (.tail _ (.head _)))))))) (memCons (.tail _ (.tail _ (.head _))) (memCons (.tail _ (.tail _ (.tail _ (.tail _ (.head _))))) (fun p hp => .tail _ (.tail _ (.tail _ (.tail _ (.tail _ (.tail _ (.tail _ (.tail _ hp)))))))))))))))
      (S.more (mz _ _) fun p hp => ?_) (mz _ _) (fun p hp => ?_) (.head _) (pairsIn_app (pairsIn_one (p := (("sign", ".") : Str × Str)) (.inr (.tail _ (.head _)))) (pairsIn_mono (mz _ _) hps))
    · rcases List.mem_cons.mp hp with rfl | hp
      · exact .inr ⟨Nat.ne_of_gt (hlt (tp, _) (.tail _ (.tail _ (.head _)))), Nat.ne_of_gt (hlt (fd, _) (.tail _ (.tail _ (.tail _ (.head _))))), Nat.ne_of_gt (hlt (sd, _) (.tail _ (.tail _ (.tail _ (.tail _ (.head _))))))⟩
      · rcases List.mem_cons.mp hp with rfl | hp
        · exact .inr ⟨Nat.ne_of_gt l0.1, Nat.ne_of_gt l0.2.1, Nat.ne_of_gt l0.2.2.1⟩
        · exact .inl hp
    · exact allLt_mem (l := (tp, lst #[.ref cl, .int a ta] n) :: (fd, o) :: (sd, lst #[] 0) :: (D3, lst (vs ++ [Value.ref T1]).toArray 0) :: (T1, tup2 (.str (Str.ofString "sign") s.toks) (.str (Str.ofString ".") (s.toks + 1))) :: fz) ⟨lt1.2.2.2.1, lt1.2.2.2.2.1, lt1.2.2.2.2.2.1, lt1.1, lt1.2.2.1, lt1.2.2.2.2.2.2⟩ p hp
  · rw [sizeLine_eq]
    simp only [List.length_cons, List.length_nil]
    omega
end
set_option maxHeartbeats 400000
section
variable {prog : Program} {w : World} {A : Around} {E : Value → Shared → Prop} {s : Shared} {env : Env} {h₀ : Heap} {x : Str} {body : List Stmt} {Q : Flow → Shared → Prop} {I : Addr} {a : Int} {n : Nat}
theorem unrPost_mono {L : Addr} {s₁ : Shared} {it : Obj} {r r' : (Str → Option Value) → List (Addr × Obj) → Prop} {f : Flow} {s₂ : Shared} (h : UnrPost h₀ L s₁ I it r Q f s₂) (k : ∀ m n, r m n → r' m n) : UnrPost h₀ L s₁ I it r' Q f s₂ := by
  cases f with
  | ret v => exact h
  | brk => exact h
  | next => exact let ⟨a, b, c, d, e, f, g, i, j⟩ := h; ⟨a, b, c, d, e, f, g, i, k _ _ j⟩
  | cont => exact let ⟨a, b, c, d, e, f, g, i, j⟩ := h; ⟨a, b, c, d, e, f, g, i, k _ _ j⟩
theorem range_ind (J : Nat → (Str → Option Value) → List (Addr × Obj) → Prop)
    (done : ∀ m news, J n m news → ∀ h tk, Fr h₀ env.locals h m → News h₀ env.locals h news → Q .next { s with heap := h, toks := tk })
    (turn : ∀ i t m news it h tk, i < n → J i m news → Fr h₀ env.locals h (fun y => if y = x then some (.int (a + (i : Int)) t) else m y) → News h₀ env.locals h ((I, it) :: news) →
      wpAny (model prog w) A (execs body env) (UnrPost h₀ env.locals { s with heap := h, toks := tk } I it (J (i + 1)) Q) E { s with heap := h, toks := tk }) :
    ∀ j i m news, i + j = n → J i m news → RangeRest prog w A E h₀ env x body Q s I a n j i m news := by
  intro j
  induction j with
  | zero =>
    intro i m news e hJ
    obtain rfl : i = n := by omega
    exact RangeRest.zero (done m news hJ)
  | succ j ih =>
    intro i m news e hJ
    refine RangeRest.succ fun t h tk F N => ?_
    exact wpAny_mono (turn i t m news _ h tk (by omega) hJ F N) (fun f s₂ p => unrPost_mono p fun m' n' z => ih (i + 1) m' n' (by omega) z) fun _ _ z => z
end
theorem rec7 {g h : Heap} {L l b0 b1 b2 b3 b4 b5 b6 : Addr} {u0 u1 u2 u3 u4 u5 u6 v0 v1 v2 v3 v4 v5 v6 : Tok} {y : Str} {rest : List (Addr × Obj)}
    (N : News g L h ((l, W.listOf #[.ref b0, .ref b1, .ref b2, .ref b3, .ref b4, .ref b5, .ref b6] 0) :: (b6, tup2 (.str (Str.ofString "sign") u6) (.str (Str.ofString ".") v6)) :: (b5, tup2 (.str (Str.ofString "word") u5) (.str (Str.ofString "BINARY") v5)) :: (b4, tup2 (.str (Str.ofString "word") u4) (.str (Str.ofString "A") v4)) :: (b3, tup2 (.str (Str.ofString "number") u3) (.str (Str.ofString "05") v3)) :: (b2, tup2 (.str (Str.ofString "sign") u2) (.str (Str.ofString ".") v2)) :: (b1, tup2 (.str (Str.ofString "word") u1) (.str y v1)) :: (b0, tup2 (.str (Str.ofString "number") u0) (.str (Str.ofString "01") v0)) :: rest))
    (c1 : b0 < b1) (c2 : b1 < b2) (c3 : b2 < b3) (c4 : b3 < b4) (c5 : b4 < b5) (c6 : b5 < b6) :
    ∃ (N7 : List (Addr × Obj)) (ys : List Value), [.ref b0, .ref b1, .ref b2, .ref b3, .ref b4, .ref b5, .ref b6] = ys ∧ News g L h (N7 ++ rest) ∧ (∀ z : Nat, z < b0 → ∀ p ∈ N7, p.1 ≠ z) ∧ PairsIn g N7 ys (recs [y]) := by
  refine ⟨(b6, tup2 (.str (Str.ofString "sign") u6) (.str (Str.ofString ".") v6)) :: (b5, tup2 (.str (Str.ofString "word") u5) (.str (Str.ofString "BINARY") v5)) :: (b4, tup2 (.str (Str.ofString "word") u4) (.str (Str.ofString "A") v4)) :: (b3, tup2 (.str (Str.ofString "number") u3) (.str (Str.ofString "05") v3)) :: (b2, tup2 (.str (Str.ofString "sign") u2) (.str (Str.ofString ".") v2)) :: (b1, tup2 (.str (Str.ofString "word") u1) (.str y v1)) :: (b0, tup2 (.str (Str.ofString "number") u0) (.str (Str.ofString "01") v0)) :: [], _, rfl,
    fun p hp => N p (.tail _ hp), fun z hz p hp => Nat.ne_of_gt (Nat.lt_of_lt_of_le hz (?_ : b0 ≤ p.1)), ⟨b0, u0, v0, rfl, .inr ?_⟩, ⟨b1, u1, v1, rfl, .inr ?_⟩, ⟨b2, u2, v2, rfl, .inr ?_⟩, ⟨b3, u3, v3, rfl, .inr ?_⟩, ⟨b4, u4, v4, rfl, .inr ?_⟩, ⟨b5, u5, v5, rfl, .inr ?_⟩, ⟨b6, u6, v6, rfl, .inr ?_⟩, trivial⟩
  · have d1 := Nat.le_of_lt c1
    have d2 := Nat.le_trans d1 (Nat.le_of_lt c2)
    have d3 := Nat.le_trans d2 (Nat.le_of_lt c3)
    have d4 := Nat.le_trans d3 (Nat.le_of_lt c4)
    have d5 := Nat.le_trans d4 (Nat.le_of_lt c5)
    have d6 := Nat.le_trans d5 (Nat.le_of_lt c6)
    simp only [List.mem_cons, List.not_mem_nil, or_false] at hp
    rcases hp with rfl | rfl | rfl | rfl | rfl | rfl | rfl
    · exact d6
    · exact d5
    · exact d4
    · exact d3
    · exact d2
    · exact d1
    · exact Nat.le_refl _
  all_goals repeat (first | exact .head _ | refine .tail _ ?_)
theorem recs_snoc (y : Str) : ∀ l : List Str, recs (l ++ [y]) = recs l ++ recs [y]
  | [] => rfl
  | a :: r => by simp only [List.cons_append, recs, recs_snoc y r]
local macro_rules | `(tactic| walk_at "call builtin:list.append") => zst
local macro_rules | `(tactic| walk_at "call type:range") => zst
section
variable {w : World} {g : Heap} {L fa : Addr} {cd : Value} {mean : ExcName → Option Value} {mg mb : Str → Option Value} {s : Shared} {m : Str → Option Value} {Q : Flow → Shared → Prop}
theorem s_8 {st : Stmt} (hst : st = ls 8) {tp cl D dD fd sd tl pl : Addr} {a : Int} {ta n : Nat} {ed : List DictEntry} {o : Obj} {kvs : List (Str × Value)} {fz : List (Addr × Obj)} {vs : List Value} {ps : List (Str × Str)} (B : Below callerA g [] g) (X : (KK w.params).In g) (T : Top vw lz mean mg mb g) (room : callerA.depth + 60 < recursionLimit)
    (hm : m (Str.ofString "pairs") = some (.ref pl)) (hm2 : m (Str.ofString "titles") = some (.ref tl)) (F : Fr g L s.heap m) (N : News g L s.heap ((tl, lst #[] 0) :: (tp, lst #[.ref cl, .int a ta] n) :: (fd, o) :: (sd, lst #[] 0) :: fz)) (S : LFx w L tp cl D dD fd sd ed o kvs fz) (ha : 0 ≤ a) (ha2 : a ≤ 8)
    (htl : ∀ p ∈ (tp, lst #[.ref cl, .int a ta] n) :: (fd, o) :: (sd, lst #[] 0) :: fz, p.1 < tl) (hp : (pl, lst (List.toArray vs) 0) ∈ fz) (hz : ps.length ≤ 100) (hps : PairsIn g fz vs ps)
    (h : ∀ k tvs pl' vs' a' ta' n' n2 fz' m' h' tk', k ≤ 2 → m' (Str.ofString "pairs") = some (.ref pl') → m' (Str.ofString "titles") = some (.ref tl) → (∀ y, y ≠ Str.ofString "pairs" → y ≠ Str.ofString "spot" → m' y = m y) → 0 ≤ a' → a' ≤ 9 → Fr g L h' m' → News g L h' ((tp, lst #[.ref cl, .int a' ta'] n') :: (fd, o) :: (sd, lst #[] 0) :: fz') → LFx w L tp cl D dD fd sd ed o kvs fz' → (∀ p ∈ fz, p ∈ fz') →
      (pl', lst (List.toArray vs') 0) ∈ fz' → PairsIn g fz' vs' (ps ++ recs ((["R0", "R1"] : List Str).take k)) → (tl, lst (List.toArray tvs) n2) ∈ fz' → StrsOf tvs ((["R0", "R1"] : List Str).take k) → Q .next { s with heap := h', toks := tk' }) :
    wpAny (model PG w) (LA L fa cd) (exec st (LE L fa cd)) Q (fun _ _ => False) s := by
  subst hst
  obtain ⟨TT, hD, hdD, hed, lo, ho, off1, off2, off3, ap1, ap2, ap3⟩ := id S
  obtain ⟨oc, hcell, d1⟩ := TT.cell
  unfold LA LE
  rw [ls_of (by with_unfolding_all rfl) 8 (by with_unfolding_all rfl), sc_of (by with_unfolding_all rfl)]
  (try k_fold)
  refine For_invVF F (by rfl) (by rfl) ?_
  k_steps
  refine Hold.mk (draw_T (by walk_at "M cx") (by k_mem) TT (fun p hp => by k_mem) (by omega) (by omega) (by decide) (by decide) ?_)
  intro v tv ta' n' h' tk' v0 v1 F' hN
  have N' := hN _ (.tail (Nat.ne_of_gt (htl (tp, _) (.head _))) (upd_tape ap1 ap2 off1))
  clear hN
  obtain ⟨k, rfl⟩ : ∃ k : Nat, v = (k : Int) := ⟨v.toNat, by omega⟩
  have hk : k ≤ 2 := by omega
  (try k_sweep)
  k_steps
  (with_reducible rename Fr g _ _ _ => kF2)
  (with_reducible rename News g _ _ _ => kN2)
  refine Hold.mk (call_range_1 ?_)
  refine iter_rangeUnr (n := k) (by rfl) (IsRange.new ..) (small_one (by decide) (by decide) (by omega) (by omega)) (by rw [rangeSize_one]; split <;> omega) (kF2.push _) (kN2.grown fun _ _ e => Heap.get?_push_of_some _ e) (fun I hI => ?_)
  clear kF2 kN2
  refine range_ind (fun i m' news => ∃ tvs pl' vs' fz', news = (tl, lst (List.toArray tvs) i) :: (tp, lst #[.ref cl, .int (a + 1) ta'] n') :: (fd, o) :: (sd, lst #[] 0) :: fz' ∧ LFx w L tp cl D dD fd sd ed o kvs fz' ∧ (∀ p ∈ fz, p ∈ fz') ∧ (pl', lst (List.toArray vs') 0) ∈ fz' ∧ PairsIn g fz' vs' (ps ++ recs ((["R0", "R1"] : List Str).take i)) ∧ StrsOf tvs ((["R0", "R1"] : List Str).take i) ∧
      (∀ p ∈ fz', p.1 ≠ I ∧ p.1 ≠ tl) ∧ m' (Str.ofString "pairs") = some (.ref pl') ∧ m' (Str.ofString "titles") = some (.ref tl) ∧ ∀ y, y ≠ Str.ofString "pairs" → y ≠ Str.ofString "spot" → m' y = m y)
    (fun m news hJ hh tk F N => ?_) (fun i t m news it h tk hi hJ F N => ?_) _ 0 _ _ (Nat.zero_add _) ?_
  · obtain ⟨tvs, pl', vs', fz', rfl, S', hsub, hp', hps', hst, hI', hm1, hm2, hmo⟩ := hJ
    have mz : ∀ (q p : Addr × Obj), p ∈ fz' → p ∈ q :: fz' := fun q p hp => .tail _ hp
    refine h k tvs pl' vs' (a + 1) ta' n' k ((tl, lst (List.toArray tvs) k) :: fz') _ _ _ hk hm1 hm2 hmo (by omega) (by omega) F (cb_drop N (memCons (.tail _ (.head _)) (memCons (.tail _ (.tail _ (.head _))) (memCons (.tail _ (.tail _ (.tail _ (.head _)))) (memCons (.head _) (fun p hp => .tail _ (.tail _ (.tail _ (.tail _ hp)))))))))
      (S'.more (mz _) fun p hp => ?_) (fun p hp => mz _ p (hsub p hp)) (mz _ _ hp') (pairsIn_mono (mz _) hps') (.head _) hst
    rcases List.mem_cons.mp hp with rfl | hp
    · exact .inr ⟨Nat.ne_of_gt (htl (tp, _) (.head _)), Nat.ne_of_gt (htl (fd, _) (.tail _ (.head _))), Nat.ne_of_gt (htl (sd, _) (.tail _ (.tail _ (.head _))))⟩
    · exact .inl hp
  · obtain ⟨tvs, pl', vs', fz', rfl, S', hsub, hp', hps', hst, hI', hm1, hm2, hmo⟩ := hJ
    obtain ⟨TT, hD, hdD, hed, lo, ho, off1, off2, off3, ap1, ap2, ap3⟩ := id S'
    obtain ⟨m0, hm0⟩ := m_as hm1
    subst hm0
    have hm2' : m0 (Str.ofString "titles") = some (.ref tl) := hm2
    obtain ⟨m1, hm1'⟩ := m_as hm2'
    subst hm1'
    (try dsimp only at F)
    have I0 : tl < I := hI (tl, _) (.head _)
    have t1 : tp < tl := htl (tp, _) (.head _)
    have t2 : fd < tl := htl (fd, _) (.tail _ (.head _))
    have t3 : sd < tl := htl (sd, _) (.tail _ (.tail _ (.head _)))
    have htv : tvs.length ≤ 10 := by
      obtain ⟨l, rfl, e⟩ := hst
      have := congrArg List.length e
      simp only [List.length_map, List.length_take, List.length_cons, List.length_nil] at this
      simp only [strValues, List.length_map]
      omega
    k_steps
    (with_reducible rename Fr g _ _ _ => kF)
    (with_reducible rename News g _ _ _ => kN)
    have U : ∀ o1 o2, Upd tl o1 o2 ((I, it) :: (tl, o1) :: (tp, lst #[.ref cl, .int (a + 1) ta'] n') :: (fd, o) :: (sd, lst #[] 0) :: fz') ((I, it) :: (tl, o2) :: (tp, lst #[.ref cl, .int (a + 1) ta'] n') :: (fd, o) :: (sd, lst #[] 0) :: fz') := fun o1 o2 =>
      .tail (Nat.ne_of_gt I0) (.head (List.forall_mem_cons.mpr ⟨Nat.ne_of_lt t1, List.forall_mem_cons.mpr ⟨Nat.ne_of_lt t2, List.forall_mem_cons.mpr ⟨Nat.ne_of_lt t3, fun p hp => (hI' p hp).2⟩⟩⟩))
    refine Hold.mk (append_K kF kN (U _ _) (fun h3 F3 N3 => ?_) (size_line (by simp only [List.size_toArray]; omega)))
    clear kF kN
    k_steps
    (with_reducible rename Fr g _ _ _ => kF)
    (with_reducible rename News g _ _ _ => kN)
    (rename (_ < _ ∧ _ < _ ∧ _ < _ ∧ _ < _ ∧ _ < _ ∧ AllLt _ _) => q0)
    (rename (_ < _ ∧ _ < _ ∧ _ < _ ∧ _ < _ ∧ _ < _ ∧ _ < _ ∧ AllLt _ _) => q1)
    (rename (_ < _ ∧ _ < _ ∧ _ < _ ∧ _ < _ ∧ _ < _ ∧ _ < _ ∧ _ < _ ∧ AllLt _ _) => q2)
    (rename (_ < _ ∧ _ < _ ∧ _ < _ ∧ _ < _ ∧ _ < _ ∧ _ < _ ∧ _ < _ ∧ _ < _ ∧ AllLt _ _) => q3)
    (rename (_ < _ ∧ _ < _ ∧ _ < _ ∧ _ < _ ∧ _ < _ ∧ _ < _ ∧ _ < _ ∧ _ < _ ∧ _ < _ ∧ AllLt _ _) => q4)
    (rename (_ < _ ∧ _ < _ ∧ _ < _ ∧ _ < _ ∧ _ < _ ∧ _ < _ ∧ _ < _ ∧ _ < _ ∧ _ < _ ∧ _ < _ ∧ AllLt _ _) => q5)
    (rename (_ < _ ∧ _ < _ ∧ _ < _ ∧ _ < _ ∧ _ < _ ∧ _ < _ ∧ _ < _ ∧ _ < _ ∧ _ < _ ∧ _ < _ ∧ _ < _ ∧ AllLt _ _) => q6)
    refine Hold.mk (kmk_add_lit kF kN ⟨_, (kN _ (.tail _ (.tail _ (.tail _ (.tail _ (.tail _ (.tail _ (.tail _ (.tail _ (.tail _ (.tail _ (.tail _ (.tail _ (.tail _ hp')))))))))))))).1, rfl, _, rfl⟩ ⟨_, (kN _ (.head _)).1, rfl, _, rfl⟩ rfl (fun D3 h4 F4 N4 hlt => ?_) ?_)
    · clear kF kN
      have d3 : I < D3 := hlt (I, it) (.tail _ (.tail _ (.tail _ (.tail _ (.tail _ (.tail _ (.tail _ (.tail _ (.head _)))))))))
      k_steps
      (with_reducible rename Fr g _ _ _ => kF)
      (with_reducible rename News g _ _ _ => kN)
      obtain ⟨N7, ys, hys, NN, o7, hpr⟩ := rec7 (cb_drop kN fun p hp => .tail _ hp) q1.1 q2.1 q3.1 q4.1 q5.1 q6.1
      have hy : (["R0", "R1"] : List Str)[i]? = some (Str.ofString "R" ++ Str.ofString (toString ((0 : Int) + (i : Int)))) := by
        have : i = 0 ∨ i = 1 := by omega
        rcases this with rfl | rfl
        · decide +kernel
        · decide +kernel
      generalize Str.ofString "R" ++ Str.ofString (toString ((0 : Int) + (i : Int))) = y at hpr NN hy
      simp only [List.push_toArray] at NN
      (with_reducible rename Heap => h9)
      have N1 : News g L h9 [(D3, lst (vs' ++ ys).toArray 0)] := by
        rw [← hys]
        exact cb_drop kN (memCons (.head _) memNil)
      have NA := news_app N1 NN
      have r7 : ∀ (p : Addr × Obj), p ∈ fz' → p ∈ (D3, lst (vs' ++ ys).toArray 0) :: (N7 ++ fz') := fun p hp => .tail _ (List.mem_append_right _ hp)
      refine ⟨_, _, _, (tl, lst (tvs ++ [Value.str y _]).toArray (i + 1)) :: (tp, lst #[.ref cl, .int (a + 1) ta'] n') :: (fd, o) :: (sd, lst #[] 0) :: (D3, lst (vs' ++ ys).toArray 0) :: (N7 ++ fz'), rfl, kF,
        cb_drop NA (memCons (List.mem_append_right _ (List.mem_append_right _ (.head _))) (memCons (List.mem_append_right _ (List.mem_append_right _ (.tail _ (.head _)))) (memCons (List.mem_append_right _ (List.mem_append_right _ (.tail _ (.tail _ (.head _))))) (memCons (List.mem_append_right _ (List.mem_append_right _ (.tail _ (.tail _ (.tail _ (.head _)))))) (memCons (List.mem_append_right _ (List.mem_append_right _ (.tail _ (.tail _ (.tail _ (.tail _ (.head _))))))) (memCons (List.mem_append_left _ (.head _)) (fun p hp => List.mem_append_right _ ((List.mem_append.mp hp).elim (fun hp => List.mem_append_left _ hp) fun hp => List.mem_append_right _ (.tail _ (.tail _ (.tail _ (.tail _ (.tail _ (hp)))))))))))))), ?_,
        tvs ++ [Value.str y _], D3, vs' ++ ys, (D3, lst (vs' ++ ys).toArray 0) :: (N7 ++ fz'), rfl, S'.more r7 ?_, fun p hp => r7 p (hsub p hp), .head _, ?_, ?_, ?_, rfl, rfl, ?_⟩
      · intro p hp
        rcases List.mem_cons.mp hp with rfl | hp
        · exact Nat.ne_of_lt I0
        · rcases List.mem_cons.mp hp with rfl | hp
          · exact Nat.ne_of_lt (Nat.lt_trans t1 I0)
          · rcases List.mem_cons.mp hp with rfl | hp
            · exact Nat.ne_of_lt (Nat.lt_trans t2 I0)
            · rcases List.mem_cons.mp hp with rfl | hp
              · exact Nat.ne_of_lt (Nat.lt_trans t3 I0)
              · rcases List.mem_cons.mp hp with rfl | hp
                · exact Nat.ne_of_gt d3
                · exact (List.mem_append.mp hp).elim (o7 _ q0.1 p) fun hp => (hI' p hp).1
      · intro p hp
        rcases List.mem_cons.mp hp with rfl | hp
        · exact .inr ⟨Nat.ne_of_gt (Nat.lt_trans (Nat.lt_trans t1 I0) d3), Nat.ne_of_gt (Nat.lt_trans (Nat.lt_trans t2 I0) d3), Nat.ne_of_gt (Nat.lt_trans (Nat.lt_trans t3 I0) d3)⟩
        · rcases List.mem_append.mp hp with hp | hp
          · exact .inr ⟨o7 _ q0.2.2.1 p hp, o7 _ q0.2.2.2.1 p hp, o7 _ q0.2.2.2.2.1 p hp⟩
          · exact .inl hp
      · rw [take_snoc hy, recs_snoc, ← List.append_assoc]
        exact pairsIn_app (pairsIn_mono (fun p hp => .tail _ (List.mem_append_left _ hp)) hpr) (pairsIn_mono r7 hps')
      · rw [take_snoc hy]
        exact strsOf_snoc hst
      · intro p hp
        rcases List.mem_cons.mp hp with rfl | hp
        · exact ⟨Nat.ne_of_gt d3, Nat.ne_of_gt (Nat.lt_trans I0 d3)⟩
        · rcases List.mem_append.mp hp with hp | hp
          · exact ⟨o7 _ q0.1 p hp, o7 _ q0.2.1 p hp⟩
          · exact hI' p hp
      · intro y h1 h2
        exact ((if_neg h1).trans (if_neg h2)).trans (hmo y h1 h2)
    · rw [sizeLine_eq]
      have := pairsIn_len hps'
      rw [List.length_append, recs_len, List.length_take] at this
      simp only [List.length_cons, List.length_nil] at this ⊢
      show vs'.length + 7 ≤ _
      omega
  · exact ⟨[], pl, vs, fz, rfl, S, fun p hp => hp, hp, by rw [List.take_zero]; simpa [recs] using hps, ⟨[], rfl, rfl⟩, fun p hp => ⟨Nat.ne_of_lt (hI p (.tail _ (.tail _ (.tail _ (.tail _ hp))))), Nat.ne_of_lt (htl p (.tail _ (.tail _ (.tail _ hp))))⟩, hm, hm2, fun y _ _ => rfl⟩
end
set_option maxHeartbeats 400000
section
variable {w : World} {g : Heap} {L fa : Addr} {cd : Value} {mean : ExcName → Option Value} {mg mb : Str → Option Value} {s : Shared} {m : Str → Option Value} {Q : Flow → Shared → Prop}
theorem pick3 {b0 b1 b2 : Addr} {x : Addr × Obj} {t0 t1 t2 u0 u1 u2 : Tok} {z0 z1 z2 k : Str} {v : Value} {i : Nat} {r : List (Addr × Obj)} {P : Nat → Prop} (hv : ([.ref b0, .ref b1, .ref b2] : List Value)[i]? = some v) (h0 : ∀ z, P z → z < b0) (h1 : ∀ z, P z → z < b1) (h2 : ∀ z, P z → z < b2) :
    ∃ b z t u, v = .ref b ∧ (∀ z, P z → z < b) ∧ (b, tup2 (.str k t) (.str z u)) ∈ x :: (b2, tup2 (.str k t2) (.str z2 u2)) :: (b1, tup2 (.str k t1) (.str z1 u1)) :: (b0, tup2 (.str k t0) (.str z0 u0)) :: r := by
  have hm := List.mem_of_getElem? hv
  simp only [List.mem_cons, List.not_mem_nil, or_false] at hm
  rcases hm with rfl | rfl | rfl
  · exact ⟨b0, z0, t0, u0, rfl, h0, .tail _ (.tail _ (.tail _ (.head _)))⟩
  · exact ⟨b1, z1, t1, u1, rfl, h1, .tail _ (.tail _ (.head _))⟩
  · exact ⟨b2, z2, t2, u2, rfl, h2, .tail _ (.head _)⟩
theorem s_9 {st : Stmt} (hst : st = ls 9) {tp cl D dD fd sd : Addr} {a : Int} {ta n : Nat} {ed : List DictEntry} {o : Obj} {kvs : List (Str × Value)} {fz : List (Addr × Obj)} (B : Below callerA g [] g) (X : (KK w.params).In g) (T : Top vw lz mean mg mb g) (room : callerA.depth + 60 < recursionLimit)
    (F : Fr g L s.heap m) (N : News g L s.heap ((tp, lst #[.ref cl, .int a ta] n) :: (fd, o) :: (sd, lst #[] 0) :: fz)) (S : LFx w L tp cl D dD fd sd ed o kvs fz) (ha : 0 ≤ a) (ha2 : a ≤ 9)
    (h : ∀ b z t u ta' n' fz' m' h' tk', m' (Str.ofString "behind") = some (.ref b) → (∀ y, y ≠ Str.ofString "behind" → m' y = m y) → Fr g L h' m' → News g L h' ((tp, lst #[.ref cl, .int (a + 1) ta'] n') :: (fd, o) :: (sd, lst #[] 0) :: fz') → LFx w L tp cl D dD fd sd ed o kvs fz' → (∀ p ∈ fz, p ∈ fz') →
      (b, tup2 (.str (Str.ofString "word") t) (.str z u)) ∈ fz' → Q .next { s with heap := h', toks := tk' }) :
    wpAny (model PG w) (LA L fa cd) (exec st (LE L fa cd)) Q (fun _ _ => False) s := by
  subst hst
  obtain ⟨TT, hD, hdD, hed, lo, ho, off1, off2, off3, ap1, ap2, ap3⟩ := id S
  obtain ⟨oc, hcell, d1⟩ := TT.cell
  unfold LA LE
  rw [ls_of (by with_unfolding_all rfl) 9 (by with_unfolding_all rfl), sc_of (by with_unfolding_all rfl)]
  (try k_fold)
  k_steps
  (rename (_ < _ ∧ _ < _ ∧ _ < _ ∧ AllLt _ _) => q0)
  (rename (_ < _ ∧ _ < _ ∧ _ < _ ∧ _ < _ ∧ AllLt _ _) => q1)
  (rename (_ < _ ∧ _ < _ ∧ _ < _ ∧ _ < _ ∧ _ < _ ∧ AllLt _ _) => q2)
  (rename (_ < _ ∧ _ < _ ∧ _ < _ ∧ _ < _ ∧ _ < _ ∧ _ < _ ∧ AllLt _ _) => q3)
  refine Hold.mk (draw_T (by walk_at "M cx") (by k_mem) TT (fun p hp => by k_mem) ha (by omega) (by decide) (by decide) ?_)
  intro v tv ta' n' h' tk' v0 v1 F' hN
  have N' := hN _ (.tail (Nat.ne_of_gt q3.2.2.2.1) (.tail (Nat.ne_of_gt q2.2.2.1) (.tail (Nat.ne_of_gt q1.2.1) (.tail (Nat.ne_of_gt q0.1) (upd_tape ap1 ap2 off1)))))
  clear hN
  (try k_sweep)
  k_steps
  (with_reducible rename Fr g _ _ _ => kF)
  (with_reducible rename News g _ _ _ => kN)
  refine Hold.mk (item_T (l := [.ref _, .ref _, .ref _]) ⟨_, (kN _ (.head _)).1, rfl, _, rfl⟩ v0 v1 (by show 3 ≤ 1000; decide) (fun x hx => ?_) (by with_unfolding_all rfl))
  obtain ⟨b, z, t, u, rfl, hb, hm⟩ := pick3 (P := fun z => z = tp ∨ z = fd ∨ z = sd) hx (fun z hz => hz.elim (fun e => by rw [e]; exact q0.1) fun hz => hz.elim (fun e => by rw [e]; exact q0.2.1) fun e => by rw [e]; exact q0.2.2.1) (fun z hz => hz.elim (fun e => by rw [e]; exact q1.2.1) fun hz => hz.elim (fun e => by rw [e]; exact q1.2.2.1) fun e => by rw [e]; exact q1.2.2.2.1) (fun z hz => hz.elim (fun e => by rw [e]; exact q2.2.2.1) fun hz => hz.elim (fun e => by rw [e]; exact q2.2.2.2.1) fun e => by rw [e]; exact q2.2.2.2.2.1)
  have kN2 := cb_drop kN (memCons hm (fun p hp => .tail _ (.tail _ (.tail _ (.tail _ hp)))))
  clear kN hm hx
  k_steps
  (with_reducible rename Fr g _ _ _ => kF)
  (with_reducible rename News g _ _ _ => kN)
  refine h b z t u ta' n' ((b, tup2 (.str (Str.ofString "word") t) (.str z u)) :: fz) _ _ _ (if_pos rfl) (fun y hy => if_neg hy) kF (cb_drop kN (memCons (.tail _ (.head _)) (memCons (.tail _ (.tail _ (.head _))) (memCons (.tail _ (.tail _ (.tail _ (.head _)))) (memCons (.head _) (fun p hp => .tail _ (.tail _ (.tail _ (.tail _ hp))))))))) (S.more (fun p hp => .tail _ hp) fun p hp => ?_) (fun p hp => .tail _ hp) (.head _)
  rcases List.mem_cons.mp hp with rfl | hp
  · exact .inr ⟨Nat.ne_of_gt (hb tp (.inl rfl)), Nat.ne_of_gt (hb fd (.inr (.inl rfl))), Nat.ne_of_gt (hb sd (.inr (.inr rfl)))⟩
  · exact .inl hp
end
set_option maxHeartbeats 400000
abbrev sD (ss : List Str) : PyData := .list (ss.map .str)
abbrev fD (fs : List (Str × List Str)) : PyData := .list (fs.map fun f => .tuple [.str f.1, sD f.2])
abbrev SD (fs : List (Str × List Str)) (ss : List Str) : PyData := .tuple [fD fs, sD ss]
theorem same_strs : ∀ ss : List Str, PySem.Spec.sameAll (ss.map PyData.str) (ss.map PyData.str) = true
  | [] => by simp [PySem.Spec.sameAll]
  | a :: r => by simp [PySem.Spec.sameAll, PySem.Spec.same, same_strs r]
theorem noMix_strs : ∀ ss : List Str, PySem.SeqAt.noMixAll (ss.map PyData.str) (ss.map PyData.str) = true
  | [] => by simp [PySem.SeqAt.noMixAll]
  | a :: r => by simp [PySem.SeqAt.noMixAll, PySem.SeqAt.noMix, noMix_strs r]
theorem can_strs : ∀ {ss : List Str}, (∀ x ∈ ss, PyData.strOk x = true) → PyData.canLayAll0 (ss.map PyData.str) = true
  | [], _ => by simp [PyData.canLayAll0]
  | a :: r, h => by simp [PyData.canLayAll0, PyData.canLay0, h a (.head _), can_strs fun x hx => h x (.tail _ hx)]
theorem dep_strs : ∀ ss : List Str, PyData.depthAll (ss.map PyData.str) ≤ 1
  | [] => by simp [PyData.depthAll]
  | a :: r => by
    have := dep_strs r
    simp only [List.map_cons, PyData.depthAll, PyData.depth]
    omega
theorem same_fs : ∀ fs : List (Str × List Str), PySem.Spec.sameAll (fs.map fun f => PyData.tuple [.str f.1, sD f.2]) (fs.map fun f => PyData.tuple [.str f.1, sD f.2]) = true
  | [] => by simp [PySem.Spec.sameAll]
  | a :: r => by simp [PySem.Spec.sameAll, PySem.Spec.same, same_strs, same_fs r]
theorem noMix_fs : ∀ fs : List (Str × List Str), PySem.SeqAt.noMixAll (fs.map fun f => PyData.tuple [.str f.1, sD f.2]) (fs.map fun f => PyData.tuple [.str f.1, sD f.2]) = true
  | [] => by simp [PySem.SeqAt.noMixAll]
  | a :: r => by simp [PySem.SeqAt.noMixAll, PySem.SeqAt.noMix, noMix_strs, noMix_fs r]
theorem can_fs : ∀ {fs : List (Str × List Str)}, FsOk fs → PyData.canLayAll0 (fs.map fun f => PyData.tuple [.str f.1, sD f.2]) = true
  | [], _ => by simp [PyData.canLayAll0]
  | a :: r, h => by simp [PyData.canLayAll0, PyData.canLay0, (h a (.head _)).1, can_strs (h a (.head _)).2, can_fs fun f hf => h f (.tail _ hf)]
theorem dep_fs : ∀ fs : List (Str × List Str), PyData.depthAll (fs.map fun f => PyData.tuple [.str f.1, sD f.2]) ≤ 4
  | [] => by simp [PyData.depthAll]
  | a :: r => by
    have := dep_fs r
    have := dep_strs a.2
    simp only [List.map_cons, PyData.depthAll, PyData.depth]
    omega
theorem SD_facts {fs : List (Str × List Str)} {ss : List Str} (hf : FsOk fs) (hs : ∀ x ∈ ss, PyData.strOk x = true) : PySem.SeqAt.shaped (SD fs ss) = true ∧ PySem.SeqAt.noMix (SD fs ss) (SD fs ss) = true ∧ PySem.Spec.same (SD fs ss) (SD fs ss) = true := by
  refine ⟨?_, ?_, ?_⟩
  · have h1 := dep_fs fs
    have h2 := dep_strs ss
    show (PyData.canLay0 (SD fs ss) && decide (PyData.depth (SD fs ss) ≤ 64)) = true
    rw [Bool.and_eq_true]
    refine ⟨by simp [PyData.canLay0, PyData.canLayAll0, can_strs hs, can_fs hf], decide_eq_true ?_⟩
    simp only [PyData.depth, PyData.depthAll]
    omega
  · simp [PySem.SeqAt.noMix, PySem.SeqAt.noMixAll, noMix_strs, noMix_fs]
  · simp [PySem.Spec.same, PySem.Spec.sameAll, same_strs, same_fs]
theorem reads_strs {h : Heap} : ∀ {xs : List Value} {ss : List Str}, StrsOf xs ss → ReadsAll h xs (ss.map PyData.str) []
  | _, _, ⟨[], rfl, rfl⟩ => .nil
  | _, _, ⟨(x, t) :: r, rfl, rfl⟩ => by
    have := ReadsAll.cons (Reads.str (h := h) x t) (reads_strs (h := h) (xs := strValues r) (ss := r.map (·.1)) ⟨r, rfl, rfl⟩)
    simpa [strValues] using this
theorem reads_seen {h₀ h : Heap} {L : Addr} {nw : List (Addr × Obj)} (N : News h₀ L h nw) : ∀ {ys : List Value} {fs : List (Str × List Str)}, SeenL nw ys fs → ∃ as, ReadsAll h ys (fs.map fun f => PyData.tuple [.str f.1, sD f.2]) as
  | [], [], _ => ⟨[], .nil⟩
  | y :: ys, f :: fs, ⟨⟨T, li, t, xs, n, e, h1, h2, h3⟩, r⟩ => by
    obtain ⟨as, ih⟩ := reads_seen N r
    subst e
    have hl : Reads h (.ref li) (sD f.2) [li] := Reads.list (N _ h2).1 rfl rfl (by simpa using reads_strs h3)
    have ht := ReadsAll.cons (Reads.str (h := h) f.1 t) (ReadsAll.cons hl .nil)
    exact ⟨_, ReadsAll.cons (Reads.tuple (N _ h1).1 rfl rfl (by simpa using ht)) ih⟩
  | [], _ :: _, h => h.elim
  | _ :: _, [], h => h.elim
theorem reads_SD {h₀ h : Heap} {L t : Addr} {nw : List (Addr × Obj)} {fl sl : Addr} {fs : List (Str × List Str)} {ss : List Str} (N : News h₀ L h nw) (S : SeenAt nw fl sl fs ss) (ht : (t, tup2 (.ref fl) (.ref sl)) ∈ nw) : ∃ as, Reads h (.ref t) (SD fs ss) as := by
  obtain ⟨⟨ys, n, a, b⟩, xs, n', c, d⟩ := S
  obtain ⟨as, hr⟩ := reads_seen N b
  have h1 : Reads h (.ref fl) (fD fs) (fl :: as) := Reads.list (N _ a).1 rfl rfl (by simpa using hr)
  have h2 : Reads h (.ref sl) (sD ss) [sl] := Reads.list (N _ c).1 rfl rfl (by simpa using reads_strs d)
  exact ⟨_, Reads.tuple (N _ ht).1 rfl rfl (by simpa using ReadsAll.cons h1 (ReadsAll.cons h2 .nil))⟩
section
variable {prog : Program} {w : World} {A : Around} {E : Value → Shared → Prop} {s : Shared} {h₀ : Heap} {L : Addr} {m : Str → Option Value} {nw : List (Addr × Obj)} {Q : Value → Shared → Prop}
theorem ne_same {a b : Value} {d : PyData} {as bs : List Addr} (ra : Reads s.heap a d as) (rb : Reads s.heap b d bs) (hs : PySem.SeqAt.shaped d = true) (hm : PySem.SeqAt.noMix d d = true) (he : PySem.Spec.same d d = true) (hu : A.units + 64 < cLine) (h : Q (.bool false) s) :
    wpAny (model prog w) A (compareOp .NotEq a b) Q E s := ne_dataH_same ra rb hs hs hu hm (by rw [he]; exact h)
theorem eq_same {a b : Value} {d : PyData} {as bs : List Addr} (ra : Reads s.heap a d as) (rb : Reads s.heap b d bs) (hs : PySem.SeqAt.shaped d = true) (hm : PySem.SeqAt.noMix d d = true) (he : PySem.Spec.same d d = true) (hu : A.units + 64 < cLine) (h : Q (.bool true) s) :
    wpAny (model prog w) A (compareOp .Eq a b) Q E s := eq_dataH_same ra rb hs hs hu hm (by rw [he]; exact h)
theorem reads_si {h : Heap} {x : Str} {i : Int} {k1 k2 : Tok} {t : Addr} (N : News h₀ L h nw) (ht : (t, tup2 (.str x k1) (.int i k2)) ∈ nw) : ∃ as, Reads h (.ref t) (.tuple [.str x, .int i]) as :=
  ⟨_, Reads.tuple (N _ ht).1 rfl rfl (.cons (.str _ _) (.cons (.int _ _) .nil))⟩
theorem si_facts {x : Str} {i : Int} (hx : PyData.strOk x = true) : PySem.SeqAt.shaped (.tuple [.str x, .int i]) = true ∧ PySem.SeqAt.noMix (.tuple [.str x, .int i]) (.tuple [.str x, .int i]) = true ∧ PySem.Spec.same (.tuple [.str x, .int i]) (.tuple [.str x, .int i]) = true := by
  refine ⟨?_, by simp [PySem.SeqAt.noMix, PySem.SeqAt.noMixAll], by simp [PySem.Spec.same, PySem.Spec.sameAll]⟩
  show (PyData.canLay0 _ && decide (PyData.depth _ ≤ 64)) = true
  rw [Bool.and_eq_true]
  exact ⟨by simp [PyData.canLay0, PyData.canLayAll0, hx], decide_eq_true (by simp [PyData.depth, PyData.depthAll])⟩
end
set_option maxHeartbeats 400000
theorem LScK : LSc.kind = .function := LSc_kinds.1
section
variable {w : World} {g : Heap} {L fa : Addr} {cd : Value} {mean : ExcName → Option Value} {mg mb : Str → Option Value} {s : Shared} {m : Str → Option Value} {Q E : Value → Shared → Prop} {tp cl D dD fd sd pl : Addr} {ed : List DictEntry} {o : Obj} {kvs : List (Str × Value)} {fz news : List (Addr × Obj)} {sv : Array Value} {sn pn : Nat} {vs : List Value} {ps : List (Str × Str)} {bs : Bool} {titles : List Str} {nm : Str} {e9 j9 : Int}
theorem lawCx (c : Nat) (B : Below callerA g [] g) (T : Top vw lz mean mg mb g) (F : Fr g L s.heap m) (X : (KK w.params).In g) (N : News g L s.heap news) (room : callerA.depth + 1 + c < recursionLimit) : Cx w (LA L fa cd) g g L m s.heap news c :=
  mkCx B T F X N rfl LScK room ⟨_, _, _, _, rfl⟩
theorem lawHide (N : News g L s.heap news) (S : LFx w L tp cl D dD fd sd ed o kvs fz) (hfz : ∀ p ∈ fz, p ∈ news) : PW [(D, instObj 214 dD), (dD, dictOf ed 6), (fd, o), (sd, lst sv sn)] := by
  have h1 : @Ne Nat D dD := news_ne N (hfz _ S.hD) (hfz _ S.hdD) (by intro e; cases e)
  exact ⟨⟨⟨Ne.symm h1⟩, ⟨Ne.symm (S.off2 _ S.hD)⟩, ⟨Ne.symm (S.off3 _ S.hD)⟩, trivial⟩, ⟨⟨Ne.symm (S.off2 _ S.hdD)⟩, ⟨Ne.symm (S.off3 _ S.hdD)⟩, trivial⟩, ⟨⟨Ne.symm S.ap3.ne⟩, trivial⟩, trivial, trivial⟩
theorem lawPairs (F : Fr g L s.heap m) (N : News g L s.heap news) (S : LFx w L tp cl D dD fd sd ed o kvs fz) (hfz : ∀ p ∈ fz, p ∈ news) (hfd : (fd, o) ∈ news) (hsd : (sd, lst sv sn) ∈ news) (hpl : (pl, lst (List.toArray vs) pn) ∈ news) (p1 : pl ≠ fd) (p2 : pl ≠ sd) (hps : PairsIn g fz vs ps) :
    ∀ g2 : Heap, (∀ b o', s.heap.get? b = some o' → b ∉ ([(D, instObj 214 dD), (dD, dictOf ed 6), (fd, o), (sd, lst sv sn)] : List (Addr × Obj)).map (·.1) → g2.get? b = some o') → g2.get? pl = some (lst (List.toArray vs) pn) ∧ PairsL g2 vs ps := by
  intro g2 hk
  have nin : ∀ z : Nat, @Ne Nat z D → @Ne Nat z dD → @Ne Nat z fd → @Ne Nat z sd → z ∉ ([(D, instObj 214 dD), (dD, dictOf ed 6), (fd, o), (sd, lst sv sn)] : List (Addr × Obj)).map (·.1) := fun z n1 n2 n3 n4 q => by
    simp only [List.map_cons, List.map_nil, List.mem_cons, List.not_mem_nil, or_false] at q
    rcases q with q | q | q | q
    · exact n1 q
    · exact n2 q
    · exact n3 q
    · exact n4 q
  have hD := hfz _ S.hD
  have hdD := hfz _ S.hdD
  refine ⟨hk _ _ (N _ hpl).1 (nin pl (news_ne N hpl hD (by intro e; cases e)) (news_ne N hpl hdD (by intro e; have := congrArg Obj.data e; cases this)) p1 p2), pairsIn_L (fun b ob e => hk b ob (F.keep b ob e) ?_) (fun a x y ha => ?_) hps⟩
  · have none : ∀ {q : Addr × Obj}, q ∈ news → b ≠ q.1 := fun {q} hq e' => by rw [e', (N q hq).2.2] at e; cases e
    exact nin b (none hD) (none hdD) (none hfd) (none hsd)
  · have h1 := hfz _ ha
    exact hk _ _ (N _ h1).1 (nin a (news_ne N h1 hD (by intro e; cases e)) (news_ne N h1 hdD (by intro e; have := congrArg Obj.data e; cases this)) (S.off2 _ ha) (S.off3 _ ha))
theorem law_bad (B : Below callerA g [] g) (X : (KK w.params).In g) (T : Top vw lz mean mg mb g) (room : callerA.depth + 60 < recursionLimit) (hun : callerA.units + 600 < cLine)
    (F : Fr g L s.heap m) (N : News g L s.heap news) (S : LFx w L tp cl D dD fd sd ed o kvs fz) (hfz : ∀ p ∈ fz, p ∈ news) (hfd : (fd, o) ∈ news) (hsd : (sd, lst sv sn) ∈ news) (hpl : (pl, lst (List.toArray vs) pn) ∈ news) (p1 : pl ≠ fd) (p2 : pl ≠ sd) (hps : PairsIn g fz vs ps) (hvl : vs.length ≤ 1000)
    (run : Run w g D dD fd sd ed o kvs sv sn bs ps false titles nm e9 j9)
    (h : ∀ t9 k1 k2 h' tk', Fr g L h' m → News g L h' ((t9, tup2 (.str "wrong" k1) (.int j9 k2)) :: news) → (∀ q ∈ news, q.1 ≠ t9) → Q (.ref t9) { s with heap := h', toks := tk' }) :
    wpAny (model PG w) (LA L fa cd) (call (.ref 670) [.ref D, .ref pl, .bool bs]) Q E s :=
  c_heard (lawCx 40 B T F X N (by omega)) (by simp only [LA, units_deeper]; omega) ⟨_, rfl⟩ X ⟨_, _, _, T⟩ (memCons (hfz _ S.hD) (memCons (hfz _ S.hdD) (memCons hfd (memCons hsd memNil)))) (lawHide N S hfz) S.hed S.lo S.ho
    (lawPairs F N S hfz hfd hsd hpl p1 p2 hps) hvl run (fun e => nomatch e) fun _ t9 k1 k2 h' tk' F' N' q => h t9 k1 k2 h' tk' F' N' q
theorem law_ok (B : Below callerA g [] g) (X : (KK w.params).In g) (T : Top vw lz mean mg mb g) (room : callerA.depth + 60 < recursionLimit) (hun : callerA.units + 600 < cLine)
    (F : Fr g L s.heap m) (N : News g L s.heap news) (S : LFx w L tp cl D dD fd sd ed o kvs fz) (hfz : ∀ p ∈ fz, p ∈ news) (hfd : (fd, o) ∈ news) (hsd : (sd, lst sv sn) ∈ news) (hpl : (pl, lst (List.toArray vs) pn) ∈ news) (p1 : pl ≠ fd) (p2 : pl ≠ sd) (hps : PairsIn g fz vs ps) (hvl : vs.length ≤ 1000)
    (run : Run w g D dD fd sd ed o kvs sv sn bs ps true titles nm e9 j9)
    (h : ∀ t9 k1 k2 rl vs' n rled o' sv' sn' u h' tk', RootsIn w.params rled vs' titles → o'.IsDictOf (PySem.strKind PG w) (stored kvs nm (.ref rl)) → (sv' = if bs = true then sv.push (.str nm u) else sv) → Fr g L h' m →
      (∀ n2 n3, Upd fd o o' news n2 → Upd sd (lst sv sn) (lst sv' sn') n2 n3 → News g L h' ((t9, tup2 (.str "read" k1) (.int e9 k2)) :: (rl, lst (List.toArray vs') n) :: (n3 ++ rled))) → (∀ q ∈ news, q.1 ≠ rl ∧ q.1 ≠ t9) → (∀ p ∈ rled, p.1 ≠ rl ∧ p.1 ≠ t9 ∧ ∀ q ∈ news, q.1 ≠ p.1) → @Ne Nat rl t9 → Q (.ref t9) { s with heap := h', toks := tk' }) :
    wpAny (model PG w) (LA L fa cd) (call (.ref 670) [.ref D, .ref pl, .bool bs]) Q E s :=
  c_heard (lawCx 40 B T F X N (by omega)) (by simp only [LA, units_deeper]; omega) ⟨_, rfl⟩ X ⟨_, _, _, T⟩ (memCons (hfz _ S.hD) (memCons (hfz _ S.hdD) (memCons hfd (memCons hsd memNil)))) (lawHide N S hfz) S.hed S.lo S.ho
    (lawPairs F N S hfz hfd hsd hpl p1 p2 hps) hvl run (fun _ => h) fun e => nomatch e
theorem law_seen {svl : List Value} {fs : List (Str × List Str)} {ss : List Str} (B : Below callerA g [] g) (X : (KK w.params).In g) (T : Top vw lz mean mg mb g) (room : callerA.depth + 60 < recursionLimit) (hun : callerA.units + 600 < cLine)
    (F : Fr g L s.heap m) (N : News g L s.heap news) (S : LFx w L tp cl D dD fd sd ed o kvs fz) (hfz : ∀ p ∈ fz, p ∈ news) (hfd : (fd, o) ∈ news) (hsd : (sd, lst (List.toArray svl) sn) ∈ news) (hf : FilesIn w.params fz kvs fs) (hkl : kvs.length ≤ 1000) (hsl : svl.length ≤ 1000) (hss : StrsOf svl ss)
    (h : ∀ t fl sl rled h' tk', SeenAt rled fl sl fs ss → Fr g L h' m → News g L h' ((t, tup2 (.ref fl) (.ref sl)) :: (rled ++ news)) → (∀ p ∈ rled, p.1 ≠ t ∧ ∀ q ∈ news, q.1 ≠ p.1) → (∀ q ∈ news, q.1 ≠ t) → Q (.ref t) { s with heap := h', toks := tk' }) :
    wpAny (model PG w) (LA L fa cd) (call (.ref 675) [.ref D]) Q E s :=
  c_seen (lawCx 10 B T F X N (by omega)) (by simp only [LA, units_deeper]; omega) (N _ (hfz _ S.hD)).1 (N _ (hfz _ S.hdD)).1 S.hed S.lo (N _ hfd).1 S.ho hkl (filesAt_in (cb_drop N hfz) hf) (N _ hsd).1 hsl hss h
end
set_option maxHeartbeats 400000
noncomputable def T10 : List Stmt := match ls 10 with
  | .If _ b _ _ => b
  | _ => []
noncomputable def E10 : List Stmt := match ls 10 with
  | .If _ _ b _ => b
  | _ => []
theorem T10_of {c : PySem.Expr} {b e : List Stmt} {p : Pos} (x : ls 10 = .If c b e p) : T10 = b := by unfold T10; rw [x]
theorem E10_of {c : PySem.Expr} {b e : List Stmt} {p : Pos} (x : ls 10 = .If c b e p) : E10 = e := by unfold E10; rw [x]
local macro_rules | `(tactic| walk_at "compareOp NotEq ref ref") => zst
local macro_rules | `(tactic| walk_at "compareOp Eq ref ref") => zst
section
variable {w : World} {g : Heap} {L fa : Addr} {cd : Value} {mean : ExcName → Option Value} {mg mb : Str → Option Value} {s : Shared} {m : Str → Option Value} {Q : Flow → Shared → Prop} {tp cl D dD fd sd pl bb fl sl : Addr} {ed : List DictEntry} {o : Obj} {kvs : List (Str × Value)} {fz : List (Addr × Obj)} {sn n n1 ta : Nat} {a : Int} {vs : List Value} {ps : List (Str × Str)} {bs : Bool} {titles : List Str} {nm z : Str} {fs : List (Str × List Str)} {ss : List Str} {svl : List Value} {e9 : Int} {tb ub : Tok}
theorem s_10T {tt : List Stmt} (htt : tt = T10) (B : Below callerA g [] g) (X : (KK w.params).In g) (T : Top vw lz mean mg mb g) (room : callerA.depth + 60 < recursionLimit) (hun : callerA.units + 600 < cLine)
    (hm1 : m (Str.ofString "data") = some (.ref D)) (hm2 : m (Str.ofString "files") = some (.ref fl)) (hm3 : m (Str.ofString "sorts") = some (.ref sl)) (hm4 : m (Str.ofString "is_sort") = some (.bool bs)) (hm5 : m (Str.ofString "pairs") = some (.ref pl)) (hm6 : m (Str.ofString "behind") = some (.ref bb))
    (F : Fr g L s.heap m) (N : News g L s.heap ((tp, lst #[.ref cl, .int a ta] n) :: (fd, o) :: (sd, lst (List.toArray svl) sn) :: fz)) (S : LFx w L tp cl D dD fd sd ed o kvs fz) (hf : FilesIn w.params fz kvs fs) (hkl : kvs.length ≤ 1000) (hsl : svl.length ≤ 1000) (hss : StrsOf svl ss) (hseen : SeenAt fz fl sl fs ss) (hfo : FsOk fs) (hso : ∀ x ∈ ss, PyData.strOk x = true)
    (hp : (pl, lst (List.toArray vs) n1) ∈ fz) (hps : PairsIn g fz vs ps) (hvl : vs.length ≤ 900) (hb : (bb, tup2 (.str (Str.ofString "word") tb) (.str z ub)) ∈ fz)
    (run : Run w g D dD fd sd ed o kvs (List.toArray svl) sn bs (ps ++ [((("word", z) : Str × Str))]) false titles nm e9 0)
    (h : ∀ h' tk', Fr g L h' m → News g L h' ((tp, lst #[.ref cl, .int a ta] n) :: (fd, o) :: (sd, lst (List.toArray svl) sn) :: fz) → Q .next { s with heap := h', toks := tk' }) :
    wpAny (model PG w) (LA L fa cd) (execs tt (LE L fa cd)) Q (fun _ _ => False) s := by
  subst htt
  obtain ⟨m0, e0⟩ := m_as hm1
  subst e0
  replace hm2 : m0 (Str.ofString "files") = some (.ref fl) := hm2
  replace hm3 : m0 (Str.ofString "sorts") = some (.ref sl) := hm3
  replace hm4 : m0 (Str.ofString "is_sort") = some (.bool bs) := hm4
  replace hm5 : m0 (Str.ofString "pairs") = some (.ref pl) := hm5
  replace hm6 : m0 (Str.ofString "behind") = some (.ref bb) := hm6
  obtain ⟨m1, e1⟩ := m_as hm2
  subst e1
  replace hm3 : m1 (Str.ofString "sorts") = some (.ref sl) := hm3
  replace hm4 : m1 (Str.ofString "is_sort") = some (.bool bs) := hm4
  replace hm5 : m1 (Str.ofString "pairs") = some (.ref pl) := hm5
  replace hm6 : m1 (Str.ofString "behind") = some (.ref bb) := hm6
  obtain ⟨m2, e2⟩ := m_as hm3
  subst e2
  replace hm4 : m2 (Str.ofString "is_sort") = some (.bool bs) := hm4
  replace hm5 : m2 (Str.ofString "pairs") = some (.ref pl) := hm5
  replace hm6 : m2 (Str.ofString "behind") = some (.ref bb) := hm6
  obtain ⟨m3, e3⟩ := m_as hm4
  subst e3
  replace hm5 : m3 (Str.ofString "pairs") = some (.ref pl) := hm5
  replace hm6 : m3 (Str.ofString "behind") = some (.ref bb) := hm6
  obtain ⟨m4, e4⟩ := m_as hm5
  subst e4
  replace hm6 : m4 (Str.ofString "behind") = some (.ref bb) := hm6
  obtain ⟨m5, e5⟩ := m_as hm6
  subst e5
  unfold LA LE
  rw [T10_of (ls_of (by with_unfolding_all rfl) 10 (by with_unfolding_all rfl)), sc_of (by with_unfolding_all rfl)]
  (try k_fold)
  k_steps
  (with_reducible rename Fr g _ _ _ => kF)
  (with_reducible rename News g _ _ _ => kN)
  refine Hold.mk (kmk_add_lit kF kN ⟨_, (kN _ (.tail _ (.tail _ (.tail _ (.tail _ hp))))).1, rfl, _, rfl⟩ ⟨_, (kN _ (.head _)).1, rfl, _, rfl⟩ rfl (fun lp h3 F3 N3 hlt => ?_) (size_line (by simp only [List.length_cons, List.length_nil]; omega)))
  have N4 : News g L h3 ((lp, lst (List.toArray (vs ++ [.ref bb])) 0) :: (tp, lst #[.ref cl, .int a ta] n) :: (fd, o) :: (sd, lst (List.toArray svl) sn) :: fz) := cb_drop N3 (memCons (.head _) fun p hp => .tail _ (.tail _ hp))
  have p1 : lp ≠ fd := Nat.ne_of_gt (hlt (fd, o) (.tail _ (.tail _ (.head _))))
  have p2 : lp ≠ sd := Nat.ne_of_gt (hlt (sd, _) (.tail _ (.tail _ (.tail _ (.head _)))))
  clear kF kN N3 hlt
  k_steps
  (with_reducible rename Fr g _ _ _ => kF)
  (with_reducible rename News g _ _ _ => kN)
  refine Hold.mk (law_bad B X T room hun kF kN S (fun p hp => .tail _ (.tail _ (.tail _ (.tail _ hp)))) (.tail _ (.tail _ (.head _))) (.tail _ (.tail _ (.tail _ (.head _)))) (.head _) p1 p2 (pairsIn_app (pairsIn_one (p := (("word", z) : Str × Str)) (.inr hb)) hps) (by simp only [List.length_append, List.length_cons, List.length_nil]; omega) run ?_)
  intro t9 k1 k2 h4 tk4 F4 N4 q4
  clear kF kN
  have N5 := cb_drop N4 (memCons (.head _) fun p hp => .tail _ (.tail _ hp))
  clear N4 q4
  k_steps
  (with_reducible rename Fr g _ _ _ => kF)
  (with_reducible rename News g _ _ _ => kN)
  obtain ⟨as1, r1⟩ := reads_si kN (t := t9) (.tail _ (.head _))
  obtain ⟨as2, r2⟩ := reads_si kN (x := Str.ofString "wrong") (i := 0) (.head _)
  obtain ⟨f1, f2, f3⟩ := si_facts (x := Str.ofString "wrong") (i := 0) (by decide +kernel)
  refine Hold.mk (ne_same r1 r2 f1 f2 f3 (by simp only [units_deeper]; omega) ?_)
  clear r1 r2 f1 f2 f3
  have N6 := cb_drop kN (fun p hp => .tail _ (.tail _ hp))
  clear kN
  k_steps
  (with_reducible rename Fr g _ _ _ => kF)
  (with_reducible rename News g _ _ _ => kN)
  refine Hold.mk (law_seen B X T room hun kF kN S (fun p hp => .tail _ (.tail _ (.tail _ hp))) (.tail _ (.head _)) (.tail _ (.tail _ (.head _))) hf hkl hsl hss ?_)
  intro t2 fl2 sl2 rled h5 tk5 hs2 F5 N5' q5 q6
  have N7 : News g L h5 ((t2, tup2 (.ref fl2) (.ref sl2)) :: (tp, lst #[.ref cl, .int a ta] n) :: (fd, o) :: (sd, lst (List.toArray svl) sn) :: (rled ++ fz)) :=
    cb_drop N5' (memCons (.head _) (memCons (.tail _ (List.mem_append_right _ (.head _))) (memCons (.tail _ (List.mem_append_right _ (.tail _ (.head _)))) (memCons (.tail _ (List.mem_append_right _ (.tail _ (.tail _ (.head _))))) (fun p hp => .tail _ ((List.mem_append.mp hp).elim (fun hp => List.mem_append_left _ hp) fun hp => List.mem_append_right _ (.tail _ (.tail _ (.tail _ hp)))))))))
  clear N5' kN kF q5 q6
  k_steps
  (with_reducible rename Fr g _ _ _ => kF)
  (with_reducible rename News g _ _ _ => kN)
  obtain ⟨as1, r1⟩ := reads_SD kN (seenAt_mono (fun p hp => .tail _ (.tail _ (.tail _ (.tail _ (.tail _ (List.mem_append_left _ hp)))))) hs2) (t := t2) (.tail _ (.head _))
  obtain ⟨as2, r2⟩ := reads_SD kN (seenAt_mono (fun p hp => .tail _ (.tail _ (.tail _ (.tail _ (.tail _ (List.mem_append_right _ hp)))))) hseen) (.head _)
  obtain ⟨f1, f2, f3⟩ := SD_facts hfo hso
  refine Hold.mk (ne_same r1 r2 f1 f2 f3 (by simp only [units_deeper]; omega) ?_)
  clear r1 r2 f1 f2 f3
  have N8 : News g L _ ((tp, lst #[.ref cl, .int a ta] n) :: (fd, o) :: (sd, lst (List.toArray svl) sn) :: fz) := cb_drop kN (memCons (.tail _ (.tail _ (.head _))) (memCons (.tail _ (.tail _ (.tail _ (.head _)))) (memCons (.tail _ (.tail _ (.tail _ (.tail _ (.head _))))) (fun p hp => .tail _ (.tail _ (.tail _ (.tail _ (.tail _ (List.mem_append_right _ hp)))))))))
  clear kN
  k_steps
  (with_reducible rename Fr g _ _ _ => kF)
  (with_reducible rename News g _ _ _ => kN)
  exact h _ _ kF kN
end
set_option maxHeartbeats 400000
noncomputable def le (k : Nat) : Stmt := E10.getD k (.Pass default)
theorem le_of {b : List Stmt} (x : E10 = b) (n : Nat) {S : Stmt} (y : b[n]? = some S) : le n = S := by unfold le; rw [x, List.getD_eq_getElem?_getD, y]; rfl
theorem E10_eq : E10 = [le 0, le 1] := by kernel_rfl
theorem seenL_len {nw : List (Addr × Obj)} : ∀ {ys : List Value} {fs : List (Str × List Str)}, SeenL nw ys fs → ys.length = fs.length
  | [], [], _ => rfl
  | _ :: _, _ :: _, ⟨_, r⟩ => congrArg (· + 1) (seenL_len r)
  | [], _ :: _, h => h.elim
  | _ :: _, [], h => h.elim
theorem strsOf_len {xs : List Value} {ss : List Str} (h : StrsOf xs ss) : xs.length = ss.length := by
  obtain ⟨l, rfl, rfl⟩ := h
  simp [strValues]
section
variable {w : World} {g : Heap} {L fa : Addr} {cd : Value} {mean : ExcName → Option Value} {mg mb : Str → Option Value} {s : Shared} {m : Str → Option Value} {Q : Flow → Shared → Prop} {tp cl D dD fd sd pl bb fl sl tl : Addr} {ed : List DictEntry} {o : Obj} {kvs : List (Str × Value)} {fz : List (Addr × Obj)} {sn n n1 n2 ta tn : Nat} {a : Int} {vs tvs : List Value} {ps : List (Str × Str)} {bs : Bool} {titles : List Str} {nm z : Str} {fs : List (Str × List Str)} {ss : List Str} {svl : List Value} {e9 : Int} {tb ub : Tok}
theorem s_10E0 {st : Stmt} (hst : st = le 0) (B : Below callerA g [] g) (X : (KK w.params).In g) (T : Top vw lz mean mg mb g) (room : callerA.depth + 60 < recursionLimit) (hun : callerA.units + 600 < cLine)
    (hm1 : m (Str.ofString "files") = some (.ref fl)) (hm2 : m (Str.ofString "sorts") = some (.ref sl)) (hm3 : m (Str.ofString "is_sort") = some (.bool bs)) (hm4 : m (Str.ofString "name") = some (.str nm tn)) (hm5 : m (Str.ofString "titles") = some (.ref tl))
    (F : Fr g L s.heap m) (N : News g L s.heap ((tp, lst #[.ref cl, .int a ta] n) :: (fd, o) :: (sd, lst (List.toArray svl) sn) :: fz)) (S : LFx w L tp cl D dD fd sd ed o kvs fz) (hseen : SeenAt fz fl sl fs ss) (hfl : fs.length ≤ 100) (hsl : ss.length ≤ 100)
    (ht : (tl, lst (List.toArray tvs) n2) ∈ fz) (hts : StrsOf tvs titles)
    (h : ∀ fl' sl' fz' m' h' tk', m' (Str.ofString "files") = some (.ref fl') → m' (Str.ofString "sorts") = some (.ref sl') → (∀ y, y ≠ Str.ofString "files" → y ≠ Str.ofString "sorts" → m' y = m y) → Fr g L h' m' → News g L h' ((tp, lst #[.ref cl, .int a ta] n) :: (fd, o) :: (sd, lst (List.toArray svl) sn) :: fz') → LFx w L tp cl D dD fd sd ed o kvs fz' → (∀ p ∈ fz, p ∈ fz') →
      SeenAt fz' fl' sl' (fs ++ [(nm, titles)]) (ss ++ if bs = true then [nm] else []) → Q .next { s with heap := h', toks := tk' }) :
    wpAny (model PG w) (LA L fa cd) (exec st (LE L fa cd)) Q (fun _ _ => False) s := by
  subst hst
  obtain ⟨⟨ys, n3, hfl1, hfl2⟩, xs, n4, hsl1, hsl2⟩ := hseen
  obtain ⟨m0, e0⟩ := m_as hm1
  subst e0
  replace hm2 : m0 (Str.ofString "sorts") = some (.ref sl) := hm2
  replace hm3 : m0 (Str.ofString "is_sort") = some (.bool bs) := hm3
  replace hm4 : m0 (Str.ofString "name") = some (.str nm tn) := hm4
  replace hm5 : m0 (Str.ofString "titles") = some (.ref tl) := hm5
  obtain ⟨m1, e1⟩ := m_as hm2
  subst e1
  replace hm3 : m1 (Str.ofString "is_sort") = some (.bool bs) := hm3
  replace hm4 : m1 (Str.ofString "name") = some (.str nm tn) := hm4
  replace hm5 : m1 (Str.ofString "titles") = some (.ref tl) := hm5
  obtain ⟨m2, e2⟩ := m_as hm3
  subst e2
  replace hm4 : m2 (Str.ofString "name") = some (.str nm tn) := hm4
  replace hm5 : m2 (Str.ofString "titles") = some (.ref tl) := hm5
  obtain ⟨m3, e3⟩ := m_as hm4
  subst e3
  replace hm5 : m3 (Str.ofString "titles") = some (.ref tl) := hm5
  obtain ⟨m4, e4⟩ := m_as hm5
  subst e4
  unfold LA LE
  rw [le_of (E10_of (ls_of (by with_unfolding_all rfl) 10 (by with_unfolding_all rfl))) 0 (by with_unfolding_all rfl), sc_of (by with_unfolding_all rfl)]
  (try k_fold)
  k_steps
  (with_reducible rename Fr g _ _ _ => kF)
  (with_reducible rename News g _ _ _ => kN)
  (rename (_ < _ ∧ _ < _ ∧ _ < _ ∧ _ < _ ∧ _) => l1)
  (rename (_ < _ ∧ _ < _ ∧ _ < _ ∧ AllLt _ _) => l0)
  rename_i T1 x1 lp x2
  have hy1 := seenL_len hfl2
  have hy2 := strsOf_len hsl2
  refine Hold.mk (kmk_add_lit kF kN ⟨_, (kN _ (.tail _ (.tail _ (.tail _ (.tail _ (.tail _ hfl1)))))).1, rfl, _, rfl⟩ ⟨_, (kN _ (.head _)).1, rfl, _, rfl⟩ rfl (fun f2 h3 F3 N3 hlt3 => ?_) (size_line (by simp only [List.length_cons, List.length_nil]; omega)))
  have N4 : News g L h3 ((f2, lst (List.toArray (ys ++ [.ref T1])) 0) :: (T1, tup2 (.str nm tn) (.ref tl)) :: (tp, lst #[.ref cl, .int a ta] n) :: (fd, o) :: (sd, lst (List.toArray svl) sn) :: fz) := cb_drop N3 (memCons (.head _) fun p hp => .tail _ (.tail _ hp))
  have o2 : ∀ z ∈ [tp, fd, sd], z < f2 := fun z hz => by
    simp only [List.mem_cons, List.not_mem_nil, or_false] at hz
    rcases hz with rfl | rfl | rfl
    · exact hlt3 (_, _) (.tail _ (.tail _ (.head _)))
    · exact hlt3 (_, _) (.tail _ (.tail _ (.tail _ (.head _))))
    · exact hlt3 (_, _) (.tail _ (.tail _ (.tail _ (.tail _ (.head _)))))
  clear kF kN N3 hlt3
  have fin : ∀ (s2 : Addr) (zs : List Value) (zz : List Str) (m' : Str → Option Value) (h' : Heap) (tk' : Nat), m' (Str.ofString "files") = some (.ref f2) → m' (Str.ofString "sorts") = some (.ref s2) → (∀ y, y ≠ Str.ofString "files" → y ≠ Str.ofString "sorts" → m' y = (fun y => if y = Str.ofString "files" then some (Value.ref fl) else if y = Str.ofString "sorts" then some (.ref sl) else if y = Str.ofString "is_sort" then some (.bool bs) else if y = Str.ofString "name" then some (.str nm tn) else if y = Str.ofString "titles" then some (.ref tl) else m4 y) y) → Fr g L h' m' →
      News g L h' ((s2, lst (List.toArray (xs ++ zs)) 0) :: (f2, lst (List.toArray (ys ++ [.ref T1])) 0) :: (T1, tup2 (.str nm tn) (.ref tl)) :: (tp, lst #[.ref cl, .int a ta] n) :: (fd, o) :: (sd, lst (List.toArray svl) sn) :: fz) → (∀ z ∈ [tp, fd, sd], z < s2) → StrsOf (xs ++ zs) (ss ++ zz) → zz = (if bs = true then [nm] else []) → Q .next { s with heap := h', toks := tk' } := by
    intro s2 zs zz m' h' tk' g1 g2 g3 g4 g5 g6 g7 g8
    subst g8
    have mz : ∀ (q r u p : Addr × Obj), p ∈ fz → p ∈ q :: r :: u :: fz := fun q r u p hp => .tail _ (.tail _ (.tail _ hp))
    refine h f2 s2 ((s2, lst (List.toArray (xs ++ zs)) 0) :: (f2, lst (List.toArray (ys ++ [.ref T1])) 0) :: (T1, tup2 (.str nm tn) (.ref tl)) :: fz) _ _ _ g1 g2 g3 g4 (cb_drop g5 (memCons (.tail _ (.tail _ (.tail _ (.head _)))) (memCons (.tail _ (.tail _ (.tail _ (.tail _ (.head _))))) (memCons (.tail _ (.tail _ (.tail _ (.tail _ (.tail _ (.head _)))))) (memCons (.head _) (memCons (.tail _ (.head _)) (memCons (.tail _ (.tail _ (.head _))) (fun p hp => .tail _ (.tail _ (.tail _ (.tail _ (.tail _ (.tail _ hp)))))))))))))
      (S.more (mz _ _ _) fun p hp => ?_) (mz _ _ _) ⟨⟨ys ++ [.ref T1], _, .tail _ (.head _), seenL_snoc (f := (nm, titles)) ⟨⟨T1, tl, tn, tvs, n2, rfl, .tail _ (.tail _ (.head _)), mz _ _ _ _ ht, hts⟩, trivial⟩ (seenL_mono (mz _ _ _) hfl2)⟩, xs ++ zs, _, .head _, g7⟩
    rcases List.mem_cons.mp hp with rfl | hp
    · exact .inr ⟨Nat.ne_of_gt (g6 _ (.head _)), Nat.ne_of_gt (g6 _ (.tail _ (.head _))), Nat.ne_of_gt (g6 _ (.tail _ (.tail _ (.head _))))⟩
    · rcases List.mem_cons.mp hp with rfl | hp
      · exact .inr ⟨Nat.ne_of_gt (o2 _ (.head _)), Nat.ne_of_gt (o2 _ (.tail _ (.head _))), Nat.ne_of_gt (o2 _ (.tail _ (.tail _ (.head _))))⟩
      · rcases List.mem_cons.mp hp with rfl | hp
        · exact .inr ⟨Nat.ne_of_gt l0.1, Nat.ne_of_gt l0.2.1, Nat.ne_of_gt l0.2.2.1⟩
        · exact .inl hp
  cases bs with
  | true =>
    k_steps
    (with_reducible rename Fr g _ _ _ => kF)
    (with_reducible rename News g _ _ _ => kN)
    refine Hold.mk (kmk_add_lit kF kN ⟨_, (kN _ (.tail _ (.tail _ (.tail _ (.tail _ (.tail _ (.tail _ hsl1))))))).1, rfl, _, rfl⟩ ⟨_, (kN _ (.head _)).1, rfl, _, rfl⟩ rfl (fun s2 h5 F5 N5 hlt5 => ?_) (size_line (by simp only [List.length_cons, List.length_nil]; omega)))
    have N6 : News g L h5 ((s2, lst (List.toArray (xs ++ [Value.str nm tn])) 0) :: (f2, lst (List.toArray (ys ++ [.ref T1])) 0) :: (T1, tup2 (.str nm tn) (.ref tl)) :: (tp, lst #[.ref cl, .int a ta] n) :: (fd, o) :: (sd, lst (List.toArray svl) sn) :: fz) := cb_drop N5 (memCons (.head _) fun p hp => .tail _ (.tail _ hp))
    have o5 : ∀ z ∈ [tp, fd, sd], z < s2 := fun z hz => by
      simp only [List.mem_cons, List.not_mem_nil, or_false] at hz
      rcases hz with rfl | rfl | rfl
      · exact hlt5 (_, _) (.tail _ (.tail _ (.tail _ (.head _))))
      · exact hlt5 (_, _) (.tail _ (.tail _ (.tail _ (.tail _ (.head _)))))
      · exact hlt5 (_, _) (.tail _ (.tail _ (.tail _ (.tail _ (.tail _ (.head _))))))
    clear kF kN N5 hlt5
    k_steps
    (with_reducible rename Fr g _ _ _ => kF)
    (with_reducible rename News g _ _ _ => kN)
    exact fin s2 [Value.str nm tn] [nm] _ _ _ rfl rfl (fun y h1 h2 => by simp only [if_neg h1, if_neg h2]) kF (cb_drop kN fun p hp => .tail _ hp) o5 (strsOf_snoc hsl2) rfl
  | false =>
    k_steps
    (with_reducible rename Fr g _ _ _ => kF)
    (with_reducible rename News g _ _ _ => kN)
    refine Hold.mk (kmk_add_lit kF kN ⟨_, (kN _ (.tail _ (.tail _ (.tail _ (.tail _ (.tail _ (.tail _ hsl1))))))).1, rfl, _, rfl⟩ ⟨_, (kN _ (.head _)).1, rfl, _, rfl⟩ rfl (fun s2 h5 F5 N5 hlt5 => ?_) (size_line (by simp only [List.length_cons, List.length_nil]; omega)))
    have N6 : News g L h5 ((s2, lst (List.toArray (xs ++ ([] : List Value))) 0) :: (f2, lst (List.toArray (ys ++ [.ref T1])) 0) :: (T1, tup2 (.str nm tn) (.ref tl)) :: (tp, lst #[.ref cl, .int a ta] n) :: (fd, o) :: (sd, lst (List.toArray svl) sn) :: fz) := cb_drop N5 (memCons (.head _) fun p hp => .tail _ (.tail _ hp))
    have o5 : ∀ z ∈ [tp, fd, sd], z < s2 := fun z hz => by
      simp only [List.mem_cons, List.not_mem_nil, or_false] at hz
      rcases hz with rfl | rfl | rfl
      · exact hlt5 (_, _) (.tail _ (.tail _ (.tail _ (.head _))))
      · exact hlt5 (_, _) (.tail _ (.tail _ (.tail _ (.tail _ (.head _)))))
      · exact hlt5 (_, _) (.tail _ (.tail _ (.tail _ (.tail _ (.tail _ (.head _))))))
    clear kF kN N5 hlt5
    k_steps
    (with_reducible rename Fr g _ _ _ => kF)
    (with_reducible rename News g _ _ _ => kN)
    exact fin s2 ([] : List Value) [] _ _ _ rfl rfl (fun y h1 h2 => by simp only [if_neg h1, if_neg h2]) kF (cb_drop kN fun p hp => .tail _ hp) o5 (by rw [List.append_nil, List.append_nil]; exact hsl2) rfl
end
set_option maxHeartbeats 400000
theorem rootsIn_len {P : Params} {led : List (Addr × Obj)} : ∀ {vs : List Value} {ts : List Str}, RootsIn P led vs ts → vs.length = ts.length
  | [], [], _ => rfl
  | _ :: _, _ :: _, ⟨_, r⟩ => congrArg (· + 1) (rootsIn_len r)
  | [], _ :: _, h => h.elim
  | _ :: _, [], h => h.elim
section
variable {w : World} {g : Heap} {L fa : Addr} {cd : Value} {mean : ExcName → Option Value} {mg mb : Str → Option Value} {s : Shared} {m : Str → Option Value} {Q : Flow → Shared → Prop} {tp cl D dD fd sd pl bb fl sl tl : Addr} {ed : List DictEntry} {o : Obj} {kvs : List (Str × Value)} {fz : List (Addr × Obj)} {sn n n1 n2 ta tn : Nat} {a : Int} {vs tvs : List Value} {ps : List (Str × Str)} {bs : Bool} {titles : List Str} {nm z : Str} {fs : List (Str × List Str)} {ss : List Str} {svl : List Value} {e9 j9 : Int} {tb ub : Tok}
theorem s_10E1 {st : Stmt} (hst : st = le 1) (B : Below callerA g [] g) (X : (KK w.params).In g) (T : Top vw lz mean mg mb g) (room : callerA.depth + 60 < recursionLimit) (hun : callerA.units + 600 < cLine)
    (hm1 : m (Str.ofString "data") = some (.ref D)) (hm2 : m (Str.ofString "files") = some (.ref fl)) (hm3 : m (Str.ofString "sorts") = some (.ref sl)) (hm4 : m (Str.ofString "is_sort") = some (.bool bs)) (hm5 : m (Str.ofString "pairs") = some (.ref pl)) (hm6 : m (Str.ofString "behind") = some (.ref bb))
    (F : Fr g L s.heap m) (N : News g L s.heap ((tp, lst #[.ref cl, .int a ta] n) :: (fd, o) :: (sd, lst (List.toArray svl) sn) :: fz)) (S : LFx w L tp cl D dD fd sd ed o kvs fz) (hf : FilesIn w.params fz kvs fs) (hkl : kvs.length ≤ 100) (hsl : svl.length ≤ 100) (hss : StrsOf svl ss) (hseen : SeenAt fz fl sl (fs ++ [(nm, titles)]) (ss ++ if bs = true then [nm] else [])) (hfo : FsOk (fs ++ [(nm, titles)])) (hso : ∀ x ∈ ss ++ (if bs = true then [nm] else []), PyData.strOk x = true)
    (hp : (pl, lst (List.toArray vs) n1) ∈ fz) (hps : PairsIn g fz vs ps) (hvl : vs.length ≤ 900) (hb : (bb, tup2 (.str (Str.ofString "word") tb) (.str z ub)) ∈ fz) (htl : titles.length ≤ 2) (hnk : nm ∉ kvs.map (·.1)) (he : (vs.length : Int) = e9)
    (run : Run w g D dD fd sd ed o kvs (List.toArray svl) sn bs (ps ++ [((("word", z) : Str × Str))]) true titles nm e9 j9)
    (h : ∀ o' kvs' svl' sn' fz' h' tk', Fr g L h' m → News g L h' ((tp, lst #[.ref cl, .int a ta] n) :: (fd, o') :: (sd, lst (List.toArray svl') sn') :: fz') → LFx w L tp cl D dD fd sd ed o' kvs' fz' → FilesIn w.params fz' kvs' (fs ++ [(nm, titles)]) → StrsOf svl' (ss ++ if bs = true then [nm] else []) → (∀ p ∈ fz, p ∈ fz') → Q .next { s with heap := h', toks := tk' }) :
    wpAny (model PG w) (LA L fa cd) (exec st (LE L fa cd)) Q (fun _ _ => False) s := by
  subst hst
  subst he
  obtain ⟨m0, e0⟩ := m_as hm1
  subst e0
  replace hm2 : m0 (Str.ofString "files") = some (.ref fl) := hm2
  replace hm3 : m0 (Str.ofString "sorts") = some (.ref sl) := hm3
  replace hm4 : m0 (Str.ofString "is_sort") = some (.bool bs) := hm4
  replace hm5 : m0 (Str.ofString "pairs") = some (.ref pl) := hm5
  replace hm6 : m0 (Str.ofString "behind") = some (.ref bb) := hm6
  obtain ⟨m1, e1⟩ := m_as hm2
  subst e1
  replace hm3 : m1 (Str.ofString "sorts") = some (.ref sl) := hm3
  replace hm4 : m1 (Str.ofString "is_sort") = some (.bool bs) := hm4
  replace hm5 : m1 (Str.ofString "pairs") = some (.ref pl) := hm5
  replace hm6 : m1 (Str.ofString "behind") = some (.ref bb) := hm6
  obtain ⟨m2, e2⟩ := m_as hm3
  subst e2
  replace hm4 : m2 (Str.ofString "is_sort") = some (.bool bs) := hm4
  replace hm5 : m2 (Str.ofString "pairs") = some (.ref pl) := hm5
  replace hm6 : m2 (Str.ofString "behind") = some (.ref bb) := hm6
  obtain ⟨m3, e3⟩ := m_as hm4
  subst e3
  replace hm5 : m3 (Str.ofString "pairs") = some (.ref pl) := hm5
  replace hm6 : m3 (Str.ofString "behind") = some (.ref bb) := hm6
  obtain ⟨m4, e4⟩ := m_as hm5
  subst e4
  replace hm6 : m4 (Str.ofString "behind") = some (.ref bb) := hm6
  obtain ⟨m5, e5⟩ := m_as hm6
  subst e5
  unfold LA LE
  rw [le_of (E10_of (ls_of (by with_unfolding_all rfl) 10 (by with_unfolding_all rfl))) 1 (by with_unfolding_all rfl), sc_of (by with_unfolding_all rfl)]
  (try k_fold)
  k_steps
  (with_reducible rename Fr g _ _ _ => kF)
  (with_reducible rename News g _ _ _ => kN)
  refine Hold.mk (kmk_add_lit kF kN ⟨_, (kN _ (.tail _ (.tail _ (.tail _ (.tail _ hp))))).1, rfl, _, rfl⟩ ⟨_, (kN _ (.head _)).1, rfl, _, rfl⟩ rfl (fun lp h3 F3 N3 hlt => ?_) (size_line (by simp only [List.length_cons, List.length_nil]; omega)))
  have N4 : News g L h3 ((lp, lst (List.toArray (vs ++ [.ref bb])) 0) :: (tp, lst #[.ref cl, .int a ta] n) :: (fd, o) :: (sd, lst (List.toArray svl) sn) :: fz) := cb_drop N3 (memCons (.head _) fun p hp => .tail _ (.tail _ hp))
  have p1 : lp ≠ fd := Nat.ne_of_gt (hlt (fd, o) (.tail _ (.tail _ (.head _))))
  have p2 : lp ≠ sd := Nat.ne_of_gt (hlt (sd, _) (.tail _ (.tail _ (.tail _ (.head _)))))
  clear kF kN N3 hlt
  k_steps
  (with_reducible rename Fr g _ _ _ => kF)
  (with_reducible rename News g _ _ _ => kN)
  refine Hold.mk (law_ok B X T room hun kF kN S (fun p hp => .tail _ (.tail _ (.tail _ (.tail _ hp)))) (.tail _ (.tail _ (.head _))) (.tail _ (.tail _ (.tail _ (.head _)))) (.head _) p1 p2 (pairsIn_app (pairsIn_one (p := (("word", z) : Str × Str)) (.inr hb)) hps) (by simp only [List.length_append, List.length_cons, List.length_nil]; omega) run ?_)
  intro t9 k1 k2 rl vs' n5 rled o' sv' sn' u h4 tk4 hroots ho' hsv F4 N4 q8 q9 q10
  have N5' := N4 _ _ (.tail p1 (.tail S.ap1.ne (.head (List.forall_mem_cons.mpr ⟨Ne.symm S.ap3.ne, S.off2⟩)))) (.tail p2 (.tail S.ap2.ne (.tail S.ap3.ne (.head S.off3))))
  simp only [List.cons_append] at N5'
  clear kF kN N4
  obtain ⟨svl', hsv1, hsv2⟩ : ∃ svl' : List Value, sv' = List.toArray svl' ∧ StrsOf svl' (ss ++ if bs = true then [nm] else []) := by
    cases bs with
    | true => exact ⟨svl ++ [.str nm u], by rw [hsv]; simp, strsOf_snoc hss⟩
    | false => exact ⟨svl, by rw [hsv]; simp, by simpa using hss⟩
  subst hsv1
  rw [stored_new hnk] at ho'
  have N5 : News g L h4 ((t9, tup2 (.str (Str.ofString "read") k1) (.int (vs.length : Int) k2)) :: (tp, lst #[.ref cl, .int a ta] n) :: (fd, o') :: (sd, lst (List.toArray svl') sn') :: (rl, lst (List.toArray vs') n5) :: (fz ++ rled)) :=
    cb_drop N5' (memCons (.head _) (memCons (.tail _ (.tail _ (.tail _ (.head _)))) (memCons (.tail _ (.tail _ (.tail _ (.tail _ (.head _))))) (memCons (.tail _ (.tail _ (.tail _ (.tail _ (.tail _ (.head _)))))) (memCons (.tail _ (.head _)) fun p hp => .tail _ (.tail _ (.tail _ (.tail _ (.tail _ (.tail _ hp))))))))))
  clear N5' hsv
  have mz : ∀ p ∈ fz, p ∈ (rl, lst (List.toArray vs') n5) :: (fz ++ rled) := fun p hp => .tail _ (List.mem_append_left _ hp)
  have S5' := S.more mz fun p hp => by
    rcases List.mem_cons.mp hp with rfl | hp
    · exact .inr ⟨Ne.symm (q8 (tp, _) (.tail _ (.head _))).1, Ne.symm (q8 (fd, _) (.tail _ (.tail _ (.head _)))).1, Ne.symm (q8 (sd, _) (.tail _ (.tail _ (.tail _ (.head _))))).1⟩
    · rcases List.mem_append.mp hp with hp | hp
      · exact .inl hp
      · exact .inr ⟨Ne.symm ((q9 p hp).2.2 (tp, _) (.tail _ (.head _))), Ne.symm ((q9 p hp).2.2 (fd, _) (.tail _ (.tail _ (.head _)))), Ne.symm ((q9 p hp).2.2 (sd, _) (.tail _ (.tail _ (.tail _ (.head _)))))⟩
  have S5 : LFx w L tp cl D dD fd sd ed o' (kvs ++ [(nm, .ref rl)]) ((rl, lst (List.toArray vs') n5) :: (fz ++ rled)) := ⟨S5'.T, S5'.hD, S5'.hdD, S5'.hed, S5'.lo, ho', S5'.off1, S5'.off2, S5'.off3, S5'.ap1, S5'.ap2, S5'.ap3⟩
  have f5 := filesIn_snoc (nm := nm) (.head _) (by have := rootsIn_len hroots; omega) (rootsIn_mono (fun p hp => .tail _ (List.mem_append_right _ hp)) hroots) (filesIn_mono mz hf)
  have hseen5 := seenAt_mono mz hseen
  have hp5 := mz _ hp
  have hsl5 := strsOf_len hsv2
  have hsl6 := strsOf_len hss
  have hsl7 : svl'.length ≤ 1000 := by
    rw [hsl5, List.length_append]
    cases bs with
    | true => simp only [if_true, List.length_cons, List.length_nil]; omega
    | false => simp only [Bool.false_eq_true, if_false, List.length_nil]; omega
  clear q8 q9 q10 ho' hroots S5' S hf hseen hss
  generalize (rl, lst (List.toArray vs') n5) :: (fz ++ rled) = fzn at *
  k_steps
  (with_reducible rename Fr g _ _ _ => kF)
  (with_reducible rename News g _ _ _ => kN)
  refine Hold.mk (len_list (isl kN (.tail _ (.tail _ (.tail _ (.tail _ hp5)))) rfl) (by simp only [List.size_toArray]; omega) ?_)
  rw [List.size_toArray]
  k_steps
  (with_reducible rename Fr g _ _ _ => kF)
  (with_reducible rename News g _ _ _ => kN)
  obtain ⟨as1, r1⟩ := reads_si kN (t := t9) (.tail _ (.head _))
  obtain ⟨as2, r2⟩ := reads_si kN (x := Str.ofString "read") (i := (vs.length : Int)) (.head _)
  obtain ⟨f1, f2, f3⟩ := si_facts (x := Str.ofString "read") (i := (vs.length : Int)) (by decide +kernel)
  refine Hold.mk (ne_same r1 r2 f1 f2 f3 (by simp only [units_deeper]; omega) ?_)
  clear r1 r2 f1 f2 f3
  have N6 := cb_drop kN (fun p hp => .tail _ (.tail _ hp))
  clear kN
  k_steps
  (with_reducible rename Fr g _ _ _ => kF)
  (with_reducible rename News g _ _ _ => kN)
  refine Hold.mk (law_seen B X T room hun kF kN S5 (fun p hp => .tail _ (.tail _ (.tail _ hp))) (.tail _ (.head _)) (.tail _ (.tail _ (.head _))) f5 (by simp only [List.length_append, List.length_cons, List.length_nil]; omega) hsl7 hsv2 ?_)
  intro t2 fl2 sl2 rled2 h5 tk5 hs2 F5 N5' q5 q6
  have N7 : News g L h5 ((t2, tup2 (.ref fl2) (.ref sl2)) :: (tp, lst #[.ref cl, .int a ta] n) :: (fd, o') :: (sd, lst (List.toArray svl') sn') :: (rled2 ++ fzn)) :=
    cb_drop N5' (memCons (.head _) (memCons (.tail _ (List.mem_append_right _ (.head _))) (memCons (.tail _ (List.mem_append_right _ (.tail _ (.head _)))) (memCons (.tail _ (List.mem_append_right _ (.tail _ (.tail _ (.head _))))) (fun p hp => .tail _ ((List.mem_append.mp hp).elim (fun hp => List.mem_append_left _ hp) fun hp => List.mem_append_right _ (.tail _ (.tail _ (.tail _ hp)))))))))
  clear N5' kN kF q5 q6
  k_steps
  (with_reducible rename Fr g _ _ _ => kF)
  (with_reducible rename News g _ _ _ => kN)
  obtain ⟨as1, r1⟩ := reads_SD kN (seenAt_mono (fun p hp => .tail _ (.tail _ (.tail _ (.tail _ (.tail _ (List.mem_append_left _ hp)))))) hs2) (t := t2) (.tail _ (.head _))
  obtain ⟨as2, r2⟩ := reads_SD kN (seenAt_mono (fun p hp => .tail _ (.tail _ (.tail _ (.tail _ (.tail _ (List.mem_append_right _ hp)))))) hseen5) (.head _)
  obtain ⟨f1, f2, f3⟩ := SD_facts hfo hso
  refine Hold.mk (ne_same r1 r2 f1 f2 f3 (by simp only [units_deeper]; omega) ?_)
  clear r1 r2 f1 f2 f3
  have N8 : News g L _ ((tp, lst #[.ref cl, .int a ta] n) :: (fd, o') :: (sd, lst (List.toArray svl') sn') :: fzn) := cb_drop kN (memCons (.tail _ (.tail _ (.head _))) (memCons (.tail _ (.tail _ (.tail _ (.head _)))) (memCons (.tail _ (.tail _ (.tail _ (.tail _ (.head _))))) (fun p hp => .tail _ (.tail _ (.tail _ (.tail _ (.tail _ (List.mem_append_right _ hp)))))))))
  clear kN
  k_steps
  (with_reducible rename Fr g _ _ _ => kF)
  (with_reducible rename News g _ _ _ => kN)
  exact h o' _ svl' sn' fzn _ _ kF kN S5 f5 hsv2 mz
end
set_option maxHeartbeats 400000
theorem strsAre_of : ∀ {xs : List Value} {ss : List Str}, StrsOf xs ss → StrsAre xs ss
  | _, _, ⟨[], rfl, rfl⟩ => .nil
  | _, _, ⟨(x, t) :: r, rfl, rfl⟩ => .cons x t (strsAre_of (⟨r, rfl, rfl⟩ : StrsOf (strValues r) (r.map (fun y => y.1))))
theorem seen_at {nw : List (Addr × Obj)} : ∀ {ys : List Value} {fs : List (Str × List Str)} {i : Nat} {y : Value}, SeenL nw ys fs → ys[i]? = some y → ∃ f T li t, fs[i]? = some f ∧ y = .ref T ∧ (T, tup2 (.str f.1 t) (.ref li)) ∈ nw
  | [], [], i, y, _, e => by simp at e
  | y' :: ys, f :: fs, 0, y, ⟨⟨T, li, t, xs, n, e1, h1, _⟩, _⟩, e => by
    simp only [List.getElem?_cons_zero, Option.some.injEq] at e
    subst e
    exact ⟨f, T, li, t, rfl, e1, h1⟩
  | y' :: ys, f :: fs, i + 1, y, ⟨_, r⟩, e => by
    rw [List.getElem?_cons_succ] at e
    obtain ⟨g, a⟩ := seen_at r e
    exact ⟨g, by simpa only [List.getElem?_cons_succ] using a⟩
  | [], _ :: _, _, _, h, _ => h.elim
  | _ :: _, [], _, _, h, _ => h.elim
section
local macro_rules
  | `(tactic| walk_at "execs cons If nil") => zst
  | `(tactic| walk_at "execs cons Assign cons") => zst
  | `(tactic| walk_at "compareOp In str ref") => zst
variable {w : World} {g : Heap} {L fa : Addr} {cd : Value} {mean : ExcName → Option Value} {mg mb : Str → Option Value} {s : Shared} {m : Str → Option Value} {Q : Flow → Shared → Prop} {tp cl D dD fd sd pl bb fl sl tl : Addr} {ed : List DictEntry} {o : Obj} {kvs : List (Str × Value)} {fz : List (Addr × Obj)} {sn n n1 n2 ta tn : Nat} {a : Int} {vs tvs : List Value} {ps : List (Str × Str)} {bs : Bool} {titles : List Str} {nm z : Str} {fs : List (Str × List Str)} {ss : List Str} {svl : List Value} {e9 j9 : Int} {tb ub : Tok}
theorem s_10 {st : Stmt} {tt ee : List Stmt} (hst : st = ls 10) (htt : tt = T10) (hee : ee = E10) (B : Below callerA g [] g) (X : (KK w.params).In g) (T : Top vw lz mean mg mb g) (room : callerA.depth + 60 < recursionLimit) (hun : callerA.units + 600 < cLine)
    (hm1 : m (Str.ofString "titles") = some (.ref tl)) (hm2 : m (Str.ofString "name") = some (.str nm tn)) (hm3 : m (Str.ofString "files") = some (.ref fl))
    (F : Fr g L s.heap m) (N : News g L s.heap ((tp, lst #[.ref cl, .int a ta] n) :: (fd, o) :: (sd, lst (List.toArray svl) sn) :: fz)) (hseen : SeenAt fz fl sl fs ss) (hfl : fs.length ≤ 100)
    (ht : (tl, lst (List.toArray tvs) n2) ∈ fz) (hts : StrsOf tvs titles)
    (hT : ∀ h' tk', Fr g L h' m → News g L h' ((tp, lst #[.ref cl, .int a ta] n) :: (fd, o) :: (sd, lst (List.toArray svl) sn) :: fz) → (nm ∈ fs.map (·.1) ∨ titles = []) → wpAny (model PG w) (LA L fa cd) (execs tt (LE L fa cd)) Q (fun _ _ => False) { s with heap := h', toks := tk' })
    (hE : ∀ h' tk', Fr g L h' m → News g L h' ((tp, lst #[.ref cl, .int a ta] n) :: (fd, o) :: (sd, lst (List.toArray svl) sn) :: fz) → nm ∉ fs.map (·.1) → titles ≠ [] → wpAny (model PG w) (LA L fa cd) (execs ee (LE L fa cd)) Q (fun _ _ => False) { s with heap := h', toks := tk' }) :
    wpAny (model PG w) (LA L fa cd) (exec st (LE L fa cd)) Q (fun _ _ => False) s := by
  subst hst htt hee
  obtain ⟨⟨ys, n3, hfl1, hfl2⟩, xs, n4, hsl1, hsl2⟩ := hseen
  obtain ⟨m0, e0⟩ := m_as hm1
  subst e0
  replace hm2 : m0 (Str.ofString "name") = some (.str nm tn) := hm2
  replace hm3 : m0 (Str.ofString "files") = some (.ref fl) := hm3
  obtain ⟨m1, e1⟩ := m_as hm2
  subst e1
  replace hm3 : m1 (Str.ofString "files") = some (.ref fl) := hm3
  obtain ⟨m2, e2⟩ := m_as hm3
  subst e2
  unfold LA LE
  rw [ls_of (by with_unfolding_all rfl) 10 (by with_unfolding_all rfl), sc_of (by with_unfolding_all rfl)]
  (try k_fold)
  k_steps
  (with_reducible rename Fr g _ _ _ => kF)
  (with_reducible rename News g _ _ _ => kN)
  refine Hold.mk (eq_nil (xs := tvs) (isl kN (.tail _ (.tail _ (.tail _ (.tail _ ht)))) rfl) (isl0 kN (.head _) rfl) (by simp only [units_deeper]; omega) ?_)
  have N4 := cb_drop kN (fun p hp => .tail _ hp)
  clear kN
  have hlen := strsOf_len hts
  cases tvs with
  | nil =>
    k_steps
    (with_reducible rename Fr g _ _ _ => kF)
    (with_reducible rename News g _ _ _ => kN)
    exact Hold.mk (hT _ _ kF kN (.inr (List.eq_nil_of_length_eq_zero hlen.symm)))
  | cons v9 r9 =>
    have hne : titles ≠ [] := fun e => by subst e; cases hlen
    rw [show (v9 :: r9).isEmpty = false from rfl]
    k_steps
    (with_reducible rename Fr g _ _ _ => kF)
    (with_reducible rename News g _ _ _ => kN)
    refine Hold.mk (LCg.ListComp_U (F₀ := kF) (by with_unfolding_all rfl) (by decide) (by rfl) (by decide) (by rfl) ?_)
    k_steps
    (with_reducible rename Fr g _ _ _ => kF)
    (with_reducible rename News g _ _ _ => kN)
    refine Hold.mk (LCg.CompSrc.ledger rfl kF kN (.tail _ (.tail _ (.tail _ hfl1))) (size_line (by simp only [List.size_toArray]; have := seenL_len hfl2; omega)) fun g' => ?_)
    clear kF kN
    refine comp_ind (J := fun i ys' nw => nw = (tp, lst #[.ref cl, .int a ta] n) :: (fd, o) :: (sd, lst (List.toArray svl) sn) :: fz ∧ StrsOf ys' ((fs.map (·.1)).take i)) (fun ys' nw hJ => ?_) (fun i ys' nw hi hJ v I oI C oC D' m₂ h tk E' hP hC hx F N off ne => ?_) _ 0 [] _ (Nat.zero_add _) ⟨rfl, [], rfl, rfl⟩
    · obtain ⟨rfl, hst⟩ := hJ
      intro D1 h1 tk1 F1 N1 off1
      k_steps
      (with_reducible rename Fr g _ _ _ => kF)
      (with_reducible rename News g _ _ _ => kN)
      have hst2 : StrsOf ys' (fs.map (·.1)) := by
        rw [List.size_toArray, seenL_len hfl2, ← List.length_map (f := fun y : Str × List Str => y.1), List.take_length] at hst
        exact hst
      refine Hold.mk (in_list_strs (isl kN (.head _) rfl) (strsAre_of hst2) ?_)
      have N9 := cb_drop kN (fun p hp => .tail _ hp)
      clear kN
      by_cases hmem : nm ∈ fs.map (·.1)
      · rw [show ((fs.map (·.1)).any (· == nm)) = true by rw [List.any_eq_true]; exact ⟨nm, hmem, by simp⟩]
        k_steps
        (with_reducible rename Fr g _ _ _ => kF)
        (with_reducible rename News g _ _ _ => kN)
        exact Hold.mk (hT _ _ kF kN (.inl hmem))
      · have e9 : ((fs.map (·.1)).any (· == nm)) = false := by
          rw [Bool.eq_false_iff]
          intro q
          obtain ⟨x, hx, q⟩ := List.any_eq_true.mp q
          have e : x = nm := by simpa using q
          exact hmem (e ▸ hx)
        rw [e9]
        k_steps
        (with_reducible rename Fr g _ _ _ => kF)
        (with_reducible rename News g _ _ _ => kN)
        exact Hold.mk (hE _ _ kF kN hmem hne)
    · obtain ⟨rfl, hst⟩ := hJ
      have hP' : ys[i]? = some v := by simpa using hP
      obtain ⟨f, T1, li, t1, hf1, rfl, hT1⟩ := seen_at hfl2 hP'
      have hT2 : (T1, tup2 (.str f.1 t1) (.ref li)) ∈ (tp, lst #[.ref cl, .int a ta] n) :: (fd, o) :: (sd, lst (List.toArray svl) sn) :: fz := .tail _ (.tail _ (.tail _ hT1))
      k_steps
      (with_reducible rename Fr g _ _ _ => kF)
      (with_reducible rename News g _ _ _ => kN)
      exact LCg.CompEnd.intro kF kN _ (fun p hp => hp) off (.inr ⟨_, .tail _ (.tail _ (.tail _ hfl1)), rfl, _, rfl⟩) ⟨rfl, by rw [take_snoc (l := fs.map (·.1)) (a := f.1) (by rw [List.getElem?_map, hf1]; rfl)]; exact strsOf_snoc hst⟩
end
theorem zz13 : Hold True := by first | walk1 | exact ⟨trivial⟩
set_option maxHeartbeats 400000
local macro_rules | `(tactic| walk_at "subscriptTail Name Slice ref ref") => zst
theorem pick_from1 {v0 : Value} {vr : List Value} : kms_pick (v0 :: vr) (some 1) none = vr := by
  have e1 : kms_lo (some 1) (v0 :: vr).length = 1 := by unfold kms_lo; simp
  have e2 : kms_hi none (v0 :: vr).length = vr.length + 1 := rfl
  unfold kms_pick
  rw [e1, e2]
  simp
theorem pick_from1_to {v0 : Value} {vr : List Value} {k : Nat} (h : k ≤ vr.length) : kms_pick (v0 :: vr) (some 1) (some ((k : Int) + 1)) = vr.take k := by
  have e1 : kms_lo (some 1) (v0 :: vr).length = 1 := by unfold kms_lo; simp
  have e2 : kms_hi (some ((k : Int) + 1)) (v0 :: vr).length = k + 1 := by
    unfold kms_hi
    have : ¬ ((k : Int) + 1 < 0) := by omega
    simp only [this, if_false, List.length_cons]
    omega
  unfold kms_pick
  rw [e1, e2]
  simp
theorem pairsIn_take {g : Heap} {fz : List (Addr × Obj)} : ∀ {vs : List Value} {ps : List (Str × Str)} (k : Nat), PairsIn g fz vs ps → PairsIn g fz (vs.take k) (ps.take k)
  | [], [], k, _ => by simp [PairsIn]
  | _ :: _, _ :: _, 0, _ => trivial
  | _ :: _, _ :: _, k + 1, ⟨a, r⟩ => ⟨a, pairsIn_take k r⟩
  | [], _ :: _, _, h => h.elim
  | _ :: _, [], _, h => h.elim
section
variable {w : World} {g : Heap} {L fa : Addr} {cd : Value} {mean : ExcName → Option Value} {mg mb : Str → Option Value} {s : Shared} {m : Str → Option Value} {Q : Flow → Shared → Prop} {tp cl D dD fd sd pl bb fl sl tl : Addr} {ed : List DictEntry} {o : Obj} {kvs : List (Str × Value)} {fz : List (Addr × Obj)} {sn n n1 n2 ta tn th : Nat} {a : Int} {vs tvs : List Value} {ps rem : List (Str × Str)} {bs : Bool} {titles : List Str} {nm z : Str} {p0 : Str × Str} {fs : List (Str × List Str)} {ss : List Str} {svl : List Value} {e9 j9 : Int} {tb ub : Tok}
theorem s_11 {st : Stmt} (hst : st = ls 11) (B : Below callerA g [] g) (X : (KK w.params).In g) (T : Top vw lz mean mg mb g) (room : callerA.depth + 60 < recursionLimit) (hun : callerA.units + 600 < cLine)
    (hm1 : m (Str.ofString "data") = some (.ref D)) (hm4 : m (Str.ofString "is_sort") = some (.bool bs)) (hm5 : m (Str.ofString "pairs") = some (.ref pl))
    (F : Fr g L s.heap m) (N : News g L s.heap ((tp, lst #[.ref cl, .int a ta] n) :: (fd, o) :: (sd, lst (List.toArray svl) sn) :: fz)) (S : LFx w L tp cl D dD fd sd ed o kvs fz)
    (hp : (pl, lst (List.toArray vs) n1) ∈ fz) (hps : PairsIn g fz vs (p0 :: ps)) (hvl : vs.length ≤ 900)
    (run : Run w g D dD fd sd ed o kvs (List.toArray svl) sn bs ((("word", "SECTION") : Str × Str) :: ps) false titles nm e9 0)
    (h : ∀ h' tk', Fr g L h' m → News g L h' ((tp, lst #[.ref cl, .int a ta] n) :: (fd, o) :: (sd, lst (List.toArray svl) sn) :: fz) → Q .next { s with heap := h', toks := tk' }) :
    wpAny (model PG w) (LA L fa cd) (exec st (LE L fa cd)) Q (fun _ _ => False) s := by
  subst hst
  obtain ⟨m0, e0⟩ := m_as hm1
  subst e0
  replace hm4 : m0 (Str.ofString "is_sort") = some (.bool bs) := hm4
  replace hm5 : m0 (Str.ofString "pairs") = some (.ref pl) := hm5
  obtain ⟨m1, e1⟩ := m_as hm4
  subst e1
  replace hm5 : m1 (Str.ofString "pairs") = some (.ref pl) := hm5
  obtain ⟨m2, e2⟩ := m_as hm5
  subst e2
  unfold LA LE
  rw [ls_of (by with_unfolding_all rfl) 11 (by with_unfolding_all rfl), sc_of (by with_unfolding_all rfl)]
  (try k_fold)
  cases vs with
  | nil => exact hps.elim
  | cons v0 vr =>
  obtain ⟨hp0, hpr⟩ := hps
  k_steps
  (with_reducible rename Fr g _ _ _ => kF)
  (with_reducible rename News g _ _ _ => kN)
  (rename (_ < _ ∧ _ < _ ∧ _ < _ ∧ AllLt _ _) => l0)
  (rename (_ < _ ∧ _ < _ ∧ _ < _ ∧ _ < _ ∧ _) => l1)
  rename_i T1 x1 lp x2
  refine Hold.mk ?_
  with_unfolding_all refine kms_slice_lit (its := List.toArray (v0 :: vr)) kF kN (isl kN (.tail _ (.tail _ (.tail _ (.tail _ (.tail _ hp))))) rfl) (.int 1 _) .none pick_from1 (fun D3 h3 F3 N3 hlt3 => ?_) (by with_unfolding_all rfl) (by intro _; with_unfolding_all rfl) (size_line (by simp only [List.size_toArray]; omega))
  clear kF kN
  k_steps
  (with_reducible rename Fr g _ _ _ => kF)
  (with_reducible rename News g _ _ _ => kN)
  refine Hold.mk (kmk_add_lit kF kN (isl kN (vs := [.ref T1]) (.tail _ (.head _)) rfl) (isl kN (.head _) rfl) rfl (fun l4 h4 F4 N4 hlt4 => ?_) (size_line (by simp only [List.length_cons, List.length_nil] at hvl ⊢; omega)))
  have p1 : l4 ≠ fd := Nat.ne_of_gt (hlt4 (fd, o) (.tail _ (.tail _ (.tail _ (.tail _ (.head _))))))
  have p2 : l4 ≠ sd := Nat.ne_of_gt (hlt4 (sd, _) (.tail _ (.tail _ (.tail _ (.tail _ (.tail _ (.head _)))))))
  have N6 : News g L h4 ((l4, lst (List.toArray (.ref T1 :: vr)) 0) :: (tp, lst #[.ref cl, .int a ta] n) :: (fd, o) :: (sd, lst (List.toArray svl) sn) :: (T1, tup2 (.str (Str.ofString "word") s.toks) (.str (Str.ofString "SECTION") (s.toks + 1))) :: fz) :=
    cb_drop N4 (memCons (.head _) (memCons (.tail _ (.tail _ (.tail _ (.tail _ (.head _))))) (memCons (.tail _ (.tail _ (.tail _ (.tail _ (.tail _ (.head _)))))) (memCons (.tail _ (.tail _ (.tail _ (.tail _ (.tail _ (.tail _ (.head _))))))) (memCons (.tail _ (.tail _ (.tail _ (.head _)))) (fun p hp => .tail _ (.tail _ (.tail _ (.tail _ (.tail _ (.tail _ (.tail _ hp)))))))))))) 
  have S6 := S.more (fz' := (T1, tup2 (.str (Str.ofString "word") s.toks) (.str (Str.ofString "SECTION") (s.toks + 1))) :: fz) (fun p hp => .tail _ hp) fun p hp => by
    rcases List.mem_cons.mp hp with rfl | hp
    · exact .inr ⟨Nat.ne_of_gt l0.1, Nat.ne_of_gt l0.2.1, Nat.ne_of_gt l0.2.2.1⟩
    · exact .inl hp
  have q6 : PairsIn g ((T1, tup2 (.str (Str.ofString "word") s.toks) (.str (Str.ofString "SECTION") (s.toks + 1))) :: fz) (.ref T1 :: vr) ((("word", "SECTION") : Str × Str) :: ps) := ⟨⟨T1, _, _, rfl, .inr (.head _)⟩, pairsIn_mono (fun p hp => .tail _ hp) hpr⟩
  have z6 : ∀ p ∈ fz, p ∈ (T1, tup2 (.str (Str.ofString "word") s.toks) (.str (Str.ofString "SECTION") (s.toks + 1))) :: fz := fun p hp => .tail _ hp
  clear kF kN N4 hlt4 hlt3
  generalize (T1, tup2 (.str (Str.ofString "word") s.toks) (.str (Str.ofString "SECTION") (s.toks + 1))) :: fz = fz6 at *
  k_steps
  (with_reducible rename Fr g _ _ _ => kF)
  (with_reducible rename News g _ _ _ => kN)
  refine Hold.mk (law_bad B X T room hun kF kN S6 (fun p hp => .tail _ (.tail _ (.tail _ (.tail _ hp)))) (.tail _ (.tail _ (.head _))) (.tail _ (.tail _ (.tail _ (.head _)))) (.head _) p1 p2 q6 (by simp only [List.length_cons] at hvl ⊢; omega) run ?_)
  intro t9 k1 k2 h5 tk5 F5 N5 q5
  clear kF kN
  have N7 := cb_drop N5 (memCons (.head _) fun p hp => .tail _ (.tail _ hp))
  clear N5 q5
  k_steps
  (with_reducible rename Fr g _ _ _ => kF)
  (with_reducible rename News g _ _ _ => kN)
  obtain ⟨as1, r1⟩ := reads_si kN (t := t9) (.tail _ (.head _))
  obtain ⟨as2, r2⟩ := reads_si kN (x := Str.ofString "wrong") (i := 0) (.head _)
  obtain ⟨f1, f2, f3⟩ := si_facts (x := Str.ofString "wrong") (i := 0) (by decide +kernel)
  refine Hold.mk (ne_same r1 r2 f1 f2 f3 (by simp only [units_deeper]; omega) ?_)
  clear r1 r2 f1 f2 f3
  have N8 : News g L _ ((tp, lst #[.ref cl, .int a ta] n) :: (fd, o) :: (sd, lst (List.toArray svl) sn) :: fz) := cb_drop kN (memCons (.tail _ (.tail _ (.head _))) (memCons (.tail _ (.tail _ (.tail _ (.head _)))) (memCons (.tail _ (.tail _ (.tail _ (.tail _ (.head _))))) (fun p hp => .tail _ (.tail _ (.tail _ (.tail _ (.tail _ (z6 p hp)))))))))
  clear kN
  k_steps
  (with_reducible rename Fr g _ _ _ => kF)
  (with_reducible rename News g _ _ _ => kN)
  exact h _ _ kF kN
end
set_option maxHeartbeats 400000
section
variable {w : World} {g : Heap} {L fa : Addr} {cd : Value} {mean : ExcName → Option Value} {mg mb : Str → Option Value} {s : Shared} {m : Str → Option Value} {Q : Flow → Shared → Prop} {tp cl D dD fd sd pl bb fl sl tl : Addr} {ed : List DictEntry} {o : Obj} {kvs : List (Str × Value)} {fz : List (Addr × Obj)} {sn n n1 n2 ta tn th : Nat} {a : Int} {vs tvs : List Value} {ps rem rest : List (Str × Str)} {bs : Bool} {titles : List Str} {nm z : Str} {p0 : Str × Str} {fs : List (Str × List Str)} {ss : List Str} {svl : List Value} {e9 j9 : Int} {tb ub : Tok}
theorem s_12 {st : Stmt} (hst : st = ls 12) (B : Below callerA g [] g) (X : (KK w.params).In g) (T : Top vw lz mean mg mb g) (room : callerA.depth + 60 < recursionLimit) (hun : callerA.units + 600 < cLine)
    (hm1 : m (Str.ofString "data") = some (.ref D)) (hm2 : m (Str.ofString "files") = some (.ref fl)) (hm3 : m (Str.ofString "sorts") = some (.ref sl)) (hm4 : m (Str.ofString "is_sort") = some (.bool bs)) (hm5 : m (Str.ofString "pairs") = some (.ref pl)) (hm6 : m (Str.ofString "head") = some (.int ((rem.length : Int) + 1) th))
    (F : Fr g L s.heap m) (N : News g L s.heap ((tp, lst #[.ref cl, .int a ta] n) :: (fd, o) :: (sd, lst (List.toArray svl) sn) :: fz)) (S : LFx w L tp cl D dD fd sd ed o kvs fz) (hf : FilesIn w.params fz kvs fs) (hkl : kvs.length ≤ 1000) (hsl : svl.length ≤ 1000) (hss : StrsOf svl ss) (hseen : SeenAt fz fl sl fs ss) (hfo : FsOk fs) (hso : ∀ x ∈ ss, PyData.strOk x = true)
    (hp : (pl, lst (List.toArray vs) n1) ∈ fz) (hps : PairsIn g fz vs (p0 :: (rem ++ rest))) (hvl : vs.length ≤ 900)
    (run : Run w g D dD fd sd ed o kvs (List.toArray svl) sn bs ((("word", "Z") : Str × Str) :: rem) false titles nm e9 (rem.length : Int))
    (h : ∀ h' tk', Fr g L h' m → Q (.ret (.bool true)) { s with heap := h', toks := tk' }) :
    wpAny (model PG w) (LA L fa cd) (exec st (LE L fa cd)) Q (fun _ _ => False) s := by
  subst hst
  obtain ⟨m0, e0⟩ := m_as hm1
  subst e0
  replace hm2 : m0 (Str.ofString "files") = some (.ref fl) := hm2
  replace hm3 : m0 (Str.ofString "sorts") = some (.ref sl) := hm3
  replace hm4 : m0 (Str.ofString "is_sort") = some (.bool bs) := hm4
  replace hm5 : m0 (Str.ofString "pairs") = some (.ref pl) := hm5
  replace hm6 : m0 (Str.ofString "head") = some (.int ((rem.length : Int) + 1) th) := hm6
  obtain ⟨m1, e1⟩ := m_as hm2
  subst e1
  replace hm3 : m1 (Str.ofString "sorts") = some (.ref sl) := hm3
  replace hm4 : m1 (Str.ofString "is_sort") = some (.bool bs) := hm4
  replace hm5 : m1 (Str.ofString "pairs") = some (.ref pl) := hm5
  replace hm6 : m1 (Str.ofString "head") = some (.int ((rem.length : Int) + 1) th) := hm6
  obtain ⟨m2, e2⟩ := m_as hm3
  subst e2
  replace hm4 : m2 (Str.ofString "is_sort") = some (.bool bs) := hm4
  replace hm5 : m2 (Str.ofString "pairs") = some (.ref pl) := hm5
  replace hm6 : m2 (Str.ofString "head") = some (.int ((rem.length : Int) + 1) th) := hm6
  obtain ⟨m3, e3⟩ := m_as hm4
  subst e3
  replace hm5 : m3 (Str.ofString "pairs") = some (.ref pl) := hm5
  replace hm6 : m3 (Str.ofString "head") = some (.int ((rem.length : Int) + 1) th) := hm6
  obtain ⟨m4, e4⟩ := m_as hm5
  subst e4
  replace hm6 : m4 (Str.ofString "head") = some (.int ((rem.length : Int) + 1) th) := hm6
  obtain ⟨m5, e5⟩ := m_as hm6
  subst e5
  unfold LA LE
  rw [ls_of (by with_unfolding_all rfl) 12 (by with_unfolding_all rfl), sc_of (by with_unfolding_all rfl)]
  (try k_fold)
  cases vs with
  | nil => exact hps.elim
  | cons v0 vr =>
  obtain ⟨hp0, hpr'⟩ := hps
  have hk : rem.length ≤ vr.length := by
    have := pairsIn_len hpr'
    rw [List.length_append] at this
    omega
  have hpr := pairsIn_take rem.length hpr'
  rw [List.take_left'  rfl] at hpr
  clear hpr'
  k_steps
  (with_reducible rename Fr g _ _ _ => kF)
  (with_reducible rename News g _ _ _ => kN)
  (rename (_ < _ ∧ _ < _ ∧ _ < _ ∧ AllLt _ _) => l0)
  (rename (_ < _ ∧ _ < _ ∧ _ < _ ∧ _ < _ ∧ _) => l1)
  rename_i T1 x1 lp x2
  refine Hold.mk ?_
  with_unfolding_all refine kms_slice_lit (its := List.toArray (v0 :: vr)) kF kN (isl kN (.tail _ (.tail _ (.tail _ (.tail _ (.tail _ hp))))) rfl) (.int 1 _) (.int _ th) (pick_from1_to hk) (fun D3 h3 F3 N3 hlt3 => ?_) (by with_unfolding_all rfl) (by intro _; with_unfolding_all rfl) (size_line (by simp only [List.size_toArray]; omega))
  clear kF kN
  k_steps
  (with_reducible rename Fr g _ _ _ => kF)
  (with_reducible rename News g _ _ _ => kN)
  refine Hold.mk (kmk_add_lit kF kN (isl kN (vs := [.ref T1]) (.tail _ (.head _)) rfl) (isl kN (.head _) rfl) rfl (fun l4 h4 F4 N4 hlt4 => ?_) (size_line (by simp only [List.length_cons, List.length_nil, List.length_take] at hvl ⊢; omega)))
  have p1 : l4 ≠ fd := Nat.ne_of_gt (hlt4 (fd, o) (.tail _ (.tail _ (.tail _ (.tail _ (.head _))))))
  have p2 : l4 ≠ sd := Nat.ne_of_gt (hlt4 (sd, _) (.tail _ (.tail _ (.tail _ (.tail _ (.tail _ (.head _)))))))
  have N6 : News g L h4 ((l4, lst (List.toArray (.ref T1 :: vr.take rem.length)) 0) :: (tp, lst #[.ref cl, .int a ta] n) :: (fd, o) :: (sd, lst (List.toArray svl) sn) :: (T1, tup2 (.str (Str.ofString "word") s.toks) (.str (Str.ofString "Z") (s.toks + 1))) :: fz) :=
    cb_drop N4 (memCons (.head _) (memCons (.tail _ (.tail _ (.tail _ (.tail _ (.head _))))) (memCons (.tail _ (.tail _ (.tail _ (.tail _ (.tail _ (.head _)))))) (memCons (.tail _ (.tail _ (.tail _ (.tail _ (.tail _ (.tail _ (.head _))))))) (memCons (.tail _ (.tail _ (.tail _ (.head _)))) (fun p hp => .tail _ (.tail _ (.tail _ (.tail _ (.tail _ (.tail _ (.tail _ hp)))))))))))) 
  have S6 := S.more (fz' := (T1, tup2 (.str (Str.ofString "word") s.toks) (.str (Str.ofString "Z") (s.toks + 1))) :: fz) (fun p hp => .tail _ hp) fun p hp => by
    rcases List.mem_cons.mp hp with rfl | hp
    · exact .inr ⟨Nat.ne_of_gt l0.1, Nat.ne_of_gt l0.2.1, Nat.ne_of_gt l0.2.2.1⟩
    · exact .inl hp
  have q6 : PairsIn g ((T1, tup2 (.str (Str.ofString "word") s.toks) (.str (Str.ofString "Z") (s.toks + 1))) :: fz) (.ref T1 :: vr.take rem.length) ((("word", "Z") : Str × Str) :: rem) := ⟨⟨T1, _, _, rfl, .inr (.head _)⟩, pairsIn_mono (fun p hp => .tail _ hp) hpr⟩
  have z6 : ∀ p ∈ fz, p ∈ (T1, tup2 (.str (Str.ofString "word") s.toks) (.str (Str.ofString "Z") (s.toks + 1))) :: fz := fun p hp => .tail _ hp
  clear kF kN N4 hlt4 hlt3
  generalize (T1, tup2 (.str (Str.ofString "word") s.toks) (.str (Str.ofString "Z") (s.toks + 1))) :: fz = fz6 at *
  k_steps
  (with_reducible rename Fr g _ _ _ => kF)
  (with_reducible rename News g _ _ _ => kN)
  refine Hold.mk (law_bad B X T room hun kF kN S6 (fun p hp => .tail _ (.tail _ (.tail _ (.tail _ hp)))) (.tail _ (.tail _ (.head _))) (.tail _ (.tail _ (.tail _ (.head _)))) (.head _) p1 p2 q6 (by simp only [List.length_cons, List.length_take] at hvl ⊢; omega) run ?_)
  intro t9 k1 k2 h5 tk5 F5 N5 q5
  clear kF kN
  have N7 := cb_drop N5 (memCons (.head _) fun p hp => .tail _ (.tail _ hp))
  clear N5 q5
  k_steps
  (with_reducible rename Fr g _ _ _ => kF)
  (with_reducible rename News g _ _ _ => kN)
  rw [show (rem.length : Int) + 1 - 1 = (rem.length : Int) by omega] at kN
  obtain ⟨as1, r1⟩ := reads_si kN (t := t9) (.tail _ (.head _))
  obtain ⟨as2, r2⟩ := reads_si kN (x := Str.ofString "wrong") (i := (rem.length : Int)) (.head _)
  obtain ⟨f1, f2, f3⟩ := si_facts (x := Str.ofString "wrong") (i := (rem.length : Int)) (by decide +kernel)
  refine Hold.mk (eq_same r1 r2 f1 f2 f3 (by simp only [units_deeper]; omega) ?_)
  clear r1 r2 f1 f2 f3
  have N8 : News g L _ ((tp, lst #[.ref cl, .int a ta] n) :: (fd, o) :: (sd, lst (List.toArray svl) sn) :: fz) := cb_drop kN (memCons (.tail _ (.tail _ (.head _))) (memCons (.tail _ (.tail _ (.tail _ (.head _)))) (memCons (.tail _ (.tail _ (.tail _ (.tail _ (.head _))))) (fun p hp => .tail _ (.tail _ (.tail _ (.tail _ (.tail _ (z6 p hp)))))))))
  clear kN
  k_steps
  (with_reducible rename Fr g _ _ _ => kF)
  (with_reducible rename News g _ _ _ => kN)
  refine Hold.mk (law_seen B X T room hun kF kN S (fun p hp => .tail _ (.tail _ (.tail _ hp))) (.tail _ (.head _)) (.tail _ (.tail _ (.head _))) hf hkl hsl hss ?_)
  intro t2 fl2 sl2 rled h6 tk6 hs2 F6 N9' q7 q8
  have N9 : News g L h6 ((t2, tup2 (.ref fl2) (.ref sl2)) :: (tp, lst #[.ref cl, .int a ta] n) :: (fd, o) :: (sd, lst (List.toArray svl) sn) :: (rled ++ fz)) :=
    cb_drop N9' (memCons (.head _) (memCons (.tail _ (List.mem_append_right _ (.head _))) (memCons (.tail _ (List.mem_append_right _ (.tail _ (.head _)))) (memCons (.tail _ (List.mem_append_right _ (.tail _ (.tail _ (.head _))))) (fun p hp => .tail _ ((List.mem_append.mp hp).elim (fun hp => List.mem_append_left _ hp) fun hp => List.mem_append_right _ (.tail _ (.tail _ (.tail _ hp)))))))))
  clear N9' kN kF q7 q8
  k_steps
  (with_reducible rename Fr g _ _ _ => kF)
  (with_reducible rename News g _ _ _ => kN)
  obtain ⟨as1, r1⟩ := reads_SD kN (seenAt_mono (fun p hp => .tail _ (.tail _ (.tail _ (.tail _ (.tail _ (List.mem_append_left _ hp)))))) hs2) (t := t2) (.tail _ (.head _))
  obtain ⟨as2, r2⟩ := reads_SD kN (seenAt_mono (fun p hp => .tail _ (.tail _ (.tail _ (.tail _ (.tail _ (List.mem_append_right _ hp)))))) hseen) (.head _)
  obtain ⟨f1, f2, f3⟩ := SD_facts hfo hso
  refine Hold.mk (eq_same r1 r2 f1 f2 f3 (by simp only [units_deeper]; omega) ?_)
  clear r1 r2 f1 f2 f3
  k_steps
  (with_reducible rename Fr g _ _ _ => kF)
  exact h _ _ kF
end
set_option maxHeartbeats 4000000
theorem nm_facts {nm : Str} (h : nm ∈ (["H", "F", "G", "K"] : List Str)) : nm.length ≤ 100 ∧ (!rsv nm) = true ∧ PyData.strOk nm = true := by
  simp only [List.mem_cons, List.not_mem_nil, or_false] at h
  rcases h with rfl | rfl | rfl | rfl
  · exact ⟨by decide +kernel, rsv_H, by decide +kernel⟩
  · exact ⟨by decide +kernel, rsv_F, by decide +kernel⟩
  · exact ⟨by decide +kernel, rsv_G, by decide +kernel⟩
  · exact ⟨by decide +kernel, rsv_K, by decide +kernel⟩
theorem ti_facts {k : Nat} : ((["R0", "R1"] : List Str).take k).length ≤ 2 ∧ ∀ y ∈ (["R0", "R1"] : List Str).take k, (y.length ≤ 100 ∧ (!rsv y) = true) ∧ PyData.strOk y = true := by
  refine ⟨by rw [List.length_take]; exact Nat.min_le_right _ _, fun y hy => ?_⟩
  have hy := List.mem_of_mem_take hy
  simp only [List.mem_cons, List.not_mem_nil, or_false] at hy
  rcases hy with rfl | rfl
  · exact ⟨⟨by decide +kernel, rsv_R0⟩, by decide +kernel⟩
  · exact ⟨⟨by decide +kernel, rsv_R1⟩, by decide +kernel⟩
theorem z_facts : ("Z" : Str).length ≤ 100 ∧ (!rsv "Z") = true := ⟨by decide +kernel, rsv_Z⟩
theorem ne_names : (Str.ofString "data" ≠ Str.ofString "pairs" ∧ Str.ofString "files" ≠ Str.ofString "pairs" ∧ Str.ofString "sorts" ≠ Str.ofString "pairs" ∧ Str.ofString "is_sort" ≠ Str.ofString "pairs" ∧ Str.ofString "name" ≠ Str.ofString "pairs" ∧ Str.ofString "head" ≠ Str.ofString "pairs" ∧ Str.ofString "titles" ≠ Str.ofString "pairs") ∧
    (Str.ofString "data" ≠ Str.ofString "head" ∧ Str.ofString "files" ≠ Str.ofString "head" ∧ Str.ofString "sorts" ≠ Str.ofString "head" ∧ Str.ofString "is_sort" ≠ Str.ofString "head" ∧ Str.ofString "name" ≠ Str.ofString "head" ∧ Str.ofString "pairs" ≠ Str.ofString "head") ∧
    (Str.ofString "data" ≠ Str.ofString "titles" ∧ Str.ofString "files" ≠ Str.ofString "titles" ∧ Str.ofString "sorts" ≠ Str.ofString "titles" ∧ Str.ofString "is_sort" ≠ Str.ofString "titles" ∧ Str.ofString "name" ≠ Str.ofString "titles" ∧ Str.ofString "head" ≠ Str.ofString "titles") ∧
    (Str.ofString "data" ≠ Str.ofString "spot" ∧ Str.ofString "files" ≠ Str.ofString "spot" ∧ Str.ofString "sorts" ≠ Str.ofString "spot" ∧ Str.ofString "is_sort" ≠ Str.ofString "spot" ∧ Str.ofString "name" ≠ Str.ofString "spot" ∧ Str.ofString "head" ≠ Str.ofString "spot") ∧
    (Str.ofString "data" ≠ Str.ofString "behind" ∧ Str.ofString "files" ≠ Str.ofString "behind" ∧ Str.ofString "sorts" ≠ Str.ofString "behind" ∧ Str.ofString "is_sort" ≠ Str.ofString "behind" ∧ Str.ofString "name" ≠ Str.ofString "behind" ∧ Str.ofString "head" ≠ Str.ofString "behind" ∧ Str.ofString "pairs" ≠ Str.ofString "behind" ∧ Str.ofString "titles" ≠ Str.ofString "behind") ∧
    (Str.ofString "data" ≠ Str.ofString "files" ∧ Str.ofString "is_sort" ≠ Str.ofString "files" ∧ Str.ofString "head" ≠ Str.ofString "files" ∧ Str.ofString "pairs" ≠ Str.ofString "files" ∧ Str.ofString "behind" ≠ Str.ofString "files") ∧
    (Str.ofString "data" ≠ Str.ofString "sorts" ∧ Str.ofString "is_sort" ≠ Str.ofString "sorts" ∧ Str.ofString "head" ≠ Str.ofString "sorts" ∧ Str.ofString "pairs" ≠ Str.ofString "sorts" ∧ Str.ofString "behind" ≠ Str.ofString "sorts") := by decide +kernel
section
variable {w : World} {g : Heap} {L fa : Addr} {cd : Value} {mean : ExcName → Option Value} {mg mb : Str → Option Value} {s : Shared} {m : Str → Option Value} {Q : Flow → Shared → Prop}
theorem law_end {x11 x12 : Stmt} (y11 : x11 = ls 11) (y12 : x12 = ls 12) {tp cl D dD fd sd pl fl sl : Addr} {a : Int} {ta n n1 sn th : Nat} {ed : List DictEntry} {o : Obj} {kvs : List (Str × Value)} {fz : List (Addr × Obj)} {vs svl : List Value} {rem rest : List (Str × Str)} {bs : Bool} {nm : Str} {fs : List (Str × List Str)} {ss : List Str} (B : Below callerA g [] g) (X : (KK w.params).In g) (T : Top vw lz mean mg mb g) (room : callerA.depth + 60 < recursionLimit) (hun : callerA.units + 600 < cLine)
    (hm1 : m (Str.ofString "data") = some (.ref D)) (hm2 : m (Str.ofString "files") = some (.ref fl)) (hm3 : m (Str.ofString "sorts") = some (.ref sl)) (hm4 : m (Str.ofString "is_sort") = some (.bool bs)) (hm5 : m (Str.ofString "pairs") = some (.ref pl)) (hm6 : m (Str.ofString "head") = some (.int ((rem.length : Int) + 1) th))
    (F : Fr g L s.heap m) (N : News g L s.heap ((tp, lst #[.ref cl, .int a ta] n) :: (fd, o) :: (sd, lst (List.toArray svl) sn) :: fz)) (S : LFx w L tp cl D dD fd sd ed o kvs fz) (hf : FilesIn w.params fz kvs fs) (hfl : fs.length ≤ 100) (hsl : ss.length ≤ 100) (hss : StrsOf svl ss) (hseen : SeenAt fz fl sl fs ss) (hfo : FsOk fs) (hso : ∀ x ∈ ss, PyData.strOk x = true)
    (hp : (pl, lst (List.toArray vs) n1) ∈ fz) (hps : PairsIn g fz vs ((("word", nm) : Str × Str) :: (rem ++ rest))) (hvl : vs.length ≤ 900) (hno : ∀ p ∈ rem, (p.1 == ("sign" : Str) && p.2 == (("." : Str))) = false)
    (h : ∀ h' tk', g.StaysIn h' → Q (.ret (.bool true)) { s with heap := h', toks := tk' }) :
    wpAny (model PG w) (LA L fa cd) (execs [x11, x12] (LE L fa cd)) Q (fun _ _ => False) s := by
  have hkl : kvs.length ≤ 1000 := by
    have := congrArg List.length (filesIn_keys hf)
    simp only [List.length_map] at this
    omega
  have hsv : svl.length ≤ 1000 := by have := strsOf_len hss; omega
  refine wpAny_execs_cons (s_11 y11 B X T room hun hm1 hm4 hm5 F N S hp hps hvl (run_bad (titles := []) (nm := nm) (e9 := 0) S.hed S.lo S.ho) fun h1 tk1 F1 N1 => ?_)
  refine wpAny_execs_cons (s_12 y12 (nm := "Z") (titles := []) (e9 := 0) B X T room hun hm1 hm2 hm3 hm4 hm5 hm6 F1 N1 S hf hkl hsv hss hseen hfo hso hp hps hvl (run_wrong S.hed S.lo S.ho z_facts.1 z_facts.2 hno) fun h2 tk2 F2 => ?_)
  exact h h2 tk2 F2.keep
theorem law_runs {h₁ : Heap} {tk : Nat} {cells : List (Addr × Obj)} {sa : Addr} {vs : List Value} {ns : List Int} (X : (KK w.params).In s.heap) (T : Top vw lz mean mg mb s.heap) (room : callerA.depth + 60 < recursionLimit) (hun : callerA.units + 600 < cLine)
    (hs : s.heap.IsList sa vs.toArray) (hi : IntsAre vs ns) (hn : ns.length ≤ 63)
    (F : Fr s.heap s.heap.objs.size h₁ (bindL (LE s.heap.objs.size fa cd).kindOf [(Str.ofString "script", .ref sa)] fun _ => none)) (N : News s.heap s.heap.objs.size h₁ cells) (Y : CellsAre (bindC (LE s.heap.objs.size fa cd).kindOf [(Str.ofString "script", .ref sa)] fun _ => none) (cellsFrom (s.heap.objs.size + 1) LSc.names []) cells)
    (h : ∀ h' tk', s.heap.StaysIn h' → Q (.ret (.bool true)) { s with heap := h', toks := tk' }) :
    wpAny (model PG w) (LA s.heap.objs.size fa cd) (execs LB (LE s.heap.objs.size fa cd)) Q (fun _ _ => False) { s with heap := h₁, toks := tk } := by
  have B : Below callerA s.heap [] s.heap := below_caller s.heap
  obtain ⟨⟨a1, a2, a3, a4, a5, a6, a7⟩, ⟨b1, b2, b3, b4, b5, b6⟩, ⟨c1, c2, c3, c4, c5, c6⟩, ⟨d1, d2, d3, d4, d5, d6⟩, ⟨e1, e2, e3, e4, e5, e6, e7, e8⟩, ⟨f1, f2, f3, f4, f5⟩, g1, g2, g3, g4, g5⟩ := ne_names
  rw [LB_eq]
  generalize y0 : ls 0 = x0
  generalize y1 : ls 1 = x1
  generalize y2 : ls 2 = x2
  generalize y3 : ls 3 = x3
  generalize y4 : ls 4 = x4
  generalize y5 : ls 5 = x5
  generalize y6 : ls 6 = x6
  generalize y7 : ls 7 = x7
  generalize y8 : ls 8 = x8
  generalize y9 : ls 9 = x9
  generalize y10 : ls 10 = x10
  generalize y11 : ls 11 = x11
  generalize y12 : ls 12 = x12
  have hcell : ∃ oc, cells = [(s.heap.objs.size + 1, oc)] ∧ oc.data = .cell none := by
    have Y2 := Y
    rw [sc_of (by with_unfolding_all rfl)] at Y2
    obtain ⟨oc, hE, dd⟩ := CellsAre.one Y2
    exact ⟨oc, hE, dd⟩
  obtain ⟨oc, rfl, hoc⟩ := hcell
  have hsc : (bindL (LE s.heap.objs.size fa cd).kindOf [(Str.ofString "script", .ref sa)] fun _ => none) (Str.ofString "script") = some (.ref sa) := by
    unfold LE
    rw [sc_of (by with_unfolding_all rfl)]
    rfl
  refine wpAny_execs_cons (s_0 y0.symm B X T F N hoc hsc hs hi hn fun tp cl ta n fz h1 tk1 F1 N1 TT hlt => ?_)
  show wpAny (model PG w) (LA s.heap.objs.size fa cd) (execs _ _) _ _ { s with heap := h1, toks := tk1 }
  refine wpAny_execs_cons (s_1 y1.symm B X T room F1 N1 TT hlt fun D dD fd sd ed o fz1 m1 h2 tk2 hm1 F2 N2 S2 => ?_)
  show wpAny (model PG w) (LA s.heap.objs.size fa cd) (execs _ _) _ _ { s with heap := h2, toks := tk2 }
  refine wpAny_execs_cons (s_2 y2.symm B X T room hm1 F2 N2 S2 fun k1 ta3 n3 o3 kvs fs fz3 m3 h3 tk3 hm3 F3 N3 S3 hf3 hk3 hfo => ?_)
  show wpAny (model PG w) (LA s.heap.objs.size fa cd) (execs _ _) _ _ { s with heap := h3, toks := tk3 }
  have hfl : fs.length ≤ 2 := by
    have := congrArg List.length hk3
    rw [List.length_map, List.length_take] at this
    simp only [List.length_cons, List.length_nil] at this
    omega
  have hkl : kvs.length ≤ 2 := by
    have := congrArg List.length (filesIn_keys hf3)
    simp only [List.length_map] at this
    omega
  refine wpAny_execs_cons (s_3 y3.symm B X T room hun hm3 F3 N3 S3 hf3 (by omega) fun fl sl fz4 m4 h4 tk4 hd4 hfl4 hsl4 F4 N4 S4 hf4 hs4 => ?_)
  show wpAny (model PG w) (LA s.heap.objs.size fa cd) (execs _ _) _ _ { s with heap := h4, toks := tk4 }
  refine wpAny_execs_cons (s_4 y4.symm B X T room hd4 hfl4 hsl4 F4 N4 S4 fun ta5 n5 nm tn bs m5 h5 tk5 hd5 hfl5 hsl5 hnm5 hbs5 hnm F5 N5 => ?_)
  show wpAny (model PG w) (LA s.heap.objs.size fa cd) (execs _ _) _ _ { s with heap := h5, toks := tk5 }
  obtain ⟨z1, z2, z3⟩ := nm_facts hnm
  refine wpAny_execs_cons (s_5 (fl := fl) (sl := sl) y5.symm B X T room hnm5 F5 N5 S4 fun pl vs6 rem aa6 ta6 n6 n6' fz6 m6 h6 tk6 hpl6 hk6 ha6 hb6 F6 N6 S6 hz6 hp6 hps6 hno hrem => ?_)
  show wpAny (model PG w) (LA s.heap.objs.size fa cd) (execs _ _) _ _ { s with heap := h6, toks := tk6 }
  have hv6 := pairsIn_len hps6
  rw [List.length_cons] at hv6
  refine wpAny_execs_cons (s_6 y6.symm B X T room hpl6 F6 N6 (.tail _ (.tail _ (.tail _ hp6))) (by omega) fun th m7 h7 tk7 hh7 hk7 F7 N7 => ?_)
  show wpAny (model PG w) (LA s.heap.objs.size fa cd) (execs _ _) _ _ { s with heap := h7, toks := tk7 }
  refine wpAny_execs_cons (s_7 y7.symm B X T room ((hk7 _ b6).trans hpl6) F7 N7 S6 hp6 (by omega) hps6 fun tl pl8 vs8 fz8 m8 h8 tk8 hpl8 htl8 hk8 F8 N8 S8 hz8 hlt8 hp8 hps8 => ?_)
  show wpAny (model PG w) (LA s.heap.objs.size fa cd) (execs _ _) _ _ { s with heap := h8, toks := tk8 }
  refine wpAny_execs_cons (s_8 y8.symm B X T room hpl8 htl8 F8 N8 S8 ha6 hb6 hlt8 hp8 (by simp only [List.length_append, List.length_cons, List.length_nil]; omega) hps8 fun k9 tvs pl9 vs9 a9 ta9 n9 n9' fz9 m9 h9 tk9 hk9 hpl9 htl9 hkk9 ha9 hb9 F9 N9 S9 hz9 hp9 hps9 ht9 hst9 => ?_)
  show wpAny (model PG w) (LA s.heap.objs.size fa cd) (execs _ _) _ _ { s with heap := h9, toks := tk9 }
  refine wpAny_execs_cons (s_9 y9.symm B X T room F9 N9 S9 ha9 hb9 fun bb z tb ub ta10 n10 fz10 m10 h10 tk10 hbb10 hk10 F10 N10 S10 hz10 hb10' => ?_)
  show wpAny (model PG w) (LA s.heap.objs.size fa cd) (execs _ _) _ _ { s with heap := h10, toks := tk10 }
  have qd : m10 (Str.ofString "data") = some (.ref D) := (hk10 _ e1).trans ((hkk9 _ a1 d1).trans ((hk8 _ a1 c1).trans ((hk7 _ b1).trans ((hk6 _ a1).trans hd5))))
  have qf : m10 (Str.ofString "files") = some (.ref fl) := (hk10 _ e2).trans ((hkk9 _ a2 d2).trans ((hk8 _ a2 c2).trans ((hk7 _ b2).trans ((hk6 _ a2).trans hfl5))))
  have qs : m10 (Str.ofString "sorts") = some (.ref sl) := (hk10 _ e3).trans ((hkk9 _ a3 d3).trans ((hk8 _ a3 c3).trans ((hk7 _ b3).trans ((hk6 _ a3).trans hsl5))))
  have qi : m10 (Str.ofString "is_sort") = some (.bool bs) := (hk10 _ e4).trans ((hkk9 _ a4 d4).trans ((hk8 _ a4 c4).trans ((hk7 _ b4).trans ((hk6 _ a4).trans hbs5))))
  have qn : m10 (Str.ofString "name") = some (.str nm tn) := (hk10 _ e5).trans ((hkk9 _ a5 d5).trans ((hk8 _ a5 c5).trans ((hk7 _ b5).trans ((hk6 _ a5).trans hnm5))))
  have qh : m10 (Str.ofString "head") = some (.int ((rem.length : Int) + 1) th) := by
    rw [(hk10 _ e6).trans ((hkk9 _ a6 d6).trans ((hk8 _ a6 c6).trans hh7)), hv6]
    rfl
  have qp : m10 (Str.ofString "pairs") = some (.ref pl9) := (hk10 _ e7).trans hpl9
  have qt : m10 (Str.ofString "titles") = some (.ref tl) := (hk10 _ e8).trans htl9
  have zz : ∀ p ∈ fz4, p ∈ fz10 := fun p hp => hz10 p (hz9 p (hz8 p (hz6 p hp)))
  have hf10 := filesIn_mono zz hf4
  have hs10 := seenAt_mono zz hs4
  have hp10 := hz10 _ hp9
  have ht10 := hz10 _ ht9
  have hps10 := pairsIn_mono hz10 hps9
  obtain ⟨t1, t2⟩ := ti_facts (k := k9)
  have hv9 := pairsIn_len hps9
  generalize (["R0", "R1"] : List Str).take k9 = titles at *
  simp only [List.length_append, List.length_cons, List.length_nil, recs_len] at hv9
  have hpe : PairsIn s.heap fz10 vs9 ((("word", nm) : Str × Str) :: (rem ++ ((("sign", ".") : Str × Str) :: recs titles))) := by simpa [List.append_assoc] using hps10
  have hl : (((("word", nm) : Str × Str) :: rem) ++ [(("sign", ".") : Str × Str)] ++ recs titles) ++ [((("word", z) : Str × Str))] = (("word", nm) : Str × Str) :: (rem ++ (("sign", ".") : Str × Str) :: (recs titles ++ [(("word", z) : Str × Str)])) := by simp [List.append_assoc]
  generalize y13 : T10 = x13
  generalize y14 : E10 = x14
  refine wpAny_execs_cons (s_10 (svl := []) y10.symm y13.symm y14.symm B X T room hun qt qn qf F10 N10 hs10 (by omega) ht10 hst9 (fun h11 tk11 F11 N11 hor => ?_) (fun h11 tk11 F11 N11 hnot hti => ?_))
  · show wpAny (model PG w) (LA s.heap.objs.size fa cd) (execs _ _) _ _ { s with heap := h11, toks := tk11 }
    refine s_10T y13.symm (svl := []) B X T room hun qd qf qs qi qp hbb10 F11 N11 S10 hf10 (by omega) (by simp) ⟨[], rfl, rfl⟩ hs10 hfo (fun x hx => nomatch hx) hp10 hps10 (by omega) hb10' (hl ▸ run_place (e9 := 0) S10.hed S10.lo S10.ho z1 z2 hno t1 (fun y hy => (t2 y hy).1) (by omega) (hor.imp (fun q => valueAt_some ((filesIn_keys hf10).symm ▸ q)) fun q => q)) fun h12 tk12 F12 N12 => ?_
    show wpAny (model PG w) (LA s.heap.objs.size fa cd) (execs _ _) _ _ { s with heap := h12, toks := tk12 }
    exact law_end y11.symm y12.symm (svl := []) B X T room hun qd qf qs qi qp qh F12 N12 S10 hf10 (by omega) (by simp) ⟨[], rfl, rfl⟩ hs10 hfo (fun x hx => nomatch hx) hp10 hpe (by omega) hno h
  · show wpAny (model PG w) (LA s.heap.objs.size fa cd) (execs _ _) _ _ { s with heap := h11, toks := tk11 }
    rw [← y14, E10_eq]
    generalize y15 : le 0 = x15
    generalize y16 : le 1 = x16
    have hnk : nm ∉ kvs.map (·.1) := (filesIn_keys hf10).symm ▸ hnot
    refine wpAny_execs_cons (s_10E0 y15.symm (svl := []) B X T room hun qf qs qi qn qt F11 N11 S10 hs10 (by omega) (by simp) ht10 hst9 fun fl2 sl2 fz12 m12 h12 tk12 hf12 hs12 hk12 F12 N12 S12 hz12 hseen12 => ?_)
    show wpAny (model PG w) (LA s.heap.objs.size fa cd) (execs _ _) _ _ { s with heap := h12, toks := tk12 }
    have hso : ∀ x ∈ ([] : List Str) ++ (if bs = true then [nm] else []), PyData.strOk x = true := by
      cases bs with
      | true => intro x hx; rw [List.mem_singleton.mp hx]; exact z3
      | false => intro x hx; exact nomatch hx
    have hfo2 : FsOk (fs ++ [(nm, titles)]) := fsOk_snoc hfo z3 fun x hx => (t2 x hx).2
    refine wpAny_execs_cons (s_10E1 y16.symm (svl := []) B X T room hun ((hk12 _ f1 g1).trans qd) hf12 hs12 ((hk12 _ f2 g2).trans qi) ((hk12 _ f4 g4).trans qp) ((hk12 _ f5 g5).trans hbb10) F12 N12 S12 (filesIn_mono hz12 hf10) (by omega) (by simp) ⟨[], rfl, rfl⟩ hseen12 hfo2 hso (hz12 _ hp10) (pairsIn_mono hz12 hps10) (by omega) (hz12 _ hb10') t1 hnk (by omega)
      (hl ▸ run_ok (j9 := 0) S12.hed S12.lo S12.ho z1 z2 hno t1 (fun y hy => (t2 y hy).1) (by omega) (by simp) (by rw [valueAt_none hnk]; rfl) hti) fun o13 kvs13 svl13 sn13 fz13 h13 tk13 F13 N13 S13 hf13 hss13 hz13 => ?_)
    show wpAny (model PG w) (LA s.heap.objs.size fa cd) (execs _ _) _ _ { s with heap := h13, toks := tk13 }
    refine wpAny_execs_nil ?_
    show wpAny (model PG w) (LA s.heap.objs.size fa cd) (execs _ _) _ _ { s with heap := h13, toks := tk13 }
    exact law_end y11.symm y12.symm B X T room hun ((hk12 _ f1 g1).trans qd) hf12 hs12 ((hk12 _ f2 g2).trans qi) ((hk12 _ f4 g4).trans qp) ((hk12 _ f3 g3).trans qh) F13 N13 S13 hf13 (by simp only [List.length_append, List.length_cons, List.length_nil]; omega) (by cases bs <;> simp) hss13 (seenAt_mono hz13 hseen12) hfo2 hso (hz13 _ (hz12 _ hp10)) (pairsIn_mono (fun p hp => hz13 p (hz12 p hp)) hpe) (by omega) hno h
end
set_option maxHeartbeats 400000
theorem law_code {w : World} {s : Shared} {R : Result → Shared → Prop} {fa sa : Addr} {o : Obj} {pm cd doc dV kV : Value} {mean : ExcName → Option Value} {mg mb : Str → Option Value} {vs : List Value} {ns : List Int} (X : (KK w.params).In s.heap) (T : Top vw lz mean mg mb s.heap) (ho : s.heap.get? fa = some o)
    (hd : o.data = .func { docDef dk.1.name dk.1.params dk.1.body dk.1.scope pm cd doc with defaults := dV, kwdefaults := kV }) (hdV : dV = .none) (hkV : kV = .none) (hcd : s.heap.CodeRec cd dk.1.name) (hs : s.heap.IsList sa vs.toArray) (hi : IntsAre vs ns) (hn : ns.length ≤ 63)
    (h : ∀ h' tk', s.heap.StaysIn h' → R (.ok (.ret (.bool true))) { s with heap := h', toks := tk' }) : codeAny (model PG w) callerA (.call (.ref fa) ⟨[.ref sa], []⟩) R s :=
  enterL T ho hd hdV hkV hcd fun h₁ tk cells F N Y => law_runs (Q := fun fl s' => R (.ok (.ret (match fl with | .ret v => v | _ => .none))) s') X T (by decide +kernel) (by decide +kernel) hs hi hn F N Y h
theorem walk0 : WalkX vw lz (fun _ _ => True) obsK valK RL.row.toRowW dk.1 dk.2 (fun f vs => PySem.call f vs) := by
  intro w s₀ s₁ mg mb G Y fa o pm cd doc dV kV ho hd hcd hD hmg hg args vals as L hpre hlay hrd hwl hlo
  have KX := InK.of kA_eq w s₀ Y
  have X : (KK w.params).In s₁.heap := InK.keeps w _ _ KX L.keeps
  refine Ground.open G ?_
  intro T B D TE TW
  try (refine guard_noD D (by decide +kernel) ?_; clear D)
  obtain ⟨_, _, M⟩ := bmod_of_top T
  have TA := at_of_top T
  try (obtain ⟨_, _, he, B0⟩ := based_of_top T rfl hmg ho hd; have he' : cd = _ := he; subst he'; clear he)
  clear hmg
  wrow_args hpre hlay hrd hwl hlo
  all_goals (
    first | refine callC_kw (enter_call ?_) | refine enter_call ?_ | refine callC_kw (enter_callW ?_) | refine enter_callW ?_ | w_how)
  w_top on
  try refine codeAny_mono ?_ (fun _ _ g => GoodW.toG g)
  have hdV : dV = .none := hD.pos.elim (·.2) fun q => absurd (by rw [dk_params, ps_of (by with_unfolding_all rfl)]) q.1
  have hkV : kV = .none := hD.kw.elim (·.2) fun q => absurd (by kernel_rfl) q.1
  (rename IntsAre _ _ => hI)
  (rename Heap.IsList _ _ _ => hL)
  refine law_code X (top_lz T) ho hd hdV hkV hcd hL hI (by omega) fun h' tk' hst => ?_
  refine ⟨.inl ⟨.bool true, .bool true, [], rfl, fun _ => rfl, .bool true, ?_, fun _ => ⟨.nil, fun a ha => nomatch ha⟩⟩, hst, rfl, hg⟩
  first | rfl | with_unfolding_all rfl | kernel_rfl | (trace_state; simp [ClaimW.post])
end Mine
theorem PySem.Challenge.cw_pb0279_01_holds : PySem.Challenge.rw_pb0279_01.Holds :=
  Mine.hd Mine.walk0
