import PyProof.Rows.All
import Wide.All
import OpenK.AllK
import Wide.FinOn
import Lean
import PySem.Challenge.RW_rr0072_01
open PySem PySem.W PySem.Calls PySem.Spec PyProof.Rows
set_option Elab.async false
set_option maxRecDepth 100000
set_option maxHeartbeats 8000000
set_option compiler.extract_closed false
set_option linter.unusedVariables false
namespace Mine
namespace hd
noncomputable section
noncomputable abbrev R0 : RowW := PySem.Challenge.rw_rr0072_01.row.toRowW
noncomputable abbrev P0 : Program := PySem.Challenge.rw_rr0072_01.row.toRowW.prog
structure FD where
  n : Str
  p : Arguments
  b : List Stmt
  s : Scope
noncomputable abbrev FDp (o : Option FD) : Type := {x : FD // o = some x}
noncomputable def nth : Nat → List Stmt → Option Stmt
  | _, [] => none
  | 0, x :: _ => some x
  | n + 1, _ :: r => nth n r
noncomputable def fdOf : Option Stmt → Option FD
  | some (.FunctionDef n p b _ _ _ s _ _ _) => some ⟨n, p, b, s⟩
  | _ => none
noncomputable def clsOf : Option Stmt → List Stmt
  | some (.ClassDef _ _ _ b _ _ _ _ _ _ _) => b
  | _ => []
noncomputable def part (a n : Nat) (l : List Stmt) : List Stmt := (l.drop a).take n
noncomputable abbrev hP := PyData.keyHash
noncomputable abbrev tf0 : Frame := topFrame ⟨0, 0, 0, 0⟩
noncomputable abbrev f_full : FDp (fdOf (nth 3 P0.main.body)) := ⟨⟨_, _, _, _⟩, rfl⟩
noncomputable abbrev f_single : FDp (fdOf (nth 4 P0.main.body)) := ⟨⟨_, _, _, _⟩, rfl⟩
noncomputable abbrev f_clipped : FDp (fdOf (nth 5 P0.main.body)) := ⟨⟨_, _, _, _⟩, rfl⟩
noncomputable abbrev f_add : FDp (fdOf (nth 6 P0.main.body)) := ⟨⟨_, _, _, _⟩, rfl⟩
noncomputable abbrev f_sub : FDp (fdOf (nth 7 P0.main.body)) := ⟨⟨_, _, _, _⟩, rfl⟩
noncomputable abbrev f_mul : FDp (fdOf (nth 8 P0.main.body)) := ⟨⟨_, _, _, _⟩, rfl⟩
noncomputable abbrev f_neg : FDp (fdOf (nth 9 P0.main.body)) := ⟨⟨_, _, _, _⟩, rfl⟩
noncomputable abbrev f_absolute : FDp (fdOf (nth 10 P0.main.body)) := ⟨⟨_, _, _, _⟩, rfl⟩
noncomputable abbrev f_div : FDp (fdOf (nth 11 P0.main.body)) := ⟨⟨_, _, _, _⟩, rfl⟩
noncomputable abbrev f_mod : FDp (fdOf (nth 12 P0.main.body)) := ⟨⟨_, _, _, _⟩, rfl⟩
noncomputable abbrev f_within : FDp (fdOf (nth 13 P0.main.body)) := ⟨⟨_, _, _, _⟩, rfl⟩
noncomputable abbrev f_join : FDp (fdOf (nth 14 P0.main.body)) := ⟨⟨_, _, _, _⟩, rfl⟩
noncomputable abbrev f_meet : FDp (fdOf (nth 15 P0.main.body)) := ⟨⟨_, _, _, _⟩, rfl⟩
noncomputable abbrev f_below : FDp (fdOf (nth 16 P0.main.body)) := ⟨⟨_, _, _, _⟩, rfl⟩
noncomputable abbrev f_without : FDp (fdOf (nth 17 P0.main.body)) := ⟨⟨_, _, _, _⟩, rfl⟩
noncomputable abbrev f_apart : FDp (fdOf (nth 18 P0.main.body)) := ⟨⟨_, _, _, _⟩, rfl⟩
noncomputable abbrev f_narrow : FDp (fdOf (nth 19 P0.main.body)) := ⟨⟨_, _, _, _⟩, rfl⟩
noncomputable abbrev f_opposite : FDp (fdOf (nth 20 P0.main.body)) := ⟨⟨_, _, _, _⟩, rfl⟩
noncomputable abbrev f_Node_init : FDp (fdOf (nth 0 (clsOf (nth 22 P0.main.body)))) := ⟨⟨_, _, _, _⟩, rfl⟩
noncomputable abbrev f_nodes_of : FDp (fdOf (nth 23 P0.main.body)) := ⟨⟨_, _, _, _⟩, rfl⟩
noncomputable abbrev f_Ranges_init : FDp (fdOf (nth 0 (clsOf (nth 25 P0.main.body)))) := ⟨⟨_, _, _, _⟩, rfl⟩
noncomputable abbrev f_join_envs : FDp (fdOf (nth 26 P0.main.body)) := ⟨⟨_, _, _, _⟩, rfl⟩
noncomputable abbrev f_with_slot : FDp (fdOf (nth 27 P0.main.body)) := ⟨⟨_, _, _, _⟩, rfl⟩
noncomputable abbrev f_followed_slot : FDp (fdOf (nth 28 P0.main.body)) := ⟨⟨_, _, _, _⟩, rfl⟩
noncomputable abbrev f_type_range : FDp (fdOf (nth 29 P0.main.body)) := ⟨⟨_, _, _, _⟩, rfl⟩
noncomputable abbrev f_known : FDp (fdOf (nth 30 P0.main.body)) := ⟨⟨_, _, _, _⟩, rfl⟩
noncomputable abbrev f_mark : FDp (fdOf (nth 31 P0.main.body)) := ⟨⟨_, _, _, _⟩, rfl⟩
noncomputable abbrev f_look_arithmetic : FDp (fdOf (nth 32 P0.main.body)) := ⟨⟨_, _, _, _⟩, rfl⟩
noncomputable abbrev f_look_index : FDp (fdOf (nth 33 P0.main.body)) := ⟨⟨_, _, _, _⟩, rfl⟩
noncomputable abbrev f_look_std : FDp (fdOf (nth 34 P0.main.body)) := ⟨⟨_, _, _, _⟩, rfl⟩
noncomputable abbrev f_look_lazy : FDp (fdOf (nth 35 P0.main.body)) := ⟨⟨_, _, _, _⟩, rfl⟩
noncomputable abbrev f_look : FDp (fdOf (nth 36 P0.main.body)) := ⟨⟨_, _, _, _⟩, rfl⟩
noncomputable abbrev f_quiet : FDp (fdOf (nth 37 P0.main.body)) := ⟨⟨_, _, _, _⟩, rfl⟩
noncomputable abbrev f_holds_lazy : FDp (fdOf (nth 38 P0.main.body)) := ⟨⟨_, _, _, _⟩, rfl⟩
noncomputable abbrev f_side_range : FDp (fdOf (nth 39 P0.main.body)) := ⟨⟨_, _, _, _⟩, rfl⟩
noncomputable abbrev f_assume_relation : FDp (fdOf (nth 40 P0.main.body)) := ⟨⟨_, _, _, _⟩, rfl⟩
noncomputable abbrev f_both_ways : FDp (fdOf (nth 41 P0.main.body)) := ⟨⟨_, _, _, _⟩, rfl⟩
noncomputable abbrev f_assume : FDp (fdOf (nth 42 P0.main.body)) := ⟨⟨_, _, _, _⟩, rfl⟩
noncomputable abbrev f_Type_init : FDp (fdOf (nth 0 (clsOf (nth 44 P0.main.body)))) := ⟨⟨_, _, _, _⟩, rfl⟩
noncomputable abbrev f_Obj_init : FDp (fdOf (nth 0 (clsOf (nth 45 P0.main.body)))) := ⟨⟨_, _, _, _⟩, rfl⟩
noncomputable abbrev f_Types_init : FDp (fdOf (nth 0 (clsOf (nth 46 P0.main.body)))) := ⟨⟨_, _, _, _⟩, rfl⟩
noncomputable abbrev f_Types_new : FDp (fdOf (nth 1 (clsOf (nth 46 P0.main.body)))) := ⟨⟨_, _, _, _⟩, rfl⟩
noncomputable abbrev f_Types_string : FDp (fdOf (nth 2 (clsOf (nth 46 P0.main.body)))) := ⟨⟨_, _, _, _⟩, rfl⟩
noncomputable abbrev f__law_take : FDp (fdOf (nth 48 P0.main.body)) := ⟨⟨_, _, _, _⟩, rfl⟩
noncomputable abbrev f__law_side : FDp (fdOf (nth 49 P0.main.body)) := ⟨⟨_, _, _, _⟩, rfl⟩
noncomputable abbrev f__law_relation : FDp (fdOf (nth 50 P0.main.body)) := ⟨⟨_, _, _, _⟩, rfl⟩
noncomputable abbrev f__law_joined : FDp (fdOf (nth 51 P0.main.body)) := ⟨⟨_, _, _, _⟩, rfl⟩
noncomputable abbrev f__law_value : FDp (fdOf (nth 52 P0.main.body)) := ⟨⟨_, _, _, _⟩, rfl⟩
noncomputable abbrev f_law : FDp (fdOf (nth 53 P0.main.body)) := ⟨⟨_, _, _, _⟩, rfl⟩
noncomputable def o_43 : Params → Obj := (fun _ => ⟨(.type "tuple"), (none), (.seq #[] 0), #[]⟩)
noncomputable def o_44 : Params → Obj := (fun _ => ⟨.none, (none), (.fields #[]), #[]⟩)
noncomputable def o_45 : Params → Obj := (fun _ => ⟨(.type "code"), (none), (.fields #[(.str (Str.ofString "<module>") 182), (.str (Str.ofString "<module>") 183), (.str (Str.ofString "/claim/cut.py") 184), (.int 1 0), (.int 0 0), (.int 0 0), (.int 0 0), (.int 0 0), (.ref 11), (.bool false), (.int 181 0), (.ref 12), .none, .none, .none, .none, (.int 185 0), (.int 1 0), (.str (Str.ofString "/claim/cut.py") 186)]), #[]⟩)
noncomputable def o_46 : Params → Obj := (fun _ => ⟨(.type "frame"), (none), Data.plain, #[(some (.ref 13)), (some (.ref 3)), (some (.ref 3)), (none), (some (.str (Str.ofString "__main__") 164)), (none), (some (.ref 0))]⟩)
noncomputable def o_49 : Params → Obj := (fun P => ⟨(.type "dict"), (none), (.dict #[⟨(hP P (Str.ofString "__name__")), (.str (Str.ofString "__name__") 165), (.str (Str.ofString "moduleyard.intervals") 187)⟩, ⟨(hP P (Str.ofString "__doc__")), (.str (Str.ofString "__doc__") 166), .none⟩, ⟨(hP P (Str.ofString "__package__")), (.str (Str.ofString "__package__") 167), .none⟩, ⟨(hP P (Str.ofString "__loader__")), (.str (Str.ofString "__loader__") 168), (.builtin "__main__.__loader__#opaque")⟩, ⟨(hP P (Str.ofString "__spec__")), (.str (Str.ofString "__spec__") 169), .none⟩, ⟨(hP P (Str.ofString "__annotations__")), (.str (Str.ofString "__annotations__") 170), (.ref 6)⟩, ⟨(hP P (Str.ofString "__builtins__")), (.str (Str.ofString "__builtins__") 171), (.ref 4)⟩, ⟨(hP P (Str.ofString "__file__")), (.str (Str.ofString "__file__") 173), (.str (Str.ofString "/claim/cut.py") 172)⟩, ⟨(hP P (Str.ofString "__cached__")), (.str (Str.ofString "__cached__") 174), .none⟩, ⟨(hP P (Str.ofString "LEAST")), (.str (Str.ofString "LEAST") 191), (.int (-2147483648) 190)⟩, ⟨(hP P (Str.ofString "GREATEST")), (.str (Str.ofString "GREATEST") 193), (.int 2147483647 192)⟩, ⟨(hP P (Str.ofString "full")), (.str (Str.ofString "full") 199), (.ref 21)⟩, ⟨(hP P (Str.ofString "single")), (.str (Str.ofString "single") 206), (.ref 28)⟩, ⟨(hP P (Str.ofString "clipped")), (.str (Str.ofString "clipped") 215), (.ref 35)⟩, ⟨(hP P (Str.ofString "add")), (.str (Str.ofString "add") 223), (.ref 42)⟩, ⟨(hP P (Str.ofString "sub")), (.str (Str.ofString "sub") 231), (.ref 49)⟩, ⟨(hP P (Str.ofString "mul")), (.str (Str.ofString "mul") 240), (.ref 56)⟩, ⟨(hP P (Str.ofString "neg")), (.str (Str.ofString "neg") 247), (.ref 63)⟩, ⟨(hP P (Str.ofString "absolute")), (.str (Str.ofString "absolute") 254), (.ref 70)⟩, ⟨(hP P (Str.ofString "div")), (.str (Str.ofString "div") 265), (.ref 77)⟩, ⟨(hP P (Str.ofString "mod")), (.str (Str.ofString "mod") 275), (.ref 84)⟩, ⟨(hP P (Str.ofString "within")), (.str (Str.ofString "within") 283), (.ref 91)⟩, ⟨(hP P (Str.ofString "join")), (.str (Str.ofString "join") 291), (.ref 98)⟩] 23), #[]⟩)
noncomputable def o_50 : Params → Obj := (fun _ => ⟨.none, (none), (.fields #[(.int 4 0), (.int 0 0), (.ref 20), (.int 6 0), (.int 0 0), (.ref 27), (.int 8 0), (.int 0 0), (.ref 34), (.int 15 0), (.int 0 0), (.ref 41), (.int 17 0), (.int 0 0), (.ref 48), (.int 19 0), (.int 0 0), (.ref 55), (.int 22 0), (.int 0 0), (.ref 62), (.int 24 0), (.int 0 0), (.ref 69), (.int 30 0), (.int 0 0), (.ref 76), (.int 37 0), (.int 0 0), (.ref 83), (.int 47 0), (.int 0 0), (.ref 90), (.int 49 0), (.int 0 0), (.ref 97)]), #[]⟩)
noncomputable def o_51 : Params → Obj := (fun _ => ⟨(.type "tuple"), (none), (.seq #[] 0), #[]⟩)
noncomputable def o_52 : Params → Obj := (fun _ => ⟨.none, (none), (.fields #[]), #[]⟩)
noncomputable def o_53 : Params → Obj := (fun _ => ⟨(.type "tuple"), (none), (.seq #[] 0), #[]⟩)
noncomputable def o_54 : Params → Obj := (fun _ => ⟨(.type "tuple"), (none), (.seq #[] 0), #[]⟩)
noncomputable def o_55 : Params → Obj := (fun _ => ⟨.none, (none), (.func ⟨(Str.ofString "full"), (Str.ofString "full"), f_full.1.p, (.stmts f_full.1.b), f_full.1.s, 0, [], .none, .none, .none, .none, (none), .none, .none, 0⟩), #[]⟩)
noncomputable def o_56 : Params → Obj := (fun _ => ⟨(.type "code"), (none), (.fields #[(.str (Str.ofString "full") 194), (.str (Str.ofString "full") 195), (.str (Str.ofString "/claim/cut.py") 196), (.int 4 0), (.int 0 0), (.int 0 0), (.int 0 0), (.int 3 0), (.ref 15), (.bool true), (.int 181 0), (.ref 16), .none, (.ref 17), (.ref 18), (.ref 19), (.int 197 0), (.int 4 0), (.str (Str.ofString "/claim/cut.py") 198)]), #[]⟩)
noncomputable def o_57 : Params → Obj := (fun _ => ⟨(.type "function"), (none), (.func ⟨(Str.ofString "full"), (Str.ofString "full"), f_full.1.p, (.stmts f_full.1.b), f_full.1.s, 3, [], .none, .none, .none, (.str (Str.ofString "moduleyard.intervals") 187), (none), (.ref 20), .none, 0⟩), #[]⟩)
noncomputable def o_58 : Params → Obj := (fun _ => ⟨(.type "tuple"), (none), (.seq #[] 0), #[]⟩)
noncomputable def o_59 : Params → Obj := (fun _ => ⟨.none, (none), (.fields #[]), #[]⟩)
noncomputable def o_60 : Params → Obj := (fun _ => ⟨(.type "tuple"), (none), (.seq #[(.str (Str.ofString "n") 203)] 0), #[]⟩)
noncomputable def o_61 : Params → Obj := (fun _ => ⟨(.type "tuple"), (none), (.seq #[] 0), #[]⟩)
noncomputable def o_62 : Params → Obj := (fun _ => ⟨.none, (none), (.func ⟨(Str.ofString "single"), (Str.ofString "single"), f_single.1.p, (.stmts f_single.1.b), f_single.1.s, 0, [], .none, .none, .none, .none, (none), .none, .none, 0⟩), #[]⟩)
noncomputable def o_63 : Params → Obj := (fun _ => ⟨(.type "code"), (none), (.fields #[(.str (Str.ofString "single") 200), (.str (Str.ofString "single") 201), (.str (Str.ofString "/claim/cut.py") 202), (.int 6 0), (.int 1 0), (.int 0 0), (.int 0 0), (.int 3 0), (.ref 22), (.bool true), (.int 181 0), (.ref 23), .none, (.ref 24), (.ref 25), (.ref 26), (.int 204 0), (.int 6 0), (.str (Str.ofString "/claim/cut.py") 205)]), #[]⟩)
noncomputable def o_64 : Params → Obj := (fun _ => ⟨(.type "function"), (none), (.func ⟨(Str.ofString "single"), (Str.ofString "single"), f_single.1.p, (.stmts f_single.1.b), f_single.1.s, 3, [], .none, .none, .none, (.str (Str.ofString "moduleyard.intervals") 187), (none), (.ref 27), .none, 0⟩), #[]⟩)
noncomputable def o_65 : Params → Obj := (fun _ => ⟨(.type "tuple"), (none), (.seq #[] 0), #[]⟩)
noncomputable def o_66 : Params → Obj := (fun _ => ⟨.none, (none), (.fields #[]), #[]⟩)
noncomputable def o_67 : Params → Obj := (fun _ => ⟨(.type "tuple"), (none), (.seq #[(.str (Str.ofString "low") 210), (.str (Str.ofString "high") 211), (.str (Str.ofString "beyond") 212)] 0), #[]⟩)
noncomputable def o_68 : Params → Obj := (fun _ => ⟨(.type "tuple"), (none), (.seq #[] 0), #[]⟩)
noncomputable def o_69 : Params → Obj := (fun _ => ⟨.none, (none), (.func ⟨(Str.ofString "clipped"), (Str.ofString "clipped"), f_clipped.1.p, (.stmts f_clipped.1.b), f_clipped.1.s, 0, [], .none, .none, .none, .none, (none), .none, .none, 0⟩), #[]⟩)
noncomputable def o_70 : Params → Obj := (fun _ => ⟨(.type "code"), (none), (.fields #[(.str (Str.ofString "clipped") 207), (.str (Str.ofString "clipped") 208), (.str (Str.ofString "/claim/cut.py") 209), (.int 8 0), (.int 2 0), (.int 0 0), (.int 0 0), (.int 3 0), (.ref 29), (.bool true), (.int 181 0), (.ref 30), .none, (.ref 31), (.ref 32), (.ref 33), (.int 213 0), (.int 8 0), (.str (Str.ofString "/claim/cut.py") 214)]), #[]⟩)
noncomputable def o_71 : Params → Obj := (fun _ => ⟨(.type "function"), (none), (.func ⟨(Str.ofString "clipped"), (Str.ofString "clipped"), f_clipped.1.p, (.stmts f_clipped.1.b), f_clipped.1.s, 3, [], .none, .none, .none, (.str (Str.ofString "moduleyard.intervals") 187), (none), (.ref 34), .none, 0⟩), #[]⟩)
noncomputable def o_72 : Params → Obj := (fun _ => ⟨(.type "tuple"), (none), (.seq #[] 0), #[]⟩)
noncomputable def o_73 : Params → Obj := (fun _ => ⟨.none, (none), (.fields #[]), #[]⟩)
noncomputable def o_74 : Params → Obj := (fun _ => ⟨(.type "tuple"), (none), (.seq #[(.str (Str.ofString "x") 219), (.str (Str.ofString "y") 220)] 0), #[]⟩)
noncomputable def o_75 : Params → Obj := (fun _ => ⟨(.type "tuple"), (none), (.seq #[] 0), #[]⟩)
noncomputable def o_76 : Params → Obj := (fun _ => ⟨.none, (none), (.func ⟨(Str.ofString "add"), (Str.ofString "add"), f_add.1.p, (.stmts f_add.1.b), f_add.1.s, 0, [], .none, .none, .none, .none, (none), .none, .none, 0⟩), #[]⟩)
noncomputable def o_77 : Params → Obj := (fun _ => ⟨(.type "code"), (none), (.fields #[(.str (Str.ofString "add") 216), (.str (Str.ofString "add") 217), (.str (Str.ofString "/claim/cut.py") 218), (.int 15 0), (.int 2 0), (.int 0 0), (.int 0 0), (.int 3 0), (.ref 36), (.bool true), (.int 181 0), (.ref 37), .none, (.ref 38), (.ref 39), (.ref 40), (.int 221 0), (.int 15 0), (.str (Str.ofString "/claim/cut.py") 222)]), #[]⟩)
noncomputable def o_78 : Params → Obj := (fun _ => ⟨(.type "function"), (none), (.func ⟨(Str.ofString "add"), (Str.ofString "add"), f_add.1.p, (.stmts f_add.1.b), f_add.1.s, 3, [], .none, .none, .none, (.str (Str.ofString "moduleyard.intervals") 187), (none), (.ref 41), .none, 0⟩), #[]⟩)
noncomputable def o_79 : Params → Obj := (fun _ => ⟨(.type "tuple"), (none), (.seq #[] 0), #[]⟩)
noncomputable def o_80 : Params → Obj := (fun _ => ⟨.none, (none), (.fields #[]), #[]⟩)
noncomputable def o_81 : Params → Obj := (fun _ => ⟨(.type "tuple"), (none), (.seq #[(.str (Str.ofString "x") 227), (.str (Str.ofString "y") 228)] 0), #[]⟩)
noncomputable def o_82 : Params → Obj := (fun _ => ⟨(.type "tuple"), (none), (.seq #[] 0), #[]⟩)
noncomputable def o_83 : Params → Obj := (fun _ => ⟨.none, (none), (.func ⟨(Str.ofString "sub"), (Str.ofString "sub"), f_sub.1.p, (.stmts f_sub.1.b), f_sub.1.s, 0, [], .none, .none, .none, .none, (none), .none, .none, 0⟩), #[]⟩)
noncomputable def o_84 : Params → Obj := (fun _ => ⟨(.type "code"), (none), (.fields #[(.str (Str.ofString "sub") 224), (.str (Str.ofString "sub") 225), (.str (Str.ofString "/claim/cut.py") 226), (.int 17 0), (.int 2 0), (.int 0 0), (.int 0 0), (.int 3 0), (.ref 43), (.bool true), (.int 181 0), (.ref 44), .none, (.ref 45), (.ref 46), (.ref 47), (.int 229 0), (.int 17 0), (.str (Str.ofString "/claim/cut.py") 230)]), #[]⟩)
noncomputable def o_85 : Params → Obj := (fun _ => ⟨(.type "function"), (none), (.func ⟨(Str.ofString "sub"), (Str.ofString "sub"), f_sub.1.p, (.stmts f_sub.1.b), f_sub.1.s, 3, [], .none, .none, .none, (.str (Str.ofString "moduleyard.intervals") 187), (none), (.ref 48), .none, 0⟩), #[]⟩)
noncomputable def o_86 : Params → Obj := (fun _ => ⟨(.type "tuple"), (none), (.seq #[] 0), #[]⟩)
noncomputable def o_87 : Params → Obj := (fun _ => ⟨.none, (none), (.fields #[]), #[]⟩)
noncomputable def o_88 : Params → Obj := (fun _ => ⟨(.type "tuple"), (none), (.seq #[(.str (Str.ofString "x") 235), (.str (Str.ofString "y") 236), (.str (Str.ofString "ends") 237)] 0), #[]⟩)
noncomputable def o_89 : Params → Obj := (fun _ => ⟨(.type "tuple"), (none), (.seq #[] 0), #[]⟩)
noncomputable def o_90 : Params → Obj := (fun _ => ⟨.none, (none), (.func ⟨(Str.ofString "mul"), (Str.ofString "mul"), f_mul.1.p, (.stmts f_mul.1.b), f_mul.1.s, 0, [], .none, .none, .none, .none, (none), .none, .none, 0⟩), #[]⟩)
noncomputable def o_91 : Params → Obj := (fun _ => ⟨(.type "code"), (none), (.fields #[(.str (Str.ofString "mul") 232), (.str (Str.ofString "mul") 233), (.str (Str.ofString "/claim/cut.py") 234), (.int 19 0), (.int 2 0), (.int 0 0), (.int 0 0), (.int 3 0), (.ref 50), (.bool true), (.int 181 0), (.ref 51), .none, (.ref 52), (.ref 53), (.ref 54), (.int 238 0), (.int 19 0), (.str (Str.ofString "/claim/cut.py") 239)]), #[]⟩)
noncomputable def o_92 : Params → Obj := (fun _ => ⟨(.type "function"), (none), (.func ⟨(Str.ofString "mul"), (Str.ofString "mul"), f_mul.1.p, (.stmts f_mul.1.b), f_mul.1.s, 3, [], .none, .none, .none, (.str (Str.ofString "moduleyard.intervals") 187), (none), (.ref 55), .none, 0⟩), #[]⟩)
noncomputable def o_93 : Params → Obj := (fun _ => ⟨(.type "tuple"), (none), (.seq #[] 0), #[]⟩)
noncomputable def o_94 : Params → Obj := (fun _ => ⟨.none, (none), (.fields #[]), #[]⟩)
noncomputable def o_95 : Params → Obj := (fun _ => ⟨(.type "tuple"), (none), (.seq #[(.str (Str.ofString "x") 244)] 0), #[]⟩)
noncomputable def o_96 : Params → Obj := (fun _ => ⟨(.type "tuple"), (none), (.seq #[] 0), #[]⟩)
noncomputable def o_97 : Params → Obj := (fun _ => ⟨.none, (none), (.func ⟨(Str.ofString "neg"), (Str.ofString "neg"), f_neg.1.p, (.stmts f_neg.1.b), f_neg.1.s, 0, [], .none, .none, .none, .none, (none), .none, .none, 0⟩), #[]⟩)
noncomputable def o_98 : Params → Obj := (fun _ => ⟨(.type "code"), (none), (.fields #[(.str (Str.ofString "neg") 241), (.str (Str.ofString "neg") 242), (.str (Str.ofString "/claim/cut.py") 243), (.int 22 0), (.int 1 0), (.int 0 0), (.int 0 0), (.int 3 0), (.ref 57), (.bool true), (.int 181 0), (.ref 58), .none, (.ref 59), (.ref 60), (.ref 61), (.int 245 0), (.int 22 0), (.str (Str.ofString "/claim/cut.py") 246)]), #[]⟩)
noncomputable def o_99 : Params → Obj := (fun _ => ⟨(.type "function"), (none), (.func ⟨(Str.ofString "neg"), (Str.ofString "neg"), f_neg.1.p, (.stmts f_neg.1.b), f_neg.1.s, 3, [], .none, .none, .none, (.str (Str.ofString "moduleyard.intervals") 187), (none), (.ref 62), .none, 0⟩), #[]⟩)
noncomputable def o_100 : Params → Obj := (fun _ => ⟨(.type "tuple"), (none), (.seq #[] 0), #[]⟩)
noncomputable def o_101 : Params → Obj := (fun _ => ⟨.none, (none), (.fields #[]), #[]⟩)
noncomputable def o_102 : Params → Obj := (fun _ => ⟨(.type "tuple"), (none), (.seq #[(.str (Str.ofString "x") 251)] 0), #[]⟩)
noncomputable def o_103 : Params → Obj := (fun _ => ⟨(.type "tuple"), (none), (.seq #[] 0), #[]⟩)
noncomputable def o_104 : Params → Obj := (fun _ => ⟨.none, (none), (.func ⟨(Str.ofString "absolute"), (Str.ofString "absolute"), f_absolute.1.p, (.stmts f_absolute.1.b), f_absolute.1.s, 0, [], .none, .none, .none, .none, (none), .none, .none, 0⟩), #[]⟩)
noncomputable def o_105 : Params → Obj := (fun _ => ⟨(.type "code"), (none), (.fields #[(.str (Str.ofString "absolute") 248), (.str (Str.ofString "absolute") 249), (.str (Str.ofString "/claim/cut.py") 250), (.int 24 0), (.int 1 0), (.int 0 0), (.int 0 0), (.int 3 0), (.ref 64), (.bool true), (.int 181 0), (.ref 65), .none, (.ref 66), (.ref 67), (.ref 68), (.int 252 0), (.int 24 0), (.str (Str.ofString "/claim/cut.py") 253)]), #[]⟩)
noncomputable def o_106 : Params → Obj := (fun _ => ⟨(.type "function"), (none), (.func ⟨(Str.ofString "absolute"), (Str.ofString "absolute"), f_absolute.1.p, (.stmts f_absolute.1.b), f_absolute.1.s, 3, [], .none, .none, .none, (.str (Str.ofString "moduleyard.intervals") 187), (none), (.ref 69), .none, 0⟩), #[]⟩)
noncomputable def o_107 : Params → Obj := (fun _ => ⟨(.type "tuple"), (none), (.seq #[] 0), #[]⟩)
noncomputable def o_108 : Params → Obj := (fun _ => ⟨.none, (none), (.fields #[]), #[]⟩)
noncomputable def o_109 : Params → Obj := (fun _ => ⟨(.type "tuple"), (none), (.seq #[(.str (Str.ofString "x") 258), (.str (Str.ofString "y") 259), (.str (Str.ofString "traps") 260), (.str (Str.ofString "low") 261), (.str (Str.ofString "ends") 262)] 0), #[]⟩)
noncomputable def o_110 : Params → Obj := (fun _ => ⟨(.type "tuple"), (none), (.seq #[] 0), #[]⟩)
noncomputable def o_111 : Params → Obj := (fun _ => ⟨.none, (none), (.func ⟨(Str.ofString "div"), (Str.ofString "div"), f_div.1.p, (.stmts f_div.1.b), f_div.1.s, 0, [], .none, .none, .none, .none, (none), .none, .none, 0⟩), #[]⟩)
noncomputable def o_112 : Params → Obj := (fun _ => ⟨(.type "code"), (none), (.fields #[(.str (Str.ofString "div") 255), (.str (Str.ofString "div") 256), (.str (Str.ofString "/claim/cut.py") 257), (.int 30 0), (.int 2 0), (.int 0 0), (.int 0 0), (.int 3 0), (.ref 71), (.bool true), (.int 181 0), (.ref 72), .none, (.ref 73), (.ref 74), (.ref 75), (.int 263 0), (.int 30 0), (.str (Str.ofString "/claim/cut.py") 264)]), #[]⟩)
noncomputable def o_113 : Params → Obj := (fun _ => ⟨(.type "function"), (none), (.func ⟨(Str.ofString "div"), (Str.ofString "div"), f_div.1.p, (.stmts f_div.1.b), f_div.1.s, 3, [], .none, .none, .none, (.str (Str.ofString "moduleyard.intervals") 187), (none), (.ref 76), .none, 0⟩), #[]⟩)
noncomputable def o_114 : Params → Obj := (fun _ => ⟨(.type "tuple"), (none), (.seq #[] 0), #[]⟩)
noncomputable def o_115 : Params → Obj := (fun _ => ⟨.none, (none), (.fields #[]), #[]⟩)
noncomputable def o_116 : Params → Obj := (fun _ => ⟨(.type "tuple"), (none), (.seq #[(.str (Str.ofString "x") 269), (.str (Str.ofString "y") 270), (.str (Str.ofString "traps") 271), (.str (Str.ofString "high") 272)] 0), #[]⟩)
noncomputable def o_117 : Params → Obj := (fun _ => ⟨(.type "tuple"), (none), (.seq #[] 0), #[]⟩)
noncomputable def o_118 : Params → Obj := (fun _ => ⟨.none, (none), (.func ⟨(Str.ofString "mod"), (Str.ofString "mod"), f_mod.1.p, (.stmts f_mod.1.b), f_mod.1.s, 0, [], .none, .none, .none, .none, (none), .none, .none, 0⟩), #[]⟩)
noncomputable def o_119 : Params → Obj := (fun _ => ⟨(.type "code"), (none), (.fields #[(.str (Str.ofString "mod") 266), (.str (Str.ofString "mod") 267), (.str (Str.ofString "/claim/cut.py") 268), (.int 37 0), (.int 2 0), (.int 0 0), (.int 0 0), (.int 3 0), (.ref 78), (.bool true), (.int 181 0), (.ref 79), .none, (.ref 80), (.ref 81), (.ref 82), (.int 273 0), (.int 37 0), (.str (Str.ofString "/claim/cut.py") 274)]), #[]⟩)
noncomputable def o_120 : Params → Obj := (fun _ => ⟨(.type "function"), (none), (.func ⟨(Str.ofString "mod"), (Str.ofString "mod"), f_mod.1.p, (.stmts f_mod.1.b), f_mod.1.s, 3, [], .none, .none, .none, (.str (Str.ofString "moduleyard.intervals") 187), (none), (.ref 83), .none, 0⟩), #[]⟩)
noncomputable def o_121 : Params → Obj := (fun _ => ⟨(.type "tuple"), (none), (.seq #[] 0), #[]⟩)
noncomputable def o_122 : Params → Obj := (fun _ => ⟨.none, (none), (.fields #[]), #[]⟩)
noncomputable def o_123 : Params → Obj := (fun _ => ⟨(.type "tuple"), (none), (.seq #[(.str (Str.ofString "x") 279), (.str (Str.ofString "y") 280)] 0), #[]⟩)
noncomputable def o_124 : Params → Obj := (fun _ => ⟨(.type "tuple"), (none), (.seq #[] 0), #[]⟩)
noncomputable def o_125 : Params → Obj := (fun _ => ⟨.none, (none), (.func ⟨(Str.ofString "within"), (Str.ofString "within"), f_within.1.p, (.stmts f_within.1.b), f_within.1.s, 0, [], .none, .none, .none, .none, (none), .none, .none, 0⟩), #[]⟩)
noncomputable def o_126 : Params → Obj := (fun _ => ⟨(.type "code"), (none), (.fields #[(.str (Str.ofString "within") 276), (.str (Str.ofString "within") 277), (.str (Str.ofString "/claim/cut.py") 278), (.int 47 0), (.int 2 0), (.int 0 0), (.int 0 0), (.int 3 0), (.ref 85), (.bool true), (.int 181 0), (.ref 86), .none, (.ref 87), (.ref 88), (.ref 89), (.int 281 0), (.int 47 0), (.str (Str.ofString "/claim/cut.py") 282)]), #[]⟩)
noncomputable def o_127 : Params → Obj := (fun _ => ⟨(.type "function"), (none), (.func ⟨(Str.ofString "within"), (Str.ofString "within"), f_within.1.p, (.stmts f_within.1.b), f_within.1.s, 3, [], .none, .none, .none, (.str (Str.ofString "moduleyard.intervals") 187), (none), (.ref 90), .none, 0⟩), #[]⟩)
noncomputable def o_128 : Params → Obj := (fun _ => ⟨(.type "tuple"), (none), (.seq #[] 0), #[]⟩)
noncomputable def o_129 : Params → Obj := (fun _ => ⟨.none, (none), (.fields #[]), #[]⟩)
noncomputable def o_130 : Params → Obj := (fun _ => ⟨(.type "tuple"), (none), (.seq #[(.str (Str.ofString "x") 287), (.str (Str.ofString "y") 288)] 0), #[]⟩)
noncomputable def o_131 : Params → Obj := (fun _ => ⟨(.type "tuple"), (none), (.seq #[] 0), #[]⟩)
noncomputable def o_132 : Params → Obj := (fun _ => ⟨.none, (none), (.func ⟨(Str.ofString "join"), (Str.ofString "join"), f_join.1.p, (.stmts f_join.1.b), f_join.1.s, 0, [], .none, .none, .none, .none, (none), .none, .none, 0⟩), #[]⟩)
noncomputable def o_133 : Params → Obj := (fun _ => ⟨(.type "code"), (none), (.fields #[(.str (Str.ofString "join") 284), (.str (Str.ofString "join") 285), (.str (Str.ofString "/claim/cut.py") 286), (.int 49 0), (.int 2 0), (.int 0 0), (.int 0 0), (.int 3 0), (.ref 92), (.bool true), (.int 181 0), (.ref 93), .none, (.ref 94), (.ref 95), (.ref 96), (.int 289 0), (.int 49 0), (.str (Str.ofString "/claim/cut.py") 290)]), #[]⟩)
noncomputable def o_134 : Params → Obj := (fun _ => ⟨(.type "function"), (none), (.func ⟨(Str.ofString "join"), (Str.ofString "join"), f_join.1.p, (.stmts f_join.1.b), f_join.1.s, 3, [], .none, .none, .none, (.str (Str.ofString "moduleyard.intervals") 187), (none), (.ref 97), .none, 0⟩), #[]⟩)
noncomputable def o_135 : Params → Obj := (fun P => ⟨(.type "dict"), (none), (.dict #[⟨(hP P (Str.ofString "__name__")), (.str (Str.ofString "__name__") 165), (.str (Str.ofString "moduleyard.trees") 349)⟩, ⟨(hP P (Str.ofString "__doc__")), (.str (Str.ofString "__doc__") 166), .none⟩, ⟨(hP P (Str.ofString "__package__")), (.str (Str.ofString "__package__") 167), .none⟩, ⟨(hP P (Str.ofString "__loader__")), (.str (Str.ofString "__loader__") 168), (.builtin "__main__.__loader__#opaque")⟩, ⟨(hP P (Str.ofString "__spec__")), (.str (Str.ofString "__spec__") 169), .none⟩, ⟨(hP P (Str.ofString "__annotations__")), (.str (Str.ofString "__annotations__") 170), (.ref 6)⟩, ⟨(hP P (Str.ofString "__builtins__")), (.str (Str.ofString "__builtins__") 171), (.ref 4)⟩, ⟨(hP P (Str.ofString "__file__")), (.str (Str.ofString "__file__") 173), (.str (Str.ofString "/claim/cut.py") 172)⟩, ⟨(hP P (Str.ofString "__cached__")), (.str (Str.ofString "__cached__") 174), .none⟩, ⟨(hP P (Str.ofString "LEAST")), (.str (Str.ofString "LEAST") 191), (.int (-2147483648) 190)⟩, ⟨(hP P (Str.ofString "GREATEST")), (.str (Str.ofString "GREATEST") 193), (.int 2147483647 192)⟩, ⟨(hP P (Str.ofString "full")), (.str (Str.ofString "full") 199), (.ref 21)⟩, ⟨(hP P (Str.ofString "single")), (.str (Str.ofString "single") 206), (.ref 28)⟩, ⟨(hP P (Str.ofString "clipped")), (.str (Str.ofString "clipped") 215), (.ref 35)⟩, ⟨(hP P (Str.ofString "add")), (.str (Str.ofString "add") 223), (.ref 42)⟩, ⟨(hP P (Str.ofString "sub")), (.str (Str.ofString "sub") 231), (.ref 49)⟩, ⟨(hP P (Str.ofString "mul")), (.str (Str.ofString "mul") 240), (.ref 56)⟩, ⟨(hP P (Str.ofString "neg")), (.str (Str.ofString "neg") 247), (.ref 63)⟩, ⟨(hP P (Str.ofString "absolute")), (.str (Str.ofString "absolute") 254), (.ref 70)⟩, ⟨(hP P (Str.ofString "div")), (.str (Str.ofString "div") 265), (.ref 77)⟩, ⟨(hP P (Str.ofString "mod")), (.str (Str.ofString "mod") 275), (.ref 84)⟩, ⟨(hP P (Str.ofString "within")), (.str (Str.ofString "within") 283), (.ref 91)⟩, ⟨(hP P (Str.ofString "join")), (.str (Str.ofString "join") 291), (.ref 98)⟩, ⟨(hP P (Str.ofString "meet")), (.str (Str.ofString "meet") 301), (.ref 105)⟩, ⟨(hP P (Str.ofString "below")), (.str (Str.ofString "below") 312), (.ref 112)⟩, ⟨(hP P (Str.ofString "without")), (.str (Str.ofString "without") 320), (.ref 119)⟩, ⟨(hP P (Str.ofString "apart")), (.str (Str.ofString "apart") 330), (.ref 126)⟩, ⟨(hP P (Str.ofString "narrow")), (.str (Str.ofString "narrow") 341), (.ref 133)⟩, ⟨(hP P (Str.ofString "opposite")), (.str (Str.ofString "opposite") 348), (.ref 140)⟩] 29), #[]⟩)
noncomputable def o_136 : Params → Obj := (fun _ => ⟨.none, (none), (.fields #[(.int 4 0), (.int 0 0), (.ref 20), (.int 6 0), (.int 0 0), (.ref 27), (.int 8 0), (.int 0 0), (.ref 34), (.int 15 0), (.int 0 0), (.ref 41), (.int 17 0), (.int 0 0), (.ref 48), (.int 19 0), (.int 0 0), (.ref 55), (.int 22 0), (.int 0 0), (.ref 62), (.int 24 0), (.int 0 0), (.ref 69), (.int 30 0), (.int 0 0), (.ref 76), (.int 37 0), (.int 0 0), (.ref 83), (.int 47 0), (.int 0 0), (.ref 90), (.int 49 0), (.int 0 0), (.ref 97), (.int 51 0), (.int 0 0), (.ref 104), (.int 57 0), (.int 0 0), (.ref 111), (.int 65 0), (.int 0 0), (.ref 118), (.int 73 0), (.int 0 0), (.ref 125), (.int 79 0), (.int 0 0), (.ref 132), (.int 89 0), (.int 0 0), (.ref 139)]), #[]⟩)
noncomputable def o_137 : Params → Obj := (fun _ => ⟨(.type "tuple"), (none), (.seq #[] 0), #[]⟩)
noncomputable def o_138 : Params → Obj := (fun _ => ⟨.none, (none), (.fields #[]), #[]⟩)
noncomputable def o_139 : Params → Obj := (fun _ => ⟨(.type "tuple"), (none), (.seq #[(.str (Str.ofString "x") 295), (.str (Str.ofString "y") 296), (.str (Str.ofString "low") 297), (.str (Str.ofString "high") 298)] 0), #[]⟩)
noncomputable def o_140 : Params → Obj := (fun _ => ⟨(.type "tuple"), (none), (.seq #[] 0), #[]⟩)
noncomputable def o_141 : Params → Obj := (fun _ => ⟨.none, (none), (.func ⟨(Str.ofString "meet"), (Str.ofString "meet"), f_meet.1.p, (.stmts f_meet.1.b), f_meet.1.s, 0, [], .none, .none, .none, .none, (none), .none, .none, 0⟩), #[]⟩)
noncomputable def o_142 : Params → Obj := (fun _ => ⟨(.type "code"), (none), (.fields #[(.str (Str.ofString "meet") 292), (.str (Str.ofString "meet") 293), (.str (Str.ofString "/claim/cut.py") 294), (.int 51 0), (.int 2 0), (.int 0 0), (.int 0 0), (.int 3 0), (.ref 99), (.bool true), (.int 181 0), (.ref 100), .none, (.ref 101), (.ref 102), (.ref 103), (.int 299 0), (.int 51 0), (.str (Str.ofString "/claim/cut.py") 300)]), #[]⟩)
noncomputable def o_143 : Params → Obj := (fun _ => ⟨(.type "function"), (none), (.func ⟨(Str.ofString "meet"), (Str.ofString "meet"), f_meet.1.p, (.stmts f_meet.1.b), f_meet.1.s, 3, [], .none, .none, .none, (.str (Str.ofString "moduleyard.intervals") 187), (none), (.ref 104), .none, 0⟩), #[]⟩)
noncomputable def o_144 : Params → Obj := (fun _ => ⟨(.type "tuple"), (none), (.seq #[] 0), #[]⟩)
noncomputable def o_145 : Params → Obj := (fun _ => ⟨.none, (none), (.fields #[]), #[]⟩)
noncomputable def o_146 : Params → Obj := (fun _ => ⟨(.type "tuple"), (none), (.seq #[(.str (Str.ofString "x") 305), (.str (Str.ofString "y") 306), (.str (Str.ofString "gap") 307), (.str (Str.ofString "left") 308), (.str (Str.ofString "right") 309)] 0), #[]⟩)
noncomputable def o_147 : Params → Obj := (fun _ => ⟨(.type "tuple"), (none), (.seq #[] 0), #[]⟩)
noncomputable def o_148 : Params → Obj := (fun _ => ⟨.none, (none), (.func ⟨(Str.ofString "below"), (Str.ofString "below"), f_below.1.p, (.stmts f_below.1.b), f_below.1.s, 0, [], .none, .none, .none, .none, (none), .none, .none, 0⟩), #[]⟩)
noncomputable def o_149 : Params → Obj := (fun _ => ⟨(.type "code"), (none), (.fields #[(.str (Str.ofString "below") 302), (.str (Str.ofString "below") 303), (.str (Str.ofString "/claim/cut.py") 304), (.int 57 0), (.int 3 0), (.int 0 0), (.int 0 0), (.int 3 0), (.ref 106), (.bool true), (.int 181 0), (.ref 107), .none, (.ref 108), (.ref 109), (.ref 110), (.int 310 0), (.int 57 0), (.str (Str.ofString "/claim/cut.py") 311)]), #[]⟩)
noncomputable def o_150 : Params → Obj := (fun _ => ⟨(.type "function"), (none), (.func ⟨(Str.ofString "below"), (Str.ofString "below"), f_below.1.p, (.stmts f_below.1.b), f_below.1.s, 3, [], .none, .none, .none, (.str (Str.ofString "moduleyard.intervals") 187), (none), (.ref 111), .none, 0⟩), #[]⟩)
noncomputable def o_151 : Params → Obj := (fun _ => ⟨(.type "tuple"), (none), (.seq #[] 0), #[]⟩)
noncomputable def o_152 : Params → Obj := (fun _ => ⟨.none, (none), (.fields #[]), #[]⟩)
noncomputable def o_153 : Params → Obj := (fun _ => ⟨(.type "tuple"), (none), (.seq #[(.str (Str.ofString "x") 316), (.str (Str.ofString "n") 317)] 0), #[]⟩)
noncomputable def o_154 : Params → Obj := (fun _ => ⟨(.type "tuple"), (none), (.seq #[] 0), #[]⟩)
noncomputable def o_155 : Params → Obj := (fun _ => ⟨.none, (none), (.func ⟨(Str.ofString "without"), (Str.ofString "without"), f_without.1.p, (.stmts f_without.1.b), f_without.1.s, 0, [], .none, .none, .none, .none, (none), .none, .none, 0⟩), #[]⟩)
noncomputable def o_156 : Params → Obj := (fun _ => ⟨(.type "code"), (none), (.fields #[(.str (Str.ofString "without") 313), (.str (Str.ofString "without") 314), (.str (Str.ofString "/claim/cut.py") 315), (.int 65 0), (.int 2 0), (.int 0 0), (.int 0 0), (.int 3 0), (.ref 113), (.bool true), (.int 181 0), (.ref 114), .none, (.ref 115), (.ref 116), (.ref 117), (.int 318 0), (.int 65 0), (.str (Str.ofString "/claim/cut.py") 319)]), #[]⟩)
noncomputable def o_157 : Params → Obj := (fun _ => ⟨(.type "function"), (none), (.func ⟨(Str.ofString "without"), (Str.ofString "without"), f_without.1.p, (.stmts f_without.1.b), f_without.1.s, 3, [], .none, .none, .none, (.str (Str.ofString "moduleyard.intervals") 187), (none), (.ref 118), .none, 0⟩), #[]⟩)
noncomputable def o_158 : Params → Obj := (fun _ => ⟨(.type "tuple"), (none), (.seq #[] 0), #[]⟩)
noncomputable def o_159 : Params → Obj := (fun _ => ⟨.none, (none), (.fields #[]), #[]⟩)
noncomputable def o_160 : Params → Obj := (fun _ => ⟨(.type "tuple"), (none), (.seq #[(.str (Str.ofString "x") 324), (.str (Str.ofString "y") 325), (.str (Str.ofString "left") 326), (.str (Str.ofString "right") 327)] 0), #[]⟩)
noncomputable def o_161 : Params → Obj := (fun _ => ⟨(.type "tuple"), (none), (.seq #[] 0), #[]⟩)
noncomputable def o_162 : Params → Obj := (fun _ => ⟨.none, (none), (.func ⟨(Str.ofString "apart"), (Str.ofString "apart"), f_apart.1.p, (.stmts f_apart.1.b), f_apart.1.s, 0, [], .none, .none, .none, .none, (none), .none, .none, 0⟩), #[]⟩)
noncomputable def o_163 : Params → Obj := (fun _ => ⟨(.type "code"), (none), (.fields #[(.str (Str.ofString "apart") 321), (.str (Str.ofString "apart") 322), (.str (Str.ofString "/claim/cut.py") 323), (.int 73 0), (.int 2 0), (.int 0 0), (.int 0 0), (.int 3 0), (.ref 120), (.bool true), (.int 181 0), (.ref 121), .none, (.ref 122), (.ref 123), (.ref 124), (.int 328 0), (.int 73 0), (.str (Str.ofString "/claim/cut.py") 329)]), #[]⟩)
noncomputable def o_164 : Params → Obj := (fun _ => ⟨(.type "function"), (none), (.func ⟨(Str.ofString "apart"), (Str.ofString "apart"), f_apart.1.p, (.stmts f_apart.1.b), f_apart.1.s, 3, [], .none, .none, .none, (.str (Str.ofString "moduleyard.intervals") 187), (none), (.ref 125), .none, 0⟩), #[]⟩)
noncomputable def o_165 : Params → Obj := (fun _ => ⟨(.type "tuple"), (none), (.seq #[] 0), #[]⟩)
noncomputable def o_166 : Params → Obj := (fun _ => ⟨.none, (none), (.fields #[]), #[]⟩)
noncomputable def o_167 : Params → Obj := (fun _ => ⟨(.type "tuple"), (none), (.seq #[(.str (Str.ofString "op") 334), (.str (Str.ofString "x") 335), (.str (Str.ofString "y") 336), (.str (Str.ofString "both") 337), (.str (Str.ofString "turned") 338)] 0), #[]⟩)
noncomputable def o_168 : Params → Obj := (fun _ => ⟨(.type "tuple"), (none), (.seq #[] 0), #[]⟩)
noncomputable def o_169 : Params → Obj := (fun _ => ⟨.none, (none), (.func ⟨(Str.ofString "narrow"), (Str.ofString "narrow"), f_narrow.1.p, (.stmts f_narrow.1.b), f_narrow.1.s, 0, [], .none, .none, .none, .none, (none), .none, .none, 0⟩), #[]⟩)
noncomputable def o_170 : Params → Obj := (fun _ => ⟨(.type "code"), (none), (.fields #[(.str (Str.ofString "narrow") 331), (.str (Str.ofString "narrow") 332), (.str (Str.ofString "/claim/cut.py") 333), (.int 79 0), (.int 3 0), (.int 0 0), (.int 0 0), (.int 3 0), (.ref 127), (.bool true), (.int 181 0), (.ref 128), .none, (.ref 129), (.ref 130), (.ref 131), (.int 339 0), (.int 79 0), (.str (Str.ofString "/claim/cut.py") 340)]), #[]⟩)
noncomputable def o_171 : Params → Obj := (fun _ => ⟨(.type "function"), (none), (.func ⟨(Str.ofString "narrow"), (Str.ofString "narrow"), f_narrow.1.p, (.stmts f_narrow.1.b), f_narrow.1.s, 3, [], .none, .none, .none, (.str (Str.ofString "moduleyard.intervals") 187), (none), (.ref 132), .none, 0⟩), #[]⟩)
noncomputable def o_172 : Params → Obj := (fun _ => ⟨(.type "tuple"), (none), (.seq #[] 0), #[]⟩)
noncomputable def o_173 : Params → Obj := (fun _ => ⟨.none, (none), (.fields #[]), #[]⟩)
noncomputable def o_174 : Params → Obj := (fun _ => ⟨(.type "tuple"), (none), (.seq #[(.str (Str.ofString "op") 345)] 0), #[]⟩)
noncomputable def o_175 : Params → Obj := (fun _ => ⟨(.type "tuple"), (none), (.seq #[] 0), #[]⟩)
noncomputable def o_176 : Params → Obj := (fun _ => ⟨.none, (none), (.func ⟨(Str.ofString "opposite"), (Str.ofString "opposite"), f_opposite.1.p, (.stmts f_opposite.1.b), f_opposite.1.s, 0, [], .none, .none, .none, .none, (none), .none, .none, 0⟩), #[]⟩)
noncomputable def o_177 : Params → Obj := (fun _ => ⟨(.type "code"), (none), (.fields #[(.str (Str.ofString "opposite") 342), (.str (Str.ofString "opposite") 343), (.str (Str.ofString "/claim/cut.py") 344), (.int 89 0), (.int 1 0), (.int 0 0), (.int 0 0), (.int 3 0), (.ref 134), (.bool true), (.int 181 0), (.ref 135), .none, (.ref 136), (.ref 137), (.ref 138), (.int 346 0), (.int 89 0), (.str (Str.ofString "/claim/cut.py") 347)]), #[]⟩)
noncomputable def o_178 : Params → Obj := (fun _ => ⟨(.type "function"), (none), (.func ⟨(Str.ofString "opposite"), (Str.ofString "opposite"), f_opposite.1.p, (.stmts f_opposite.1.b), f_opposite.1.s, 3, [], .none, .none, .none, (.str (Str.ofString "moduleyard.intervals") 187), (none), (.ref 139), .none, 0⟩), #[]⟩)
noncomputable def o_179 : Params → Obj := (fun P => ⟨(.type "dict"), (none), (.dict #[⟨(hP P (Str.ofString "__name__")), (.str (Str.ofString "__name__") 165), (.str (Str.ofString "moduleyard.ranges") 400)⟩, ⟨(hP P (Str.ofString "__doc__")), (.str (Str.ofString "__doc__") 166), .none⟩, ⟨(hP P (Str.ofString "__package__")), (.str (Str.ofString "__package__") 167), .none⟩, ⟨(hP P (Str.ofString "__loader__")), (.str (Str.ofString "__loader__") 168), (.builtin "__main__.__loader__#opaque")⟩, ⟨(hP P (Str.ofString "__spec__")), (.str (Str.ofString "__spec__") 169), .none⟩, ⟨(hP P (Str.ofString "__annotations__")), (.str (Str.ofString "__annotations__") 170), (.ref 6)⟩, ⟨(hP P (Str.ofString "__builtins__")), (.str (Str.ofString "__builtins__") 171), (.ref 4)⟩, ⟨(hP P (Str.ofString "__file__")), (.str (Str.ofString "__file__") 173), (.str (Str.ofString "/claim/cut.py") 172)⟩, ⟨(hP P (Str.ofString "__cached__")), (.str (Str.ofString "__cached__") 174), .none⟩, ⟨(hP P (Str.ofString "LEAST")), (.str (Str.ofString "LEAST") 191), (.int (-2147483648) 190)⟩, ⟨(hP P (Str.ofString "GREATEST")), (.str (Str.ofString "GREATEST") 193), (.int 2147483647 192)⟩, ⟨(hP P (Str.ofString "full")), (.str (Str.ofString "full") 199), (.ref 21)⟩, ⟨(hP P (Str.ofString "single")), (.str (Str.ofString "single") 206), (.ref 28)⟩, ⟨(hP P (Str.ofString "clipped")), (.str (Str.ofString "clipped") 215), (.ref 35)⟩, ⟨(hP P (Str.ofString "add")), (.str (Str.ofString "add") 223), (.ref 42)⟩, ⟨(hP P (Str.ofString "sub")), (.str (Str.ofString "sub") 231), (.ref 49)⟩, ⟨(hP P (Str.ofString "mul")), (.str (Str.ofString "mul") 240), (.ref 56)⟩, ⟨(hP P (Str.ofString "neg")), (.str (Str.ofString "neg") 247), (.ref 63)⟩, ⟨(hP P (Str.ofString "absolute")), (.str (Str.ofString "absolute") 254), (.ref 70)⟩, ⟨(hP P (Str.ofString "div")), (.str (Str.ofString "div") 265), (.ref 77)⟩, ⟨(hP P (Str.ofString "mod")), (.str (Str.ofString "mod") 275), (.ref 84)⟩, ⟨(hP P (Str.ofString "within")), (.str (Str.ofString "within") 283), (.ref 91)⟩, ⟨(hP P (Str.ofString "join")), (.str (Str.ofString "join") 291), (.ref 98)⟩, ⟨(hP P (Str.ofString "meet")), (.str (Str.ofString "meet") 301), (.ref 105)⟩, ⟨(hP P (Str.ofString "below")), (.str (Str.ofString "below") 312), (.ref 112)⟩, ⟨(hP P (Str.ofString "without")), (.str (Str.ofString "without") 320), (.ref 119)⟩, ⟨(hP P (Str.ofString "apart")), (.str (Str.ofString "apart") 330), (.ref 126)⟩, ⟨(hP P (Str.ofString "narrow")), (.str (Str.ofString "narrow") 341), (.ref 133)⟩, ⟨(hP P (Str.ofString "opposite")), (.str (Str.ofString "opposite") 348), (.ref 140)⟩, ⟨(hP P (Str.ofString "Node")), (.str (Str.ofString "Node") 388), (.ref 158)⟩, ⟨(hP P (Str.ofString "nodes_of")), (.str (Str.ofString "nodes_of") 399), (.ref 169)⟩] 31), #[]⟩)
noncomputable def o_180 : Params → Obj := (fun _ => ⟨.none, (none), (.fields #[(.int 4 0), (.int 0 0), (.ref 20), (.int 6 0), (.int 0 0), (.ref 27), (.int 8 0), (.int 0 0), (.ref 34), (.int 15 0), (.int 0 0), (.ref 41), (.int 17 0), (.int 0 0), (.ref 48), (.int 19 0), (.int 0 0), (.ref 55), (.int 22 0), (.int 0 0), (.ref 62), (.int 24 0), (.int 0 0), (.ref 69), (.int 30 0), (.int 0 0), (.ref 76), (.int 37 0), (.int 0 0), (.ref 83), (.int 47 0), (.int 0 0), (.ref 90), (.int 49 0), (.int 0 0), (.ref 97), (.int 51 0), (.int 0 0), (.ref 104), (.int 57 0), (.int 0 0), (.ref 111), (.int 65 0), (.int 0 0), (.ref 118), (.int 73 0), (.int 0 0), (.ref 125), (.int 79 0), (.int 0 0), (.ref 132), (.int 89 0), (.int 0 0), (.ref 139), (.int 92 0), (.int 0 0), (.ref 146), (.int 101 0), (.int 0 0), (.ref 168)]), #[]⟩)
noncomputable def o_181 : Params → Obj := (fun _ => ⟨(.type "tuple"), (none), (.seq #[] 0), #[]⟩)
noncomputable def o_182 : Params → Obj := (fun _ => ⟨(.type "builtin_function_or_method"), (none), (.fields #[(.builtin "type.__prepare__"), (.type "type")]), #[]⟩)
noncomputable def o_183 : Params → Obj := (fun P => ⟨(.type "dict"), (none), (.dict #[⟨(hP P (Str.ofString "__module__")), (.str (Str.ofString "__module__") 358), (.str (Str.ofString "moduleyard.trees") 349)⟩, ⟨(hP P (Str.ofString "__qualname__")), (.str (Str.ofString "__qualname__") 360), (.str (Str.ofString "Node") 359)⟩, ⟨(hP P (Str.ofString "__firstlineno__")), (.str (Str.ofString "__firstlineno__") 362), (.int 92 361)⟩, ⟨(hP P (Str.ofString "__init__")), (.str (Str.ofString "__init__") 374), (.ref 155)⟩, ⟨(hP P (Str.ofString "__static_attributes__")), (.str (Str.ofString "__static_attributes__") 381), (.ref 156)⟩] 5), #[]⟩)
noncomputable def o_184 : Params → Obj := (fun _ => ⟨(.type "tuple"), (none), (.seq #[] 0), #[]⟩)
noncomputable def o_185 : Params → Obj := (fun _ => ⟨.none, (none), (.fields #[(.int 94 0), (.int 4 0), (.ref 154)]), #[]⟩)
noncomputable def o_186 : Params → Obj := (fun _ => ⟨(.type "code"), (none), (.fields #[(.str (Str.ofString "Node") 353), (.str (Str.ofString "Node") 354), (.str (Str.ofString "/claim/cut.py") 355), (.int 92 0), (.int 0 0), (.int 0 0), (.int 0 0), (.int 0 0), (.ref 144), (.bool false), (.int 181 0), (.ref 145), .none, .none, .none, .none, (.int 356 0), (.int 92 0), (.str (Str.ofString "/claim/cut.py") 357)]), #[]⟩)
noncomputable def o_187 : Params → Obj := (fun _ => ⟨(.type "frame"), (none), Data.plain, #[(some (.ref 146)), (some (.ref 3)), (some (.ref 143)), (none), (some (.str (Str.ofString "moduleyard.trees") 349)), (none), (some (.ref 0))]⟩)
noncomputable def o_188 : Params → Obj := (fun _ => ⟨(.type "tuple"), (none), (.seq #[.none] 0), #[]⟩)
noncomputable def o_189 : Params → Obj := (fun _ => ⟨(.type "tuple"), (none), (.seq #[] 0), #[]⟩)
noncomputable def o_190 : Params → Obj := (fun _ => ⟨.none, (none), (.fields #[]), #[]⟩)
noncomputable def o_191 : Params → Obj := (fun _ => ⟨(.type "tuple"), (none), (.seq #[(.str (Str.ofString "self") 366), (.str (Str.ofString "op") 367), (.str (Str.ofString "place") 368), (.str (Str.ofString "type_of") 369), (.str (Str.ofString "kids") 370), (.str (Str.ofString "value") 371)] 0), #[]⟩)
noncomputable def o_192 : Params → Obj := (fun _ => ⟨(.type "tuple"), (none), (.seq #[] 0), #[]⟩)
noncomputable def o_193 : Params → Obj := (fun _ => ⟨.none, (none), (.func ⟨(Str.ofString "__init__"), (Str.ofString "Node.__init__"), f_Node_init.1.p, (.stmts f_Node_init.1.b), f_Node_init.1.s, 0, [], .none, .none, .none, .none, (none), .none, .none, 0⟩), #[]⟩)
noncomputable def o_194 : Params → Obj := (fun _ => ⟨(.type "code"), (none), (.fields #[(.str (Str.ofString "__init__") 363), (.str (Str.ofString "Node.__init__") 364), (.str (Str.ofString "/claim/cut.py") 365), (.int 94 0), (.int 6 0), (.int 0 0), (.int 0 0), (.int 3 0), (.ref 149), (.bool true), (.int 181 0), (.ref 150), .none, (.ref 151), (.ref 152), (.ref 153), (.int 372 0), (.int 94 0), (.str (Str.ofString "/claim/cut.py") 373)]), #[]⟩)
noncomputable def o_195 : Params → Obj := (fun _ => ⟨(.type "function"), (none), (.func ⟨(Str.ofString "__init__"), (Str.ofString "Node.__init__"), f_Node_init.1.p, (.stmts f_Node_init.1.b), f_Node_init.1.s, 3, [], (.ref 148), .none, .none, (.str (Str.ofString "moduleyard.trees") 349), (none), (.ref 154), .none, 0⟩), #[]⟩)
noncomputable def o_196 : Params → Obj := (fun _ => ⟨(.type "tuple"), (none), (.seq #[(.str (Str.ofString "kids") 375), (.str (Str.ofString "op") 376), (.str (Str.ofString "place") 377), (.str (Str.ofString "sure") 378), (.str (Str.ofString "type") 379), (.str (Str.ofString "value") 380)] 0), #[]⟩)
noncomputable def o_197 : Params → Obj := (fun P => ⟨(.type "dict"), (none), (.dict #[⟨(hP P (Str.ofString "__module__")), (.str (Str.ofString "__module__") 358), (.str (Str.ofString "moduleyard.trees") 349)⟩, ⟨(hP P (Str.ofString "__firstlineno__")), (.str (Str.ofString "__firstlineno__") 362), (.int 92 361)⟩, ⟨(hP P (Str.ofString "__init__")), (.str (Str.ofString "__init__") 374), (.ref 155)⟩, ⟨(hP P (Str.ofString "__static_attributes__")), (.str (Str.ofString "__static_attributes__") 381), (.ref 156)⟩, ⟨(hP P (Str.ofString "__dict__")), (.str (Str.ofString "__dict__") 383), (.ref 159)⟩, ⟨(hP P (Str.ofString "__weakref__")), (.str (Str.ofString "__weakref__") 385), (.ref 160)⟩, ⟨(hP P (Str.ofString "__doc__")), (.str (Str.ofString "__doc__") 386), .none⟩] 4), #[]⟩)
noncomputable def o_198 : Params → Obj := (fun _ => ⟨(.type "type"), (none), (.cls ⟨(Str.ofString "Node"), [(.type "object")], [(.ref 158), (.type "object")], 157, (Str.ofString "Node"), true, [], [], false, (none), false⟩), #[(none), (none), (some (.str (Str.ofString "Node") 351)), (some (.str (Str.ofString "Node") 359)), (some (.builtin "object.__new__")), (some (.bool true))]⟩)
noncomputable def o_199 : Params → Obj := (fun _ => ⟨(.type "getset_descriptor"), (none), (.fields #[(.str (Str.ofString "__dict__") 382), (.ref 158), (.builtin "function.__dict__"), (.builtin "function.__dict__#set")]), #[]⟩)
noncomputable def o_200 : Params → Obj := (fun _ => ⟨(.type "getset_descriptor"), (none), (.fields #[(.str (Str.ofString "__weakref__") 384), (.ref 158), (.builtin "ExceptionGroup.__weakref__"), .none]), #[]⟩)
noncomputable def o_201 : Params → Obj := (fun _ => ⟨(.type "super"), (none), (.fields #[(.ref 158), (.ref 158), (.ref 158)]), #[]⟩)
noncomputable def o_202 : Params → Obj := (fun _ => ⟨(.type "builtin_function_or_method"), (none), (.fields #[(.builtin "object.__init_subclass__"), (.ref 158)]), #[]⟩)
noncomputable def o_203 : Params → Obj := (fun _ => ⟨(.type "tuple"), (none), (.seq #[] 0), #[]⟩)
noncomputable def o_204 : Params → Obj := (fun _ => ⟨.none, (none), (.fields #[]), #[]⟩)
noncomputable def o_205 : Params → Obj := (fun _ => ⟨(.type "tuple"), (none), (.seq #[(.str (Str.ofString "node") 392), (.str (Str.ofString "found") 393), (.str (Str.ofString "waiting") 394), (.str (Str.ofString "one") 395), (.str (Str.ofString "kid") 396)] 0), #[]⟩)
noncomputable def o_206 : Params → Obj := (fun _ => ⟨(.type "tuple"), (none), (.seq #[] 0), #[]⟩)
noncomputable def o_207 : Params → Obj := (fun _ => ⟨.none, (none), (.func ⟨(Str.ofString "nodes_of"), (Str.ofString "nodes_of"), f_nodes_of.1.p, (.stmts f_nodes_of.1.b), f_nodes_of.1.s, 0, [], .none, .none, .none, .none, (none), .none, .none, 0⟩), #[]⟩)
noncomputable def o_208 : Params → Obj := (fun _ => ⟨(.type "code"), (none), (.fields #[(.str (Str.ofString "nodes_of") 389), (.str (Str.ofString "nodes_of") 390), (.str (Str.ofString "/claim/cut.py") 391), (.int 101 0), (.int 1 0), (.int 0 0), (.int 0 0), (.int 3 0), (.ref 163), (.bool true), (.int 181 0), (.ref 164), .none, (.ref 165), (.ref 166), (.ref 167), (.int 397 0), (.int 101 0), (.str (Str.ofString "/claim/cut.py") 398)]), #[]⟩)
noncomputable def o_209 : Params → Obj := (fun _ => ⟨(.type "function"), (none), (.func ⟨(Str.ofString "nodes_of"), (Str.ofString "nodes_of"), f_nodes_of.1.p, (.stmts f_nodes_of.1.b), f_nodes_of.1.s, 3, [], .none, .none, .none, (.str (Str.ofString "moduleyard.trees") 349), (none), (.ref 168), .none, 0⟩), #[]⟩)
noncomputable def o_210 : Params → Obj := (fun P => ⟨(.type "dict"), (none), (.dict #[⟨(hP P (Str.ofString "__name__")), (.str (Str.ofString "__name__") 165), (.str (Str.ofString "moduleyard.ranges") 400)⟩, ⟨(hP P (Str.ofString "__doc__")), (.str (Str.ofString "__doc__") 166), .none⟩, ⟨(hP P (Str.ofString "__package__")), (.str (Str.ofString "__package__") 167), .none⟩, ⟨(hP P (Str.ofString "__loader__")), (.str (Str.ofString "__loader__") 168), (.builtin "__main__.__loader__#opaque")⟩, ⟨(hP P (Str.ofString "__spec__")), (.str (Str.ofString "__spec__") 169), .none⟩, ⟨(hP P (Str.ofString "__annotations__")), (.str (Str.ofString "__annotations__") 170), (.ref 6)⟩, ⟨(hP P (Str.ofString "__builtins__")), (.str (Str.ofString "__builtins__") 171), (.ref 4)⟩, ⟨(hP P (Str.ofString "__file__")), (.str (Str.ofString "__file__") 173), (.str (Str.ofString "/claim/cut.py") 172)⟩, ⟨(hP P (Str.ofString "__cached__")), (.str (Str.ofString "__cached__") 174), .none⟩, ⟨(hP P (Str.ofString "LEAST")), (.str (Str.ofString "LEAST") 191), (.int (-2147483648) 190)⟩, ⟨(hP P (Str.ofString "GREATEST")), (.str (Str.ofString "GREATEST") 193), (.int 2147483647 192)⟩, ⟨(hP P (Str.ofString "full")), (.str (Str.ofString "full") 199), (.ref 21)⟩, ⟨(hP P (Str.ofString "single")), (.str (Str.ofString "single") 206), (.ref 28)⟩, ⟨(hP P (Str.ofString "clipped")), (.str (Str.ofString "clipped") 215), (.ref 35)⟩, ⟨(hP P (Str.ofString "add")), (.str (Str.ofString "add") 223), (.ref 42)⟩, ⟨(hP P (Str.ofString "sub")), (.str (Str.ofString "sub") 231), (.ref 49)⟩, ⟨(hP P (Str.ofString "mul")), (.str (Str.ofString "mul") 240), (.ref 56)⟩, ⟨(hP P (Str.ofString "neg")), (.str (Str.ofString "neg") 247), (.ref 63)⟩, ⟨(hP P (Str.ofString "absolute")), (.str (Str.ofString "absolute") 254), (.ref 70)⟩, ⟨(hP P (Str.ofString "div")), (.str (Str.ofString "div") 265), (.ref 77)⟩, ⟨(hP P (Str.ofString "mod")), (.str (Str.ofString "mod") 275), (.ref 84)⟩, ⟨(hP P (Str.ofString "within")), (.str (Str.ofString "within") 283), (.ref 91)⟩, ⟨(hP P (Str.ofString "join")), (.str (Str.ofString "join") 291), (.ref 98)⟩, ⟨(hP P (Str.ofString "meet")), (.str (Str.ofString "meet") 301), (.ref 105)⟩, ⟨(hP P (Str.ofString "below")), (.str (Str.ofString "below") 312), (.ref 112)⟩, ⟨(hP P (Str.ofString "without")), (.str (Str.ofString "without") 320), (.ref 119)⟩, ⟨(hP P (Str.ofString "apart")), (.str (Str.ofString "apart") 330), (.ref 126)⟩, ⟨(hP P (Str.ofString "narrow")), (.str (Str.ofString "narrow") 341), (.ref 133)⟩, ⟨(hP P (Str.ofString "opposite")), (.str (Str.ofString "opposite") 348), (.ref 140)⟩, ⟨(hP P (Str.ofString "Node")), (.str (Str.ofString "Node") 388), (.ref 158)⟩, ⟨(hP P (Str.ofString "nodes_of")), (.str (Str.ofString "nodes_of") 399), (.ref 169)⟩, ⟨(hP P (Str.ofString "Ranges")), (.str (Str.ofString "Ranges") 435), (.ref 186)⟩, ⟨(hP P (Str.ofString "join_envs")), (.str (Str.ofString "join_envs") 445), (.ref 197)⟩, ⟨(hP P (Str.ofString "with_slot")), (.str (Str.ofString "with_slot") 455), (.ref 204)⟩, ⟨(hP P (Str.ofString "followed_slot")), (.str (Str.ofString "followed_slot") 463), (.ref 211)⟩, ⟨(hP P (Str.ofString "type_range")), (.str (Str.ofString "type_range") 470), (.ref 218)⟩, ⟨(hP P (Str.ofString "known")), (.str (Str.ofString "known") 477), (.ref 225)⟩] 37), #[]⟩)
noncomputable def o_211 : Params → Obj := (fun _ => ⟨.none, (none), (.fields #[(.int 4 0), (.int 0 0), (.ref 20), (.int 6 0), (.int 0 0), (.ref 27), (.int 8 0), (.int 0 0), (.ref 34), (.int 15 0), (.int 0 0), (.ref 41), (.int 17 0), (.int 0 0), (.ref 48), (.int 19 0), (.int 0 0), (.ref 55), (.int 22 0), (.int 0 0), (.ref 62), (.int 24 0), (.int 0 0), (.ref 69), (.int 30 0), (.int 0 0), (.ref 76), (.int 37 0), (.int 0 0), (.ref 83), (.int 47 0), (.int 0 0), (.ref 90), (.int 49 0), (.int 0 0), (.ref 97), (.int 51 0), (.int 0 0), (.ref 104), (.int 57 0), (.int 0 0), (.ref 111), (.int 65 0), (.int 0 0), (.ref 118), (.int 73 0), (.int 0 0), (.ref 125), (.int 79 0), (.int 0 0), (.ref 132), (.int 89 0), (.int 0 0), (.ref 139), (.int 92 0), (.int 0 0), (.ref 146), (.int 101 0), (.int 0 0), (.ref 168), (.int 114 0), (.int 0 0), (.ref 175), (.int 122 0), (.int 0 0), (.ref 196), (.int 131 0), (.int 0 0), (.ref 203), (.int 135 0), (.int 0 0), (.ref 210), (.int 139 0), (.int 0 0), (.ref 217), (.int 143 0), (.int 0 0), (.ref 224)]), #[]⟩)
noncomputable def o_212 : Params → Obj := (fun _ => ⟨(.type "tuple"), (none), (.seq #[] 0), #[]⟩)
noncomputable def o_213 : Params → Obj := (fun _ => ⟨(.type "builtin_function_or_method"), (none), (.fields #[(.builtin "type.__prepare__"), (.type "type")]), #[]⟩)
noncomputable def o_214 : Params → Obj := (fun P => ⟨(.type "dict"), (none), (.dict #[⟨(hP P (Str.ofString "__module__")), (.str (Str.ofString "__module__") 409), (.str (Str.ofString "moduleyard.ranges") 400)⟩, ⟨(hP P (Str.ofString "__qualname__")), (.str (Str.ofString "__qualname__") 411), (.str (Str.ofString "Ranges") 410)⟩, ⟨(hP P (Str.ofString "__firstlineno__")), (.str (Str.ofString "__firstlineno__") 413), (.int 114 412)⟩, ⟨(hP P (Str.ofString "__init__")), (.str (Str.ofString "__init__") 422), (.ref 183)⟩, ⟨(hP P (Str.ofString "__static_attributes__")), (.str (Str.ofString "__static_attributes__") 428), (.ref 184)⟩] 5), #[]⟩)
noncomputable def o_215 : Params → Obj := (fun _ => ⟨(.type "tuple"), (none), (.seq #[] 0), #[]⟩)
noncomputable def o_216 : Params → Obj := (fun _ => ⟨.none, (none), (.fields #[(.int 116 0), (.int 4 0), (.ref 182)]), #[]⟩)
noncomputable def o_217 : Params → Obj := (fun _ => ⟨(.type "code"), (none), (.fields #[(.str (Str.ofString "Ranges") 404), (.str (Str.ofString "Ranges") 405), (.str (Str.ofString "/claim/cut.py") 406), (.int 114 0), (.int 0 0), (.int 0 0), (.int 0 0), (.int 0 0), (.ref 173), (.bool false), (.int 181 0), (.ref 174), .none, .none, .none, .none, (.int 407 0), (.int 114 0), (.str (Str.ofString "/claim/cut.py") 408)]), #[]⟩)
noncomputable def o_218 : Params → Obj := (fun _ => ⟨(.type "frame"), (none), Data.plain, #[(some (.ref 175)), (some (.ref 3)), (some (.ref 172)), (none), (some (.str (Str.ofString "moduleyard.ranges") 400)), (none), (some (.ref 0))]⟩)
noncomputable def o_219 : Params → Obj := (fun _ => ⟨(.type "tuple"), (none), (.seq #[] 0), #[]⟩)
noncomputable def o_220 : Params → Obj := (fun _ => ⟨.none, (none), (.fields #[]), #[]⟩)
noncomputable def o_221 : Params → Obj := (fun _ => ⟨(.type "tuple"), (none), (.seq #[(.str (Str.ofString "self") 417), (.str (Str.ofString "level") 418), (.str (Str.ofString "slots") 419)] 0), #[]⟩)
noncomputable def o_222 : Params → Obj := (fun _ => ⟨(.type "tuple"), (none), (.seq #[] 0), #[]⟩)
noncomputable def o_223 : Params → Obj := (fun _ => ⟨.none, (none), (.func ⟨(Str.ofString "__init__"), (Str.ofString "Ranges.__init__"), f_Ranges_init.1.p, (.stmts f_Ranges_init.1.b), f_Ranges_init.1.s, 0, [], .none, .none, .none, .none, (none), .none, .none, 0⟩), #[]⟩)
noncomputable def o_224 : Params → Obj := (fun _ => ⟨(.type "code"), (none), (.fields #[(.str (Str.ofString "__init__") 414), (.str (Str.ofString "Ranges.__init__") 415), (.str (Str.ofString "/claim/cut.py") 416), (.int 116 0), (.int 3 0), (.int 0 0), (.int 0 0), (.int 3 0), (.ref 177), (.bool true), (.int 181 0), (.ref 178), .none, (.ref 179), (.ref 180), (.ref 181), (.int 420 0), (.int 116 0), (.str (Str.ofString "/claim/cut.py") 421)]), #[]⟩)
noncomputable def o_225 : Params → Obj := (fun _ => ⟨(.type "function"), (none), (.func ⟨(Str.ofString "__init__"), (Str.ofString "Ranges.__init__"), f_Ranges_init.1.p, (.stmts f_Ranges_init.1.b), f_Ranges_init.1.s, 3, [], .none, .none, .none, (.str (Str.ofString "moduleyard.ranges") 400), (none), (.ref 182), .none, 0⟩), #[]⟩)
noncomputable def o_226 : Params → Obj := (fun _ => ⟨(.type "tuple"), (none), (.seq #[(.str (Str.ofString "level") 423), (.str (Str.ofString "loops") 424), (.str (Str.ofString "marking") 425), (.str (Str.ofString "slots") 426), (.str (Str.ofString "written") 427)] 0), #[]⟩)
noncomputable def o_227 : Params → Obj := (fun P => ⟨(.type "dict"), (none), (.dict #[⟨(hP P (Str.ofString "__module__")), (.str (Str.ofString "__module__") 409), (.str (Str.ofString "moduleyard.ranges") 400)⟩, ⟨(hP P (Str.ofString "__firstlineno__")), (.str (Str.ofString "__firstlineno__") 413), (.int 114 412)⟩, ⟨(hP P (Str.ofString "__init__")), (.str (Str.ofString "__init__") 422), (.ref 183)⟩, ⟨(hP P (Str.ofString "__static_attributes__")), (.str (Str.ofString "__static_attributes__") 428), (.ref 184)⟩, ⟨(hP P (Str.ofString "__dict__")), (.str (Str.ofString "__dict__") 430), (.ref 187)⟩, ⟨(hP P (Str.ofString "__weakref__")), (.str (Str.ofString "__weakref__") 432), (.ref 188)⟩, ⟨(hP P (Str.ofString "__doc__")), (.str (Str.ofString "__doc__") 433), .none⟩] 4), #[]⟩)
noncomputable def o_228 : Params → Obj := (fun _ => ⟨(.type "type"), (none), (.cls ⟨(Str.ofString "Ranges"), [(.type "object")], [(.ref 186), (.type "object")], 185, (Str.ofString "Ranges"), true, [], [], false, (none), false⟩), #[(none), (none), (some (.str (Str.ofString "Ranges") 402)), (some (.str (Str.ofString "Ranges") 410)), (some (.builtin "object.__new__")), (some (.bool true))]⟩)
noncomputable def o_229 : Params → Obj := (fun _ => ⟨(.type "getset_descriptor"), (none), (.fields #[(.str (Str.ofString "__dict__") 429), (.ref 186), (.builtin "function.__dict__"), (.builtin "function.__dict__#set")]), #[]⟩)
noncomputable def o_230 : Params → Obj := (fun _ => ⟨(.type "getset_descriptor"), (none), (.fields #[(.str (Str.ofString "__weakref__") 431), (.ref 186), (.builtin "ExceptionGroup.__weakref__"), .none]), #[]⟩)
noncomputable def o_231 : Params → Obj := (fun _ => ⟨(.type "super"), (none), (.fields #[(.ref 186), (.ref 186), (.ref 186)]), #[]⟩)
noncomputable def o_232 : Params → Obj := (fun _ => ⟨(.type "builtin_function_or_method"), (none), (.fields #[(.builtin "object.__init_subclass__"), (.ref 186)]), #[]⟩)
noncomputable def o_233 : Params → Obj := (fun _ => ⟨(.type "tuple"), (none), (.seq #[] 0), #[]⟩)
noncomputable def o_234 : Params → Obj := (fun _ => ⟨.none, (none), (.fields #[]), #[]⟩)
noncomputable def o_235 : Params → Obj := (fun _ => ⟨(.type "tuple"), (none), (.seq #[(.str (Str.ofString "a") 439), (.str (Str.ofString "b") 440), (.str (Str.ofString "found") 441), (.str (Str.ofString "slot") 442)] 0), #[]⟩)
noncomputable def o_236 : Params → Obj := (fun _ => ⟨(.type "tuple"), (none), (.seq #[] 0), #[]⟩)
noncomputable def o_237 : Params → Obj := (fun _ => ⟨.none, (none), (.func ⟨(Str.ofString "join_envs"), (Str.ofString "join_envs"), f_join_envs.1.p, (.stmts f_join_envs.1.b), f_join_envs.1.s, 0, [], .none, .none, .none, .none, (none), .none, .none, 0⟩), #[]⟩)
noncomputable def o_238 : Params → Obj := (fun _ => ⟨(.type "code"), (none), (.fields #[(.str (Str.ofString "join_envs") 436), (.str (Str.ofString "join_envs") 437), (.str (Str.ofString "/claim/cut.py") 438), (.int 122 0), (.int 2 0), (.int 0 0), (.int 0 0), (.int 3 0), (.ref 191), (.bool true), (.int 181 0), (.ref 192), .none, (.ref 193), (.ref 194), (.ref 195), (.int 443 0), (.int 122 0), (.str (Str.ofString "/claim/cut.py") 444)]), #[]⟩)
noncomputable def o_239 : Params → Obj := (fun _ => ⟨(.type "function"), (none), (.func ⟨(Str.ofString "join_envs"), (Str.ofString "join_envs"), f_join_envs.1.p, (.stmts f_join_envs.1.b), f_join_envs.1.s, 3, [], .none, .none, .none, (.str (Str.ofString "moduleyard.ranges") 400), (none), (.ref 196), .none, 0⟩), #[]⟩)
noncomputable def o_240 : Params → Obj := (fun _ => ⟨(.type "tuple"), (none), (.seq #[] 0), #[]⟩)
noncomputable def o_241 : Params → Obj := (fun _ => ⟨.none, (none), (.fields #[]), #[]⟩)
noncomputable def o_242 : Params → Obj := (fun _ => ⟨(.type "tuple"), (none), (.seq #[(.str (Str.ofString "env") 449), (.str (Str.ofString "slot") 450), (.str (Str.ofString "interval") 451), (.str (Str.ofString "found") 452)] 0), #[]⟩)
noncomputable def o_243 : Params → Obj := (fun _ => ⟨(.type "tuple"), (none), (.seq #[] 0), #[]⟩)
noncomputable def o_244 : Params → Obj := (fun _ => ⟨.none, (none), (.func ⟨(Str.ofString "with_slot"), (Str.ofString "with_slot"), f_with_slot.1.p, (.stmts f_with_slot.1.b), f_with_slot.1.s, 0, [], .none, .none, .none, .none, (none), .none, .none, 0⟩), #[]⟩)
noncomputable def o_245 : Params → Obj := (fun _ => ⟨(.type "code"), (none), (.fields #[(.str (Str.ofString "with_slot") 446), (.str (Str.ofString "with_slot") 447), (.str (Str.ofString "/claim/cut.py") 448), (.int 131 0), (.int 3 0), (.int 0 0), (.int 0 0), (.int 3 0), (.ref 198), (.bool true), (.int 181 0), (.ref 199), .none, (.ref 200), (.ref 201), (.ref 202), (.int 453 0), (.int 131 0), (.str (Str.ofString "/claim/cut.py") 454)]), #[]⟩)
noncomputable def o_246 : Params → Obj := (fun _ => ⟨(.type "function"), (none), (.func ⟨(Str.ofString "with_slot"), (Str.ofString "with_slot"), f_with_slot.1.p, (.stmts f_with_slot.1.b), f_with_slot.1.s, 3, [], .none, .none, .none, (.str (Str.ofString "moduleyard.ranges") 400), (none), (.ref 203), .none, 0⟩), #[]⟩)
noncomputable def o_247 : Params → Obj := (fun _ => ⟨(.type "tuple"), (none), (.seq #[] 0), #[]⟩)
noncomputable def o_248 : Params → Obj := (fun _ => ⟨.none, (none), (.fields #[]), #[]⟩)
noncomputable def o_249 : Params → Obj := (fun _ => ⟨(.type "tuple"), (none), (.seq #[(.str (Str.ofString "st") 459), (.str (Str.ofString "node") 460)] 0), #[]⟩)
noncomputable def o_250 : Params → Obj := (fun _ => ⟨(.type "tuple"), (none), (.seq #[] 0), #[]⟩)
noncomputable def o_251 : Params → Obj := (fun _ => ⟨.none, (none), (.func ⟨(Str.ofString "followed_slot"), (Str.ofString "followed_slot"), f_followed_slot.1.p, (.stmts f_followed_slot.1.b), f_followed_slot.1.s, 0, [], .none, .none, .none, .none, (none), .none, .none, 0⟩), #[]⟩)
noncomputable def o_252 : Params → Obj := (fun _ => ⟨(.type "code"), (none), (.fields #[(.str (Str.ofString "followed_slot") 456), (.str (Str.ofString "followed_slot") 457), (.str (Str.ofString "/claim/cut.py") 458), (.int 135 0), (.int 2 0), (.int 0 0), (.int 0 0), (.int 3 0), (.ref 205), (.bool true), (.int 181 0), (.ref 206), .none, (.ref 207), (.ref 208), (.ref 209), (.int 461 0), (.int 135 0), (.str (Str.ofString "/claim/cut.py") 462)]), #[]⟩)
noncomputable def o_253 : Params → Obj := (fun _ => ⟨(.type "function"), (none), (.func ⟨(Str.ofString "followed_slot"), (Str.ofString "followed_slot"), f_followed_slot.1.p, (.stmts f_followed_slot.1.b), f_followed_slot.1.s, 3, [], .none, .none, .none, (.str (Str.ofString "moduleyard.ranges") 400), (none), (.ref 210), .none, 0⟩), #[]⟩)
noncomputable def o_254 : Params → Obj := (fun _ => ⟨(.type "tuple"), (none), (.seq #[] 0), #[]⟩)
noncomputable def o_255 : Params → Obj := (fun _ => ⟨.none, (none), (.fields #[]), #[]⟩)
noncomputable def o_256 : Params → Obj := (fun _ => ⟨(.type "tuple"), (none), (.seq #[(.str (Str.ofString "t") 467)] 0), #[]⟩)
noncomputable def o_257 : Params → Obj := (fun _ => ⟨(.type "tuple"), (none), (.seq #[] 0), #[]⟩)
noncomputable def o_258 : Params → Obj := (fun _ => ⟨.none, (none), (.func ⟨(Str.ofString "type_range"), (Str.ofString "type_range"), f_type_range.1.p, (.stmts f_type_range.1.b), f_type_range.1.s, 0, [], .none, .none, .none, .none, (none), .none, .none, 0⟩), #[]⟩)
noncomputable def o_259 : Params → Obj := (fun _ => ⟨(.type "code"), (none), (.fields #[(.str (Str.ofString "type_range") 464), (.str (Str.ofString "type_range") 465), (.str (Str.ofString "/claim/cut.py") 466), (.int 139 0), (.int 1 0), (.int 0 0), (.int 0 0), (.int 3 0), (.ref 212), (.bool true), (.int 181 0), (.ref 213), .none, (.ref 214), (.ref 215), (.ref 216), (.int 468 0), (.int 139 0), (.str (Str.ofString "/claim/cut.py") 469)]), #[]⟩)
noncomputable def o_260 : Params → Obj := (fun _ => ⟨(.type "function"), (none), (.func ⟨(Str.ofString "type_range"), (Str.ofString "type_range"), f_type_range.1.p, (.stmts f_type_range.1.b), f_type_range.1.s, 3, [], .none, .none, .none, (.str (Str.ofString "moduleyard.ranges") 400), (none), (.ref 217), .none, 0⟩), #[]⟩)
noncomputable def o_261 : Params → Obj := (fun _ => ⟨(.type "tuple"), (none), (.seq #[] 0), #[]⟩)
noncomputable def o_262 : Params → Obj := (fun _ => ⟨.none, (none), (.fields #[]), #[]⟩)
noncomputable def o_263 : Params → Obj := (fun _ => ⟨(.type "tuple"), (none), (.seq #[(.str (Str.ofString "interval") 474)] 0), #[]⟩)
noncomputable def o_264 : Params → Obj := (fun _ => ⟨(.type "tuple"), (none), (.seq #[] 0), #[]⟩)
noncomputable def o_265 : Params → Obj := (fun _ => ⟨.none, (none), (.func ⟨(Str.ofString "known"), (Str.ofString "known"), f_known.1.p, (.stmts f_known.1.b), f_known.1.s, 0, [], .none, .none, .none, .none, (none), .none, .none, 0⟩), #[]⟩)
noncomputable def o_266 : Params → Obj := (fun _ => ⟨(.type "code"), (none), (.fields #[(.str (Str.ofString "known") 471), (.str (Str.ofString "known") 472), (.str (Str.ofString "/claim/cut.py") 473), (.int 143 0), (.int 1 0), (.int 0 0), (.int 0 0), (.int 3 0), (.ref 219), (.bool true), (.int 181 0), (.ref 220), .none, (.ref 221), (.ref 222), (.ref 223), (.int 475 0), (.int 143 0), (.str (Str.ofString "/claim/cut.py") 476)]), #[]⟩)
noncomputable def o_267 : Params → Obj := (fun _ => ⟨(.type "function"), (none), (.func ⟨(Str.ofString "known"), (Str.ofString "known"), f_known.1.p, (.stmts f_known.1.b), f_known.1.s, 3, [], .none, .none, .none, (.str (Str.ofString "moduleyard.ranges") 400), (none), (.ref 224), .none, 0⟩), #[]⟩)
noncomputable def o_268 : Params → Obj := (fun P => ⟨(.type "dict"), (none), (.dict #[⟨(hP P (Str.ofString "__name__")), (.str (Str.ofString "__name__") 165), (.str (Str.ofString "moduleyard.ranges") 400)⟩, ⟨(hP P (Str.ofString "__doc__")), (.str (Str.ofString "__doc__") 166), .none⟩, ⟨(hP P (Str.ofString "__package__")), (.str (Str.ofString "__package__") 167), .none⟩, ⟨(hP P (Str.ofString "__loader__")), (.str (Str.ofString "__loader__") 168), (.builtin "__main__.__loader__#opaque")⟩, ⟨(hP P (Str.ofString "__spec__")), (.str (Str.ofString "__spec__") 169), .none⟩, ⟨(hP P (Str.ofString "__annotations__")), (.str (Str.ofString "__annotations__") 170), (.ref 6)⟩, ⟨(hP P (Str.ofString "__builtins__")), (.str (Str.ofString "__builtins__") 171), (.ref 4)⟩, ⟨(hP P (Str.ofString "__file__")), (.str (Str.ofString "__file__") 173), (.str (Str.ofString "/claim/cut.py") 172)⟩, ⟨(hP P (Str.ofString "__cached__")), (.str (Str.ofString "__cached__") 174), .none⟩, ⟨(hP P (Str.ofString "LEAST")), (.str (Str.ofString "LEAST") 191), (.int (-2147483648) 190)⟩, ⟨(hP P (Str.ofString "GREATEST")), (.str (Str.ofString "GREATEST") 193), (.int 2147483647 192)⟩, ⟨(hP P (Str.ofString "full")), (.str (Str.ofString "full") 199), (.ref 21)⟩, ⟨(hP P (Str.ofString "single")), (.str (Str.ofString "single") 206), (.ref 28)⟩, ⟨(hP P (Str.ofString "clipped")), (.str (Str.ofString "clipped") 215), (.ref 35)⟩, ⟨(hP P (Str.ofString "add")), (.str (Str.ofString "add") 223), (.ref 42)⟩, ⟨(hP P (Str.ofString "sub")), (.str (Str.ofString "sub") 231), (.ref 49)⟩, ⟨(hP P (Str.ofString "mul")), (.str (Str.ofString "mul") 240), (.ref 56)⟩, ⟨(hP P (Str.ofString "neg")), (.str (Str.ofString "neg") 247), (.ref 63)⟩, ⟨(hP P (Str.ofString "absolute")), (.str (Str.ofString "absolute") 254), (.ref 70)⟩, ⟨(hP P (Str.ofString "div")), (.str (Str.ofString "div") 265), (.ref 77)⟩, ⟨(hP P (Str.ofString "mod")), (.str (Str.ofString "mod") 275), (.ref 84)⟩, ⟨(hP P (Str.ofString "within")), (.str (Str.ofString "within") 283), (.ref 91)⟩, ⟨(hP P (Str.ofString "join")), (.str (Str.ofString "join") 291), (.ref 98)⟩, ⟨(hP P (Str.ofString "meet")), (.str (Str.ofString "meet") 301), (.ref 105)⟩, ⟨(hP P (Str.ofString "below")), (.str (Str.ofString "below") 312), (.ref 112)⟩, ⟨(hP P (Str.ofString "without")), (.str (Str.ofString "without") 320), (.ref 119)⟩, ⟨(hP P (Str.ofString "apart")), (.str (Str.ofString "apart") 330), (.ref 126)⟩, ⟨(hP P (Str.ofString "narrow")), (.str (Str.ofString "narrow") 341), (.ref 133)⟩, ⟨(hP P (Str.ofString "opposite")), (.str (Str.ofString "opposite") 348), (.ref 140)⟩, ⟨(hP P (Str.ofString "Node")), (.str (Str.ofString "Node") 388), (.ref 158)⟩, ⟨(hP P (Str.ofString "nodes_of")), (.str (Str.ofString "nodes_of") 399), (.ref 169)⟩, ⟨(hP P (Str.ofString "Ranges")), (.str (Str.ofString "Ranges") 435), (.ref 186)⟩, ⟨(hP P (Str.ofString "join_envs")), (.str (Str.ofString "join_envs") 445), (.ref 197)⟩, ⟨(hP P (Str.ofString "with_slot")), (.str (Str.ofString "with_slot") 455), (.ref 204)⟩, ⟨(hP P (Str.ofString "followed_slot")), (.str (Str.ofString "followed_slot") 463), (.ref 211)⟩, ⟨(hP P (Str.ofString "type_range")), (.str (Str.ofString "type_range") 470), (.ref 218)⟩, ⟨(hP P (Str.ofString "known")), (.str (Str.ofString "known") 477), (.ref 225)⟩, ⟨(hP P (Str.ofString "mark")), (.str (Str.ofString "mark") 486), (.ref 232)⟩, ⟨(hP P (Str.ofString "look_arithmetic")), (.str (Str.ofString "look_arithmetic") 500), (.ref 239)⟩, ⟨(hP P (Str.ofString "look_index")), (.str (Str.ofString "look_index") 512), (.ref 246)⟩, ⟨(hP P (Str.ofString "look_std")), (.str (Str.ofString "look_std") 518), (.ref 251)⟩, ⟨(hP P (Str.ofString "look_lazy")), (.str (Str.ofString "look_lazy") 528), (.ref 258)⟩, ⟨(hP P (Str.ofString "look")), (.str (Str.ofString "look") 540), (.ref 265)⟩, ⟨(hP P (Str.ofString "quiet")), (.str (Str.ofString "quiet") 551), (.ref 272)⟩, ⟨(hP P (Str.ofString "holds_lazy")), (.str (Str.ofString "holds_lazy") 559), (.ref 279)⟩, ⟨(hP P (Str.ofString "side_range")), (.str (Str.ofString "side_range") 568), (.ref 286)⟩, ⟨(hP P (Str.ofString "assume_relation")), (.str (Str.ofString "assume_relation") 584), (.ref 293)⟩, ⟨(hP P (Str.ofString "both_ways")), (.str (Str.ofString "both_ways") 599), (.ref 300)⟩, ⟨(hP P (Str.ofString "assume")), (.str (Str.ofString "assume") 609), (.ref 307)⟩] 49), #[]⟩)
noncomputable def o_269 : Params → Obj := (fun _ => ⟨.none, (none), (.fields #[(.int 4 0), (.int 0 0), (.ref 20), (.int 6 0), (.int 0 0), (.ref 27), (.int 8 0), (.int 0 0), (.ref 34), (.int 15 0), (.int 0 0), (.ref 41), (.int 17 0), (.int 0 0), (.ref 48), (.int 19 0), (.int 0 0), (.ref 55), (.int 22 0), (.int 0 0), (.ref 62), (.int 24 0), (.int 0 0), (.ref 69), (.int 30 0), (.int 0 0), (.ref 76), (.int 37 0), (.int 0 0), (.ref 83), (.int 47 0), (.int 0 0), (.ref 90), (.int 49 0), (.int 0 0), (.ref 97), (.int 51 0), (.int 0 0), (.ref 104), (.int 57 0), (.int 0 0), (.ref 111), (.int 65 0), (.int 0 0), (.ref 118), (.int 73 0), (.int 0 0), (.ref 125), (.int 79 0), (.int 0 0), (.ref 132), (.int 89 0), (.int 0 0), (.ref 139), (.int 92 0), (.int 0 0), (.ref 146), (.int 101 0), (.int 0 0), (.ref 168), (.int 114 0), (.int 0 0), (.ref 175), (.int 122 0), (.int 0 0), (.ref 196), (.int 131 0), (.int 0 0), (.ref 203), (.int 135 0), (.int 0 0), (.ref 210), (.int 139 0), (.int 0 0), (.ref 217), (.int 143 0), (.int 0 0), (.ref 224), (.int 145 0), (.int 0 0), (.ref 231), (.int 148 0), (.int 0 0), (.ref 238), (.int 158 0), (.int 0 0), (.ref 245), (.int 165 0), (.int 0 0), (.ref 250), (.int 176 0), (.int 0 0), (.ref 257), (.int 182 0), (.int 0 0), (.ref 264), (.int 202 0), (.int 0 0), (.ref 271), (.int 208 0), (.int 0 0), (.ref 278), (.int 213 0), (.int 0 0), (.ref 285), (.int 217 0), (.int 0 0), (.ref 292), (.int 231 0), (.int 0 0), (.ref 299), (.int 251 0), (.int 0 0), (.ref 306)]), #[]⟩)
noncomputable def o_270 : Params → Obj := (fun _ => ⟨(.type "tuple"), (none), (.seq #[] 0), #[]⟩)
noncomputable def o_271 : Params → Obj := (fun _ => ⟨.none, (none), (.fields #[]), #[]⟩)
noncomputable def o_272 : Params → Obj := (fun _ => ⟨(.type "tuple"), (none), (.seq #[(.str (Str.ofString "st") 481), (.str (Str.ofString "node") 482), (.str (Str.ofString "traps") 483)] 0), #[]⟩)
noncomputable def o_273 : Params → Obj := (fun _ => ⟨(.type "tuple"), (none), (.seq #[] 0), #[]⟩)
noncomputable def o_274 : Params → Obj := (fun _ => ⟨.none, (none), (.func ⟨(Str.ofString "mark"), (Str.ofString "mark"), f_mark.1.p, (.stmts f_mark.1.b), f_mark.1.s, 0, [], .none, .none, .none, .none, (none), .none, .none, 0⟩), #[]⟩)
noncomputable def o_275 : Params → Obj := (fun _ => ⟨(.type "code"), (none), (.fields #[(.str (Str.ofString "mark") 478), (.str (Str.ofString "mark") 479), (.str (Str.ofString "/claim/cut.py") 480), (.int 145 0), (.int 3 0), (.int 0 0), (.int 0 0), (.int 3 0), (.ref 226), (.bool true), (.int 181 0), (.ref 227), .none, (.ref 228), (.ref 229), (.ref 230), (.int 484 0), (.int 145 0), (.str (Str.ofString "/claim/cut.py") 485)]), #[]⟩)
noncomputable def o_276 : Params → Obj := (fun _ => ⟨(.type "function"), (none), (.func ⟨(Str.ofString "mark"), (Str.ofString "mark"), f_mark.1.p, (.stmts f_mark.1.b), f_mark.1.s, 3, [], .none, .none, .none, (.str (Str.ofString "moduleyard.ranges") 400), (none), (.ref 231), .none, 0⟩), #[]⟩)
noncomputable def o_277 : Params → Obj := (fun _ => ⟨(.type "tuple"), (none), (.seq #[] 0), #[]⟩)
noncomputable def o_278 : Params → Obj := (fun _ => ⟨.none, (none), (.fields #[]), #[]⟩)
noncomputable def o_279 : Params → Obj := (fun _ => ⟨(.type "tuple"), (none), (.seq #[(.str (Str.ofString "st") 490), (.str (Str.ofString "env") 491), (.str (Str.ofString "node") 492), (.str (Str.ofString "x") 493), (.str (Str.ofString "found") 494), (.str (Str.ofString "traps") 495), (.str (Str.ofString "y") 496), (.str (Str.ofString "steps") 497)] 0), #[]⟩)
noncomputable def o_280 : Params → Obj := (fun _ => ⟨(.type "tuple"), (none), (.seq #[] 0), #[]⟩)
noncomputable def o_281 : Params → Obj := (fun _ => ⟨.none, (none), (.func ⟨(Str.ofString "look_arithmetic"), (Str.ofString "look_arithmetic"), f_look_arithmetic.1.p, (.stmts f_look_arithmetic.1.b), f_look_arithmetic.1.s, 0, [], .none, .none, .none, .none, (none), .none, .none, 0⟩), #[]⟩)
noncomputable def o_282 : Params → Obj := (fun _ => ⟨(.type "code"), (none), (.fields #[(.str (Str.ofString "look_arithmetic") 487), (.str (Str.ofString "look_arithmetic") 488), (.str (Str.ofString "/claim/cut.py") 489), (.int 148 0), (.int 3 0), (.int 0 0), (.int 0 0), (.int 3 0), (.ref 233), (.bool true), (.int 181 0), (.ref 234), .none, (.ref 235), (.ref 236), (.ref 237), (.int 498 0), (.int 148 0), (.str (Str.ofString "/claim/cut.py") 499)]), #[]⟩)
noncomputable def o_283 : Params → Obj := (fun _ => ⟨(.type "function"), (none), (.func ⟨(Str.ofString "look_arithmetic"), (Str.ofString "look_arithmetic"), f_look_arithmetic.1.p, (.stmts f_look_arithmetic.1.b), f_look_arithmetic.1.s, 3, [], .none, .none, .none, (.str (Str.ofString "moduleyard.ranges") 400), (none), (.ref 238), .none, 0⟩), #[]⟩)
noncomputable def o_284 : Params → Obj := (fun _ => ⟨(.type "tuple"), (none), (.seq #[] 0), #[]⟩)
noncomputable def o_285 : Params → Obj := (fun _ => ⟨.none, (none), (.fields #[]), #[]⟩)
noncomputable def o_286 : Params → Obj := (fun _ => ⟨(.type "tuple"), (none), (.seq #[(.str (Str.ofString "st") 504), (.str (Str.ofString "env") 505), (.str (Str.ofString "node") 506), (.str (Str.ofString "place") 507), (.str (Str.ofString "length") 508), (.str (Str.ofString "inside") 509)] 0), #[]⟩)
noncomputable def o_287 : Params → Obj := (fun _ => ⟨(.type "tuple"), (none), (.seq #[] 0), #[]⟩)
noncomputable def o_288 : Params → Obj := (fun _ => ⟨.none, (none), (.func ⟨(Str.ofString "look_index"), (Str.ofString "look_index"), f_look_index.1.p, (.stmts f_look_index.1.b), f_look_index.1.s, 0, [], .none, .none, .none, .none, (none), .none, .none, 0⟩), #[]⟩)
noncomputable def o_289 : Params → Obj := (fun _ => ⟨(.type "code"), (none), (.fields #[(.str (Str.ofString "look_index") 501), (.str (Str.ofString "look_index") 502), (.str (Str.ofString "/claim/cut.py") 503), (.int 158 0), (.int 3 0), (.int 0 0), (.int 0 0), (.int 3 0), (.ref 240), (.bool true), (.int 181 0), (.ref 241), .none, (.ref 242), (.ref 243), (.ref 244), (.int 510 0), (.int 158 0), (.str (Str.ofString "/claim/cut.py") 511)]), #[]⟩)
noncomputable def o_290 : Params → Obj := (fun _ => ⟨(.type "function"), (none), (.func ⟨(Str.ofString "look_index"), (Str.ofString "look_index"), f_look_index.1.p, (.stmts f_look_index.1.b), f_look_index.1.s, 3, [], .none, .none, .none, (.str (Str.ofString "moduleyard.ranges") 400), (none), (.ref 245), .none, 0⟩), #[]⟩)
noncomputable def o_291 : Params → Obj := (fun _ => ⟨(.type "tuple"), (none), (.seq #[] 0), #[]⟩)
noncomputable def o_292 : Params → Obj := (fun _ => ⟨.none, (none), (.fields #[]), #[]⟩)
noncomputable def o_293 : Params → Obj := (fun _ => ⟨.none, (none), (.func ⟨(Str.ofString "look_std"), (Str.ofString "look_std"), f_look_std.1.p, (.stmts f_look_std.1.b), f_look_std.1.s, 0, [], .none, .none, .none, .none, (none), .none, .none, 0⟩), #[]⟩)
noncomputable def o_294 : Params → Obj := (fun _ => ⟨(.type "code"), (none), (.fields #[(.str (Str.ofString "look_std") 513), (.str (Str.ofString "look_std") 514), (.str (Str.ofString "/claim/cut.py") 515), (.int 165 0), (.int 3 0), (.int 0 0), (.int 0 0), (.int 3 0), (.ref 247), (.bool true), (.int 181 0), (.ref 248), .none, .none, .none, (.ref 249), (.int 516 0), (.int 165 0), (.str (Str.ofString "/claim/cut.py") 517)]), #[]⟩)
noncomputable def o_295 : Params → Obj := (fun _ => ⟨(.type "function"), (none), (.func ⟨(Str.ofString "look_std"), (Str.ofString "look_std"), f_look_std.1.p, (.stmts f_look_std.1.b), f_look_std.1.s, 3, [], .none, .none, .none, (.str (Str.ofString "moduleyard.ranges") 400), (none), (.ref 250), .none, 0⟩), #[]⟩)
noncomputable def o_296 : Params → Obj := (fun _ => ⟨(.type "tuple"), (none), (.seq #[] 0), #[]⟩)
noncomputable def o_297 : Params → Obj := (fun _ => ⟨.none, (none), (.fields #[]), #[]⟩)
noncomputable def o_298 : Params → Obj := (fun _ => ⟨(.type "tuple"), (none), (.seq #[(.str (Str.ofString "st") 522), (.str (Str.ofString "env") 523), (.str (Str.ofString "node") 524), (.str (Str.ofString "inner") 525)] 0), #[]⟩)
noncomputable def o_299 : Params → Obj := (fun _ => ⟨(.type "tuple"), (none), (.seq #[] 0), #[]⟩)
noncomputable def o_300 : Params → Obj := (fun _ => ⟨.none, (none), (.func ⟨(Str.ofString "look_lazy"), (Str.ofString "look_lazy"), f_look_lazy.1.p, (.stmts f_look_lazy.1.b), f_look_lazy.1.s, 0, [], .none, .none, .none, .none, (none), .none, .none, 0⟩), #[]⟩)
noncomputable def o_301 : Params → Obj := (fun _ => ⟨(.type "code"), (none), (.fields #[(.str (Str.ofString "look_lazy") 519), (.str (Str.ofString "look_lazy") 520), (.str (Str.ofString "/claim/cut.py") 521), (.int 176 0), (.int 3 0), (.int 0 0), (.int 0 0), (.int 3 0), (.ref 252), (.bool true), (.int 181 0), (.ref 253), .none, (.ref 254), (.ref 255), (.ref 256), (.int 526 0), (.int 176 0), (.str (Str.ofString "/claim/cut.py") 527)]), #[]⟩)
noncomputable def o_302 : Params → Obj := (fun _ => ⟨(.type "function"), (none), (.func ⟨(Str.ofString "look_lazy"), (Str.ofString "look_lazy"), f_look_lazy.1.p, (.stmts f_look_lazy.1.b), f_look_lazy.1.s, 3, [], .none, .none, .none, (.str (Str.ofString "moduleyard.ranges") 400), (none), (.ref 257), .none, 0⟩), #[]⟩)
noncomputable def o_303 : Params → Obj := (fun _ => ⟨(.type "tuple"), (none), (.seq #[] 0), #[]⟩)
noncomputable def o_304 : Params → Obj := (fun _ => ⟨.none, (none), (.fields #[]), #[]⟩)
noncomputable def o_305 : Params → Obj := (fun _ => ⟨(.type "tuple"), (none), (.seq #[(.str (Str.ofString "st") 532), (.str (Str.ofString "env") 533), (.str (Str.ofString "node") 534), (.str (Str.ofString "op") 535), (.str (Str.ofString "slot") 536), (.str (Str.ofString "kid") 537)] 0), #[]⟩)
noncomputable def o_306 : Params → Obj := (fun _ => ⟨(.type "tuple"), (none), (.seq #[] 0), #[]⟩)
noncomputable def o_307 : Params → Obj := (fun _ => ⟨.none, (none), (.func ⟨(Str.ofString "look"), (Str.ofString "look"), f_look.1.p, (.stmts f_look.1.b), f_look.1.s, 0, [], .none, .none, .none, .none, (none), .none, .none, 0⟩), #[]⟩)
noncomputable def o_308 : Params → Obj := (fun _ => ⟨(.type "code"), (none), (.fields #[(.str (Str.ofString "look") 529), (.str (Str.ofString "look") 530), (.str (Str.ofString "/claim/cut.py") 531), (.int 182 0), (.int 3 0), (.int 0 0), (.int 0 0), (.int 3 0), (.ref 259), (.bool true), (.int 181 0), (.ref 260), .none, (.ref 261), (.ref 262), (.ref 263), (.int 538 0), (.int 182 0), (.str (Str.ofString "/claim/cut.py") 539)]), #[]⟩)
noncomputable def o_309 : Params → Obj := (fun _ => ⟨(.type "function"), (none), (.func ⟨(Str.ofString "look"), (Str.ofString "look"), f_look.1.p, (.stmts f_look.1.b), f_look.1.s, 3, [], .none, .none, .none, (.str (Str.ofString "moduleyard.ranges") 400), (none), (.ref 264), .none, 0⟩), #[]⟩)
noncomputable def o_310 : Params → Obj := (fun _ => ⟨(.type "tuple"), (none), (.seq #[] 0), #[]⟩)
noncomputable def o_311 : Params → Obj := (fun _ => ⟨.none, (none), (.fields #[]), #[]⟩)
noncomputable def o_312 : Params → Obj := (fun _ => ⟨(.type "tuple"), (none), (.seq #[(.str (Str.ofString "st") 544), (.str (Str.ofString "env") 545), (.str (Str.ofString "node") 546), (.str (Str.ofString "kept") 547), (.str (Str.ofString "found") 548)] 0), #[]⟩)
noncomputable def o_313 : Params → Obj := (fun _ => ⟨(.type "tuple"), (none), (.seq #[] 0), #[]⟩)
noncomputable def o_314 : Params → Obj := (fun _ => ⟨.none, (none), (.func ⟨(Str.ofString "quiet"), (Str.ofString "quiet"), f_quiet.1.p, (.stmts f_quiet.1.b), f_quiet.1.s, 0, [], .none, .none, .none, .none, (none), .none, .none, 0⟩), #[]⟩)
noncomputable def o_315 : Params → Obj := (fun _ => ⟨(.type "code"), (none), (.fields #[(.str (Str.ofString "quiet") 541), (.str (Str.ofString "quiet") 542), (.str (Str.ofString "/claim/cut.py") 543), (.int 202 0), (.int 3 0), (.int 0 0), (.int 0 0), (.int 3 0), (.ref 266), (.bool true), (.int 181 0), (.ref 267), .none, (.ref 268), (.ref 269), (.ref 270), (.int 549 0), (.int 202 0), (.str (Str.ofString "/claim/cut.py") 550)]), #[]⟩)
noncomputable def o_316 : Params → Obj := (fun _ => ⟨(.type "function"), (none), (.func ⟨(Str.ofString "quiet"), (Str.ofString "quiet"), f_quiet.1.p, (.stmts f_quiet.1.b), f_quiet.1.s, 3, [], .none, .none, .none, (.str (Str.ofString "moduleyard.ranges") 400), (none), (.ref 271), .none, 0⟩), #[]⟩)
noncomputable def o_317 : Params → Obj := (fun _ => ⟨(.type "tuple"), (none), (.seq #[] 0), #[]⟩)
noncomputable def o_318 : Params → Obj := (fun _ => ⟨.none, (none), (.fields #[]), #[]⟩)
noncomputable def o_319 : Params → Obj := (fun _ => ⟨(.type "tuple"), (none), (.seq #[(.str (Str.ofString "node") 555), (.str (Str.ofString "one") 556)] 0), #[]⟩)
noncomputable def o_320 : Params → Obj := (fun _ => ⟨(.type "tuple"), (none), (.seq #[] 0), #[]⟩)
noncomputable def o_321 : Params → Obj := (fun _ => ⟨.none, (none), (.func ⟨(Str.ofString "holds_lazy"), (Str.ofString "holds_lazy"), f_holds_lazy.1.p, (.stmts f_holds_lazy.1.b), f_holds_lazy.1.s, 0, [], .none, .none, .none, .none, (none), .none, .none, 0⟩), #[]⟩)
noncomputable def o_322 : Params → Obj := (fun _ => ⟨(.type "code"), (none), (.fields #[(.str (Str.ofString "holds_lazy") 552), (.str (Str.ofString "holds_lazy") 553), (.str (Str.ofString "/claim/cut.py") 554), (.int 208 0), (.int 1 0), (.int 0 0), (.int 0 0), (.int 3 0), (.ref 273), (.bool true), (.int 181 0), (.ref 274), .none, (.ref 275), (.ref 276), (.ref 277), (.int 557 0), (.int 208 0), (.str (Str.ofString "/claim/cut.py") 558)]), #[]⟩)
noncomputable def o_323 : Params → Obj := (fun _ => ⟨(.type "function"), (none), (.func ⟨(Str.ofString "holds_lazy"), (Str.ofString "holds_lazy"), f_holds_lazy.1.p, (.stmts f_holds_lazy.1.b), f_holds_lazy.1.s, 3, [], .none, .none, .none, (.str (Str.ofString "moduleyard.ranges") 400), (none), (.ref 278), .none, 0⟩), #[]⟩)
noncomputable def o_324 : Params → Obj := (fun _ => ⟨(.type "tuple"), (none), (.seq #[] 0), #[]⟩)
noncomputable def o_325 : Params → Obj := (fun _ => ⟨.none, (none), (.fields #[]), #[]⟩)
noncomputable def o_326 : Params → Obj := (fun _ => ⟨(.type "tuple"), (none), (.seq #[(.str (Str.ofString "st") 563), (.str (Str.ofString "env") 564), (.str (Str.ofString "node") 565)] 0), #[]⟩)
noncomputable def o_327 : Params → Obj := (fun _ => ⟨(.type "tuple"), (none), (.seq #[] 0), #[]⟩)
noncomputable def o_328 : Params → Obj := (fun _ => ⟨.none, (none), (.func ⟨(Str.ofString "side_range"), (Str.ofString "side_range"), f_side_range.1.p, (.stmts f_side_range.1.b), f_side_range.1.s, 0, [], .none, .none, .none, .none, (none), .none, .none, 0⟩), #[]⟩)
noncomputable def o_329 : Params → Obj := (fun _ => ⟨(.type "code"), (none), (.fields #[(.str (Str.ofString "side_range") 560), (.str (Str.ofString "side_range") 561), (.str (Str.ofString "/claim/cut.py") 562), (.int 213 0), (.int 3 0), (.int 0 0), (.int 0 0), (.int 3 0), (.ref 280), (.bool true), (.int 181 0), (.ref 281), .none, (.ref 282), (.ref 283), (.ref 284), (.int 566 0), (.int 213 0), (.str (Str.ofString "/claim/cut.py") 567)]), #[]⟩)
noncomputable def o_330 : Params → Obj := (fun _ => ⟨(.type "function"), (none), (.func ⟨(Str.ofString "side_range"), (Str.ofString "side_range"), f_side_range.1.p, (.stmts f_side_range.1.b), f_side_range.1.s, 3, [], .none, .none, .none, (.str (Str.ofString "moduleyard.ranges") 400), (none), (.ref 285), .none, 0⟩), #[]⟩)
noncomputable def o_331 : Params → Obj := (fun _ => ⟨(.type "tuple"), (none), (.seq #[] 0), #[]⟩)
noncomputable def o_332 : Params → Obj := (fun _ => ⟨.none, (none), (.fields #[]), #[]⟩)
noncomputable def o_333 : Params → Obj := (fun _ => ⟨(.type "tuple"), (none), (.seq #[(.str (Str.ofString "st") 572), (.str (Str.ofString "env") 573), (.str (Str.ofString "node") 574), (.str (Str.ofString "x") 575), (.str (Str.ofString "y") 576), (.str (Str.ofString "truth") 577), (.str (Str.ofString "parts") 578), (.str (Str.ofString "place") 579), (.str (Str.ofString "slot") 580), (.str (Str.ofString "part") 581)] 0), #[]⟩)
noncomputable def o_334 : Params → Obj := (fun _ => ⟨(.type "tuple"), (none), (.seq #[] 0), #[]⟩)
noncomputable def o_335 : Params → Obj := (fun _ => ⟨.none, (none), (.func ⟨(Str.ofString "assume_relation"), (Str.ofString "assume_relation"), f_assume_relation.1.p, (.stmts f_assume_relation.1.b), f_assume_relation.1.s, 0, [], .none, .none, .none, .none, (none), .none, .none, 0⟩), #[]⟩)
noncomputable def o_336 : Params → Obj := (fun _ => ⟨(.type "code"), (none), (.fields #[(.str (Str.ofString "assume_relation") 569), (.str (Str.ofString "assume_relation") 570), (.str (Str.ofString "/claim/cut.py") 571), (.int 217 0), (.int 6 0), (.int 0 0), (.int 0 0), (.int 3 0), (.ref 287), (.bool true), (.int 181 0), (.ref 288), .none, (.ref 289), (.ref 290), (.ref 291), (.int 582 0), (.int 217 0), (.str (Str.ofString "/claim/cut.py") 583)]), #[]⟩)
noncomputable def o_337 : Params → Obj := (fun _ => ⟨(.type "function"), (none), (.func ⟨(Str.ofString "assume_relation"), (Str.ofString "assume_relation"), f_assume_relation.1.p, (.stmts f_assume_relation.1.b), f_assume_relation.1.s, 3, [], .none, .none, .none, (.str (Str.ofString "moduleyard.ranges") 400), (none), (.ref 292), .none, 0⟩), #[]⟩)
noncomputable def o_338 : Params → Obj := (fun _ => ⟨(.type "tuple"), (none), (.seq #[] 0), #[]⟩)
noncomputable def o_339 : Params → Obj := (fun _ => ⟨.none, (none), (.fields #[]), #[]⟩)
noncomputable def o_340 : Params → Obj := (fun _ => ⟨(.type "tuple"), (none), (.seq #[(.str (Str.ofString "st") 588), (.str (Str.ofString "env") 589), (.str (Str.ofString "node") 590), (.str (Str.ofString "held") 591), (.str (Str.ofString "failed") 592), (.str (Str.ofString "x") 593), (.str (Str.ofString "y") 594), (.str (Str.ofString "met") 595), (.str (Str.ofString "inner") 596)] 0), #[]⟩)
noncomputable def o_341 : Params → Obj := (fun _ => ⟨(.type "tuple"), (none), (.seq #[] 0), #[]⟩)
noncomputable def o_342 : Params → Obj := (fun _ => ⟨.none, (none), (.func ⟨(Str.ofString "both_ways"), (Str.ofString "both_ways"), f_both_ways.1.p, (.stmts f_both_ways.1.b), f_both_ways.1.s, 0, [], .none, .none, .none, .none, (none), .none, .none, 0⟩), #[]⟩)
noncomputable def o_343 : Params → Obj := (fun _ => ⟨(.type "code"), (none), (.fields #[(.str (Str.ofString "both_ways") 585), (.str (Str.ofString "both_ways") 586), (.str (Str.ofString "/claim/cut.py") 587), (.int 231 0), (.int 3 0), (.int 0 0), (.int 0 0), (.int 3 0), (.ref 294), (.bool true), (.int 181 0), (.ref 295), .none, (.ref 296), (.ref 297), (.ref 298), (.int 597 0), (.int 231 0), (.str (Str.ofString "/claim/cut.py") 598)]), #[]⟩)
noncomputable def o_344 : Params → Obj := (fun _ => ⟨(.type "function"), (none), (.func ⟨(Str.ofString "both_ways"), (Str.ofString "both_ways"), f_both_ways.1.p, (.stmts f_both_ways.1.b), f_both_ways.1.s, 3, [], .none, .none, .none, (.str (Str.ofString "moduleyard.ranges") 400), (none), (.ref 299), .none, 0⟩), #[]⟩)
noncomputable def o_345 : Params → Obj := (fun _ => ⟨(.type "tuple"), (none), (.seq #[] 0), #[]⟩)
noncomputable def o_346 : Params → Obj := (fun _ => ⟨.none, (none), (.fields #[]), #[]⟩)
noncomputable def o_347 : Params → Obj := (fun _ => ⟨(.type "tuple"), (none), (.seq #[(.str (Str.ofString "st") 603), (.str (Str.ofString "env") 604), (.str (Str.ofString "node") 605), (.str (Str.ofString "truth") 606)] 0), #[]⟩)
noncomputable def o_348 : Params → Obj := (fun _ => ⟨(.type "tuple"), (none), (.seq #[] 0), #[]⟩)
noncomputable def o_349 : Params → Obj := (fun _ => ⟨.none, (none), (.func ⟨(Str.ofString "assume"), (Str.ofString "assume"), f_assume.1.p, (.stmts f_assume.1.b), f_assume.1.s, 0, [], .none, .none, .none, .none, (none), .none, .none, 0⟩), #[]⟩)
noncomputable def o_350 : Params → Obj := (fun _ => ⟨(.type "code"), (none), (.fields #[(.str (Str.ofString "assume") 600), (.str (Str.ofString "assume") 601), (.str (Str.ofString "/claim/cut.py") 602), (.int 251 0), (.int 4 0), (.int 0 0), (.int 0 0), (.int 3 0), (.ref 301), (.bool true), (.int 181 0), (.ref 302), .none, (.ref 303), (.ref 304), (.ref 305), (.int 607 0), (.int 251 0), (.str (Str.ofString "/claim/cut.py") 608)]), #[]⟩)
noncomputable def o_351 : Params → Obj := (fun _ => ⟨(.type "function"), (none), (.func ⟨(Str.ofString "assume"), (Str.ofString "assume"), f_assume.1.p, (.stmts f_assume.1.b), f_assume.1.s, 3, [], .none, .none, .none, (.str (Str.ofString "moduleyard.ranges") 400), (none), (.ref 306), .none, 0⟩), #[]⟩)
noncomputable def o_352 : Params → Obj := (fun P => ⟨(.type "dict"), (none), (.dict #[⟨(hP P (Str.ofString "__name__")), (.str (Str.ofString "__name__") 165), (.str (Str.ofString "moduleyard.types") 610)⟩, ⟨(hP P (Str.ofString "__doc__")), (.str (Str.ofString "__doc__") 166), .none⟩, ⟨(hP P (Str.ofString "__package__")), (.str (Str.ofString "__package__") 167), .none⟩, ⟨(hP P (Str.ofString "__loader__")), (.str (Str.ofString "__loader__") 168), (.builtin "__main__.__loader__#opaque")⟩, ⟨(hP P (Str.ofString "__spec__")), (.str (Str.ofString "__spec__") 169), .none⟩, ⟨(hP P (Str.ofString "__annotations__")), (.str (Str.ofString "__annotations__") 170), (.ref 6)⟩, ⟨(hP P (Str.ofString "__builtins__")), (.str (Str.ofString "__builtins__") 171), (.ref 4)⟩, ⟨(hP P (Str.ofString "__file__")), (.str (Str.ofString "__file__") 173), (.str (Str.ofString "/claim/cut.py") 172)⟩, ⟨(hP P (Str.ofString "__cached__")), (.str (Str.ofString "__cached__") 174), .none⟩, ⟨(hP P (Str.ofString "LEAST")), (.str (Str.ofString "LEAST") 191), (.int (-2147483648) 190)⟩, ⟨(hP P (Str.ofString "GREATEST")), (.str (Str.ofString "GREATEST") 193), (.int 2147483647 192)⟩, ⟨(hP P (Str.ofString "full")), (.str (Str.ofString "full") 199), (.ref 21)⟩, ⟨(hP P (Str.ofString "single")), (.str (Str.ofString "single") 206), (.ref 28)⟩, ⟨(hP P (Str.ofString "clipped")), (.str (Str.ofString "clipped") 215), (.ref 35)⟩, ⟨(hP P (Str.ofString "add")), (.str (Str.ofString "add") 223), (.ref 42)⟩, ⟨(hP P (Str.ofString "sub")), (.str (Str.ofString "sub") 231), (.ref 49)⟩, ⟨(hP P (Str.ofString "mul")), (.str (Str.ofString "mul") 240), (.ref 56)⟩, ⟨(hP P (Str.ofString "neg")), (.str (Str.ofString "neg") 247), (.ref 63)⟩, ⟨(hP P (Str.ofString "absolute")), (.str (Str.ofString "absolute") 254), (.ref 70)⟩, ⟨(hP P (Str.ofString "div")), (.str (Str.ofString "div") 265), (.ref 77)⟩, ⟨(hP P (Str.ofString "mod")), (.str (Str.ofString "mod") 275), (.ref 84)⟩, ⟨(hP P (Str.ofString "within")), (.str (Str.ofString "within") 283), (.ref 91)⟩, ⟨(hP P (Str.ofString "join")), (.str (Str.ofString "join") 291), (.ref 98)⟩, ⟨(hP P (Str.ofString "meet")), (.str (Str.ofString "meet") 301), (.ref 105)⟩, ⟨(hP P (Str.ofString "below")), (.str (Str.ofString "below") 312), (.ref 112)⟩, ⟨(hP P (Str.ofString "without")), (.str (Str.ofString "without") 320), (.ref 119)⟩, ⟨(hP P (Str.ofString "apart")), (.str (Str.ofString "apart") 330), (.ref 126)⟩, ⟨(hP P (Str.ofString "narrow")), (.str (Str.ofString "narrow") 341), (.ref 133)⟩, ⟨(hP P (Str.ofString "opposite")), (.str (Str.ofString "opposite") 348), (.ref 140)⟩, ⟨(hP P (Str.ofString "Node")), (.str (Str.ofString "Node") 388), (.ref 158)⟩, ⟨(hP P (Str.ofString "nodes_of")), (.str (Str.ofString "nodes_of") 399), (.ref 169)⟩, ⟨(hP P (Str.ofString "Ranges")), (.str (Str.ofString "Ranges") 435), (.ref 186)⟩, ⟨(hP P (Str.ofString "join_envs")), (.str (Str.ofString "join_envs") 445), (.ref 197)⟩, ⟨(hP P (Str.ofString "with_slot")), (.str (Str.ofString "with_slot") 455), (.ref 204)⟩, ⟨(hP P (Str.ofString "followed_slot")), (.str (Str.ofString "followed_slot") 463), (.ref 211)⟩, ⟨(hP P (Str.ofString "type_range")), (.str (Str.ofString "type_range") 470), (.ref 218)⟩, ⟨(hP P (Str.ofString "known")), (.str (Str.ofString "known") 477), (.ref 225)⟩, ⟨(hP P (Str.ofString "mark")), (.str (Str.ofString "mark") 486), (.ref 232)⟩, ⟨(hP P (Str.ofString "look_arithmetic")), (.str (Str.ofString "look_arithmetic") 500), (.ref 239)⟩, ⟨(hP P (Str.ofString "look_index")), (.str (Str.ofString "look_index") 512), (.ref 246)⟩, ⟨(hP P (Str.ofString "look_std")), (.str (Str.ofString "look_std") 518), (.ref 251)⟩, ⟨(hP P (Str.ofString "look_lazy")), (.str (Str.ofString "look_lazy") 528), (.ref 258)⟩, ⟨(hP P (Str.ofString "look")), (.str (Str.ofString "look") 540), (.ref 265)⟩, ⟨(hP P (Str.ofString "quiet")), (.str (Str.ofString "quiet") 551), (.ref 272)⟩, ⟨(hP P (Str.ofString "holds_lazy")), (.str (Str.ofString "holds_lazy") 559), (.ref 279)⟩, ⟨(hP P (Str.ofString "side_range")), (.str (Str.ofString "side_range") 568), (.ref 286)⟩, ⟨(hP P (Str.ofString "assume_relation")), (.str (Str.ofString "assume_relation") 584), (.ref 293)⟩, ⟨(hP P (Str.ofString "both_ways")), (.str (Str.ofString "both_ways") 599), (.ref 300)⟩, ⟨(hP P (Str.ofString "assume")), (.str (Str.ofString "assume") 609), (.ref 307)⟩, ⟨(hP P (Str.ofString "Type")), (.str (Str.ofString "Type") 653), (.ref 324)⟩] 50), #[]⟩)
noncomputable def o_353 : Params → Obj := (fun _ => ⟨.none, (none), (.fields #[(.int 4 0), (.int 0 0), (.ref 20), (.int 6 0), (.int 0 0), (.ref 27), (.int 8 0), (.int 0 0), (.ref 34), (.int 15 0), (.int 0 0), (.ref 41), (.int 17 0), (.int 0 0), (.ref 48), (.int 19 0), (.int 0 0), (.ref 55), (.int 22 0), (.int 0 0), (.ref 62), (.int 24 0), (.int 0 0), (.ref 69), (.int 30 0), (.int 0 0), (.ref 76), (.int 37 0), (.int 0 0), (.ref 83), (.int 47 0), (.int 0 0), (.ref 90), (.int 49 0), (.int 0 0), (.ref 97), (.int 51 0), (.int 0 0), (.ref 104), (.int 57 0), (.int 0 0), (.ref 111), (.int 65 0), (.int 0 0), (.ref 118), (.int 73 0), (.int 0 0), (.ref 125), (.int 79 0), (.int 0 0), (.ref 132), (.int 89 0), (.int 0 0), (.ref 139), (.int 92 0), (.int 0 0), (.ref 146), (.int 101 0), (.int 0 0), (.ref 168), (.int 114 0), (.int 0 0), (.ref 175), (.int 122 0), (.int 0 0), (.ref 196), (.int 131 0), (.int 0 0), (.ref 203), (.int 135 0), (.int 0 0), (.ref 210), (.int 139 0), (.int 0 0), (.ref 217), (.int 143 0), (.int 0 0), (.ref 224), (.int 145 0), (.int 0 0), (.ref 231), (.int 148 0), (.int 0 0), (.ref 238), (.int 158 0), (.int 0 0), (.ref 245), (.int 165 0), (.int 0 0), (.ref 250), (.int 176 0), (.int 0 0), (.ref 257), (.int 182 0), (.int 0 0), (.ref 264), (.int 202 0), (.int 0 0), (.ref 271), (.int 208 0), (.int 0 0), (.ref 278), (.int 213 0), (.int 0 0), (.ref 285), (.int 217 0), (.int 0 0), (.ref 292), (.int 231 0), (.int 0 0), (.ref 299), (.int 251 0), (.int 0 0), (.ref 306), (.int 254 0), (.int 0 0), (.ref 313)]), #[]⟩)
noncomputable def o_354 : Params → Obj := (fun _ => ⟨(.type "tuple"), (none), (.seq #[] 0), #[]⟩)
noncomputable def o_355 : Params → Obj := (fun _ => ⟨(.type "builtin_function_or_method"), (none), (.fields #[(.builtin "type.__prepare__"), (.type "type")]), #[]⟩)
noncomputable def o_356 : Params → Obj := (fun P => ⟨(.type "dict"), (none), (.dict #[⟨(hP P (Str.ofString "__module__")), (.str (Str.ofString "__module__") 619), (.str (Str.ofString "moduleyard.types") 610)⟩, ⟨(hP P (Str.ofString "__qualname__")), (.str (Str.ofString "__qualname__") 621), (.str (Str.ofString "Type") 620)⟩, ⟨(hP P (Str.ofString "__firstlineno__")), (.str (Str.ofString "__firstlineno__") 623), (.int 254 622)⟩, ⟨(hP P (Str.ofString "__init__")), (.str (Str.ofString "__init__") 633), (.ref 321)⟩, ⟨(hP P (Str.ofString "__static_attributes__")), (.str (Str.ofString "__static_attributes__") 646), (.ref 322)⟩] 5), #[]⟩)
noncomputable def o_357 : Params → Obj := (fun _ => ⟨(.type "tuple"), (none), (.seq #[] 0), #[]⟩)
noncomputable def o_358 : Params → Obj := (fun _ => ⟨.none, (none), (.fields #[(.int 256 0), (.int 4 0), (.ref 320)]), #[]⟩)
noncomputable def o_359 : Params → Obj := (fun _ => ⟨(.type "code"), (none), (.fields #[(.str (Str.ofString "Type") 614), (.str (Str.ofString "Type") 615), (.str (Str.ofString "/claim/cut.py") 616), (.int 254 0), (.int 0 0), (.int 0 0), (.int 0 0), (.int 0 0), (.ref 311), (.bool false), (.int 181 0), (.ref 312), .none, .none, .none, .none, (.int 617 0), (.int 254 0), (.str (Str.ofString "/claim/cut.py") 618)]), #[]⟩)
noncomputable def o_360 : Params → Obj := (fun _ => ⟨(.type "frame"), (none), Data.plain, #[(some (.ref 313)), (some (.ref 3)), (some (.ref 310)), (none), (some (.str (Str.ofString "moduleyard.types") 610)), (none), (some (.ref 0))]⟩)
noncomputable def o_361 : Params → Obj := (fun _ => ⟨(.type "tuple"), (none), (.seq #[] 0), #[]⟩)
noncomputable def o_362 : Params → Obj := (fun _ => ⟨.none, (none), (.fields #[]), #[]⟩)
noncomputable def o_363 : Params → Obj := (fun _ => ⟨(.type "tuple"), (none), (.seq #[(.str (Str.ofString "self") 627), (.str (Str.ofString "number") 628), (.str (Str.ofString "form") 629), (.str (Str.ofString "size") 630)] 0), #[]⟩)
noncomputable def o_364 : Params → Obj := (fun _ => ⟨(.type "tuple"), (none), (.seq #[] 0), #[]⟩)
noncomputable def o_365 : Params → Obj := (fun _ => ⟨.none, (none), (.func ⟨(Str.ofString "__init__"), (Str.ofString "Type.__init__"), f_Type_init.1.p, (.stmts f_Type_init.1.b), f_Type_init.1.s, 0, [], .none, .none, .none, .none, (none), .none, .none, 0⟩), #[]⟩)
noncomputable def o_366 : Params → Obj := (fun _ => ⟨(.type "code"), (none), (.fields #[(.str (Str.ofString "__init__") 624), (.str (Str.ofString "Type.__init__") 625), (.str (Str.ofString "/claim/cut.py") 626), (.int 256 0), (.int 4 0), (.int 0 0), (.int 0 0), (.int 3 0), (.ref 315), (.bool true), (.int 181 0), (.ref 316), .none, (.ref 317), (.ref 318), (.ref 319), (.int 631 0), (.int 256 0), (.str (Str.ofString "/claim/cut.py") 632)]), #[]⟩)
noncomputable def o_367 : Params → Obj := (fun _ => ⟨(.type "function"), (none), (.func ⟨(Str.ofString "__init__"), (Str.ofString "Type.__init__"), f_Type_init.1.p, (.stmts f_Type_init.1.b), f_Type_init.1.s, 3, [], .none, .none, .none, (.str (Str.ofString "moduleyard.types") 610), (none), (.ref 320), .none, 0⟩), #[]⟩)
noncomputable def o_368 : Params → Obj := (fun _ => ⟨(.type "tuple"), (none), (.seq #[(.str (Str.ofString "base") 634), (.str (Str.ofString "exno") 635), (.str (Str.ofString "fields") 636), (.str (Str.ofString "form") 637), (.str (Str.ofString "hidden") 638), (.str (Str.ofString "label") 639), (.str (Str.ofString "length") 640), (.str (Str.ofString "level") 641), (.str (Str.ofString "module") 642), (.str (Str.ofString "number") 643), (.str (Str.ofString "params") 644), (.str (Str.ofString "size") 645)] 0), #[]⟩)
noncomputable def o_369 : Params → Obj := (fun P => ⟨(.type "dict"), (none), (.dict #[⟨(hP P (Str.ofString "__module__")), (.str (Str.ofString "__module__") 619), (.str (Str.ofString "moduleyard.types") 610)⟩, ⟨(hP P (Str.ofString "__firstlineno__")), (.str (Str.ofString "__firstlineno__") 623), (.int 254 622)⟩, ⟨(hP P (Str.ofString "__init__")), (.str (Str.ofString "__init__") 633), (.ref 321)⟩, ⟨(hP P (Str.ofString "__static_attributes__")), (.str (Str.ofString "__static_attributes__") 646), (.ref 322)⟩, ⟨(hP P (Str.ofString "__dict__")), (.str (Str.ofString "__dict__") 648), (.ref 325)⟩, ⟨(hP P (Str.ofString "__weakref__")), (.str (Str.ofString "__weakref__") 650), (.ref 326)⟩, ⟨(hP P (Str.ofString "__doc__")), (.str (Str.ofString "__doc__") 651), .none⟩] 4), #[]⟩)
noncomputable def o_370 : Params → Obj := (fun _ => ⟨(.type "type"), (none), (.cls ⟨(Str.ofString "Type"), [(.type "object")], [(.ref 324), (.type "object")], 323, (Str.ofString "Type"), true, [], [], false, (none), false⟩), #[(none), (none), (some (.str (Str.ofString "Type") 612)), (some (.str (Str.ofString "Type") 620)), (some (.builtin "object.__new__")), (some (.bool true))]⟩)
noncomputable def o_371 : Params → Obj := (fun _ => ⟨(.type "getset_descriptor"), (none), (.fields #[(.str (Str.ofString "__dict__") 647), (.ref 324), (.builtin "function.__dict__"), (.builtin "function.__dict__#set")]), #[]⟩)
noncomputable def o_372 : Params → Obj := (fun _ => ⟨(.type "getset_descriptor"), (none), (.fields #[(.str (Str.ofString "__weakref__") 649), (.ref 324), (.builtin "ExceptionGroup.__weakref__"), .none]), #[]⟩)
noncomputable def o_373 : Params → Obj := (fun _ => ⟨(.type "super"), (none), (.fields #[(.ref 324), (.ref 324), (.ref 324)]), #[]⟩)
noncomputable def o_374 : Params → Obj := (fun _ => ⟨(.type "builtin_function_or_method"), (none), (.fields #[(.builtin "object.__init_subclass__"), (.ref 324)]), #[]⟩)
noncomputable def o_375 : Params → Obj := (fun P => ⟨(.type "dict"), (none), (.dict #[⟨(hP P (Str.ofString "__name__")), (.str (Str.ofString "__name__") 165), (.str (Str.ofString "moduleyard.types") 610)⟩, ⟨(hP P (Str.ofString "__doc__")), (.str (Str.ofString "__doc__") 166), .none⟩, ⟨(hP P (Str.ofString "__package__")), (.str (Str.ofString "__package__") 167), .none⟩, ⟨(hP P (Str.ofString "__loader__")), (.str (Str.ofString "__loader__") 168), (.builtin "__main__.__loader__#opaque")⟩, ⟨(hP P (Str.ofString "__spec__")), (.str (Str.ofString "__spec__") 169), .none⟩, ⟨(hP P (Str.ofString "__annotations__")), (.str (Str.ofString "__annotations__") 170), (.ref 6)⟩, ⟨(hP P (Str.ofString "__builtins__")), (.str (Str.ofString "__builtins__") 171), (.ref 4)⟩, ⟨(hP P (Str.ofString "__file__")), (.str (Str.ofString "__file__") 173), (.str (Str.ofString "/claim/cut.py") 172)⟩, ⟨(hP P (Str.ofString "__cached__")), (.str (Str.ofString "__cached__") 174), .none⟩, ⟨(hP P (Str.ofString "LEAST")), (.str (Str.ofString "LEAST") 191), (.int (-2147483648) 190)⟩, ⟨(hP P (Str.ofString "GREATEST")), (.str (Str.ofString "GREATEST") 193), (.int 2147483647 192)⟩, ⟨(hP P (Str.ofString "full")), (.str (Str.ofString "full") 199), (.ref 21)⟩, ⟨(hP P (Str.ofString "single")), (.str (Str.ofString "single") 206), (.ref 28)⟩, ⟨(hP P (Str.ofString "clipped")), (.str (Str.ofString "clipped") 215), (.ref 35)⟩, ⟨(hP P (Str.ofString "add")), (.str (Str.ofString "add") 223), (.ref 42)⟩, ⟨(hP P (Str.ofString "sub")), (.str (Str.ofString "sub") 231), (.ref 49)⟩, ⟨(hP P (Str.ofString "mul")), (.str (Str.ofString "mul") 240), (.ref 56)⟩, ⟨(hP P (Str.ofString "neg")), (.str (Str.ofString "neg") 247), (.ref 63)⟩, ⟨(hP P (Str.ofString "absolute")), (.str (Str.ofString "absolute") 254), (.ref 70)⟩, ⟨(hP P (Str.ofString "div")), (.str (Str.ofString "div") 265), (.ref 77)⟩, ⟨(hP P (Str.ofString "mod")), (.str (Str.ofString "mod") 275), (.ref 84)⟩, ⟨(hP P (Str.ofString "within")), (.str (Str.ofString "within") 283), (.ref 91)⟩, ⟨(hP P (Str.ofString "join")), (.str (Str.ofString "join") 291), (.ref 98)⟩, ⟨(hP P (Str.ofString "meet")), (.str (Str.ofString "meet") 301), (.ref 105)⟩, ⟨(hP P (Str.ofString "below")), (.str (Str.ofString "below") 312), (.ref 112)⟩, ⟨(hP P (Str.ofString "without")), (.str (Str.ofString "without") 320), (.ref 119)⟩, ⟨(hP P (Str.ofString "apart")), (.str (Str.ofString "apart") 330), (.ref 126)⟩, ⟨(hP P (Str.ofString "narrow")), (.str (Str.ofString "narrow") 341), (.ref 133)⟩, ⟨(hP P (Str.ofString "opposite")), (.str (Str.ofString "opposite") 348), (.ref 140)⟩, ⟨(hP P (Str.ofString "Node")), (.str (Str.ofString "Node") 388), (.ref 158)⟩, ⟨(hP P (Str.ofString "nodes_of")), (.str (Str.ofString "nodes_of") 399), (.ref 169)⟩, ⟨(hP P (Str.ofString "Ranges")), (.str (Str.ofString "Ranges") 435), (.ref 186)⟩, ⟨(hP P (Str.ofString "join_envs")), (.str (Str.ofString "join_envs") 445), (.ref 197)⟩, ⟨(hP P (Str.ofString "with_slot")), (.str (Str.ofString "with_slot") 455), (.ref 204)⟩, ⟨(hP P (Str.ofString "followed_slot")), (.str (Str.ofString "followed_slot") 463), (.ref 211)⟩, ⟨(hP P (Str.ofString "type_range")), (.str (Str.ofString "type_range") 470), (.ref 218)⟩, ⟨(hP P (Str.ofString "known")), (.str (Str.ofString "known") 477), (.ref 225)⟩, ⟨(hP P (Str.ofString "mark")), (.str (Str.ofString "mark") 486), (.ref 232)⟩, ⟨(hP P (Str.ofString "look_arithmetic")), (.str (Str.ofString "look_arithmetic") 500), (.ref 239)⟩, ⟨(hP P (Str.ofString "look_index")), (.str (Str.ofString "look_index") 512), (.ref 246)⟩, ⟨(hP P (Str.ofString "look_std")), (.str (Str.ofString "look_std") 518), (.ref 251)⟩, ⟨(hP P (Str.ofString "look_lazy")), (.str (Str.ofString "look_lazy") 528), (.ref 258)⟩, ⟨(hP P (Str.ofString "look")), (.str (Str.ofString "look") 540), (.ref 265)⟩, ⟨(hP P (Str.ofString "quiet")), (.str (Str.ofString "quiet") 551), (.ref 272)⟩, ⟨(hP P (Str.ofString "holds_lazy")), (.str (Str.ofString "holds_lazy") 559), (.ref 279)⟩, ⟨(hP P (Str.ofString "side_range")), (.str (Str.ofString "side_range") 568), (.ref 286)⟩, ⟨(hP P (Str.ofString "assume_relation")), (.str (Str.ofString "assume_relation") 584), (.ref 293)⟩, ⟨(hP P (Str.ofString "both_ways")), (.str (Str.ofString "both_ways") 599), (.ref 300)⟩, ⟨(hP P (Str.ofString "assume")), (.str (Str.ofString "assume") 609), (.ref 307)⟩, ⟨(hP P (Str.ofString "Type")), (.str (Str.ofString "Type") 653), (.ref 324)⟩, ⟨(hP P (Str.ofString "Obj")), (.str (Str.ofString "Obj") 698), (.ref 345)⟩] 51), #[]⟩)
noncomputable def o_376 : Params → Obj := (fun _ => ⟨.none, (none), (.fields #[(.int 4 0), (.int 0 0), (.ref 20), (.int 6 0), (.int 0 0), (.ref 27), (.int 8 0), (.int 0 0), (.ref 34), (.int 15 0), (.int 0 0), (.ref 41), (.int 17 0), (.int 0 0), (.ref 48), (.int 19 0), (.int 0 0), (.ref 55), (.int 22 0), (.int 0 0), (.ref 62), (.int 24 0), (.int 0 0), (.ref 69), (.int 30 0), (.int 0 0), (.ref 76), (.int 37 0), (.int 0 0), (.ref 83), (.int 47 0), (.int 0 0), (.ref 90), (.int 49 0), (.int 0 0), (.ref 97), (.int 51 0), (.int 0 0), (.ref 104), (.int 57 0), (.int 0 0), (.ref 111), (.int 65 0), (.int 0 0), (.ref 118), (.int 73 0), (.int 0 0), (.ref 125), (.int 79 0), (.int 0 0), (.ref 132), (.int 89 0), (.int 0 0), (.ref 139), (.int 92 0), (.int 0 0), (.ref 146), (.int 101 0), (.int 0 0), (.ref 168), (.int 114 0), (.int 0 0), (.ref 175), (.int 122 0), (.int 0 0), (.ref 196), (.int 131 0), (.int 0 0), (.ref 203), (.int 135 0), (.int 0 0), (.ref 210), (.int 139 0), (.int 0 0), (.ref 217), (.int 143 0), (.int 0 0), (.ref 224), (.int 145 0), (.int 0 0), (.ref 231), (.int 148 0), (.int 0 0), (.ref 238), (.int 158 0), (.int 0 0), (.ref 245), (.int 165 0), (.int 0 0), (.ref 250), (.int 176 0), (.int 0 0), (.ref 257), (.int 182 0), (.int 0 0), (.ref 264), (.int 202 0), (.int 0 0), (.ref 271), (.int 208 0), (.int 0 0), (.ref 278), (.int 213 0), (.int 0 0), (.ref 285), (.int 217 0), (.int 0 0), (.ref 292), (.int 231 0), (.int 0 0), (.ref 299), (.int 251 0), (.int 0 0), (.ref 306), (.int 254 0), (.int 0 0), (.ref 313), (.int 269 0), (.int 0 0), (.ref 334)]), #[]⟩)
noncomputable def o_377 : Params → Obj := (fun _ => ⟨(.type "tuple"), (none), (.seq #[] 0), #[]⟩)
noncomputable def o_378 : Params → Obj := (fun _ => ⟨(.type "builtin_function_or_method"), (none), (.fields #[(.builtin "type.__prepare__"), (.type "type")]), #[]⟩)
noncomputable def o_379 : Params → Obj := (fun P => ⟨(.type "dict"), (none), (.dict #[⟨(hP P (Str.ofString "__module__")), (.str (Str.ofString "__module__") 661), (.str (Str.ofString "moduleyard.types") 610)⟩, ⟨(hP P (Str.ofString "__qualname__")), (.str (Str.ofString "__qualname__") 663), (.str (Str.ofString "Obj") 662)⟩, ⟨(hP P (Str.ofString "__firstlineno__")), (.str (Str.ofString "__firstlineno__") 665), (.int 269 664)⟩, ⟨(hP P (Str.ofString "__init__")), (.str (Str.ofString "__init__") 676), (.ref 342)⟩, ⟨(hP P (Str.ofString "__static_attributes__")), (.str (Str.ofString "__static_attributes__") 691), (.ref 343)⟩] 5), #[]⟩)
noncomputable def o_380 : Params → Obj := (fun _ => ⟨(.type "tuple"), (none), (.seq #[] 0), #[]⟩)
noncomputable def o_381 : Params → Obj := (fun _ => ⟨.none, (none), (.fields #[(.int 271 0), (.int 4 0), (.ref 341)]), #[]⟩)
noncomputable def o_382 : Params → Obj := (fun _ => ⟨(.type "code"), (none), (.fields #[(.str (Str.ofString "Obj") 656), (.str (Str.ofString "Obj") 657), (.str (Str.ofString "/claim/cut.py") 658), (.int 269 0), (.int 0 0), (.int 0 0), (.int 0 0), (.int 0 0), (.ref 332), (.bool false), (.int 181 0), (.ref 333), .none, .none, .none, .none, (.int 659 0), (.int 269 0), (.str (Str.ofString "/claim/cut.py") 660)]), #[]⟩)
noncomputable def o_383 : Params → Obj := (fun _ => ⟨(.type "frame"), (none), Data.plain, #[(some (.ref 334)), (some (.ref 3)), (some (.ref 331)), (none), (some (.str (Str.ofString "moduleyard.types") 610)), (none), (some (.ref 0))]⟩)
noncomputable def o_384 : Params → Obj := (fun _ => ⟨(.type "tuple"), (none), (.seq #[] 0), #[]⟩)
noncomputable def o_385 : Params → Obj := (fun _ => ⟨.none, (none), (.fields #[]), #[]⟩)
noncomputable def o_386 : Params → Obj := (fun _ => ⟨(.type "tuple"), (none), (.seq #[(.str (Str.ofString "self") 669), (.str (Str.ofString "name") 670), (.str (Str.ofString "kind") 671), (.str (Str.ofString "type_of") 672), (.str (Str.ofString "place") 673)] 0), #[]⟩)
noncomputable def o_387 : Params → Obj := (fun _ => ⟨(.type "tuple"), (none), (.seq #[] 0), #[]⟩)
noncomputable def o_388 : Params → Obj := (fun _ => ⟨.none, (none), (.func ⟨(Str.ofString "__init__"), (Str.ofString "Obj.__init__"), f_Obj_init.1.p, (.stmts f_Obj_init.1.b), f_Obj_init.1.s, 0, [], .none, .none, .none, .none, (none), .none, .none, 0⟩), #[]⟩)
noncomputable def o_389 : Params → Obj := (fun _ => ⟨(.type "code"), (none), (.fields #[(.str (Str.ofString "__init__") 666), (.str (Str.ofString "Obj.__init__") 667), (.str (Str.ofString "/claim/cut.py") 668), (.int 271 0), (.int 5 0), (.int 0 0), (.int 0 0), (.int 3 0), (.ref 336), (.bool true), (.int 181 0), (.ref 337), .none, (.ref 338), (.ref 339), (.ref 340), (.int 674 0), (.int 271 0), (.str (Str.ofString "/claim/cut.py") 675)]), #[]⟩)
noncomputable def o_390 : Params → Obj := (fun _ => ⟨(.type "function"), (none), (.func ⟨(Str.ofString "__init__"), (Str.ofString "Obj.__init__"), f_Obj_init.1.p, (.stmts f_Obj_init.1.b), f_Obj_init.1.s, 3, [], .none, .none, .none, (.str (Str.ofString "moduleyard.types") 610), (none), (.ref 341), .none, 0⟩), #[]⟩)
noncomputable def o_391 : Params → Obj := (fun _ => ⟨(.type "tuple"), (none), (.seq #[(.str (Str.ofString "exported") 677), (.str (Str.ofString "isparam") 678), (.str (Str.ofString "kind") 679), (.str (Str.ofString "level") 680), (.str (Str.ofString "module") 681), (.str (Str.ofString "name") 682), (.str (Str.ofString "narrowed") 683), (.str (Str.ofString "number") 684), (.str (Str.ofString "offset") 685), (.str (Str.ofString "place") 686), (.str (Str.ofString "readonly") 687), (.str (Str.ofString "slot") 688), (.str (Str.ofString "type") 689), (.str (Str.ofString "value") 690)] 0), #[]⟩)
noncomputable def o_392 : Params → Obj := (fun P => ⟨(.type "dict"), (none), (.dict #[⟨(hP P (Str.ofString "__module__")), (.str (Str.ofString "__module__") 661), (.str (Str.ofString "moduleyard.types") 610)⟩, ⟨(hP P (Str.ofString "__firstlineno__")), (.str (Str.ofString "__firstlineno__") 665), (.int 269 664)⟩, ⟨(hP P (Str.ofString "__init__")), (.str (Str.ofString "__init__") 676), (.ref 342)⟩, ⟨(hP P (Str.ofString "__static_attributes__")), (.str (Str.ofString "__static_attributes__") 691), (.ref 343)⟩, ⟨(hP P (Str.ofString "__dict__")), (.str (Str.ofString "__dict__") 693), (.ref 346)⟩, ⟨(hP P (Str.ofString "__weakref__")), (.str (Str.ofString "__weakref__") 695), (.ref 347)⟩, ⟨(hP P (Str.ofString "__doc__")), (.str (Str.ofString "__doc__") 696), .none⟩] 4), #[]⟩)
noncomputable def o_393 : Params → Obj := (fun _ => ⟨(.type "type"), (none), (.cls ⟨(Str.ofString "Obj"), [(.type "object")], [(.ref 345), (.type "object")], 344, (Str.ofString "Obj"), true, [], [], false, (none), false⟩), #[(none), (none), (some (.str (Str.ofString "Obj") 654)), (some (.str (Str.ofString "Obj") 662)), (some (.builtin "object.__new__")), (some (.bool true))]⟩)
noncomputable def o_394 : Params → Obj := (fun _ => ⟨(.type "getset_descriptor"), (none), (.fields #[(.str (Str.ofString "__dict__") 692), (.ref 345), (.builtin "function.__dict__"), (.builtin "function.__dict__#set")]), #[]⟩)
noncomputable def o_395 : Params → Obj := (fun _ => ⟨(.type "getset_descriptor"), (none), (.fields #[(.str (Str.ofString "__weakref__") 694), (.ref 345), (.builtin "ExceptionGroup.__weakref__"), .none]), #[]⟩)
noncomputable def o_396 : Params → Obj := (fun _ => ⟨(.type "super"), (none), (.fields #[(.ref 345), (.ref 345), (.ref 345)]), #[]⟩)
noncomputable def o_397 : Params → Obj := (fun _ => ⟨(.type "builtin_function_or_method"), (none), (.fields #[(.builtin "object.__init_subclass__"), (.ref 345)]), #[]⟩)
noncomputable def o_398 : Params → Obj := (fun P => ⟨(.type "dict"), (none), (.dict #[⟨(hP P (Str.ofString "__name__")), (.str (Str.ofString "__name__") 165), (.str (Str.ofString "law_rr0072_01") 758)⟩, ⟨(hP P (Str.ofString "__doc__")), (.str (Str.ofString "__doc__") 166), .none⟩, ⟨(hP P (Str.ofString "__package__")), (.str (Str.ofString "__package__") 167), .none⟩, ⟨(hP P (Str.ofString "__loader__")), (.str (Str.ofString "__loader__") 168), (.builtin "__main__.__loader__#opaque")⟩, ⟨(hP P (Str.ofString "__spec__")), (.str (Str.ofString "__spec__") 169), .none⟩, ⟨(hP P (Str.ofString "__annotations__")), (.str (Str.ofString "__annotations__") 170), (.ref 6)⟩, ⟨(hP P (Str.ofString "__builtins__")), (.str (Str.ofString "__builtins__") 171), (.ref 4)⟩, ⟨(hP P (Str.ofString "__file__")), (.str (Str.ofString "__file__") 173), (.str (Str.ofString "/claim/cut.py") 172)⟩, ⟨(hP P (Str.ofString "__cached__")), (.str (Str.ofString "__cached__") 174), .none⟩, ⟨(hP P (Str.ofString "LEAST")), (.str (Str.ofString "LEAST") 191), (.int (-2147483648) 190)⟩, ⟨(hP P (Str.ofString "GREATEST")), (.str (Str.ofString "GREATEST") 193), (.int 2147483647 192)⟩, ⟨(hP P (Str.ofString "full")), (.str (Str.ofString "full") 199), (.ref 21)⟩, ⟨(hP P (Str.ofString "single")), (.str (Str.ofString "single") 206), (.ref 28)⟩, ⟨(hP P (Str.ofString "clipped")), (.str (Str.ofString "clipped") 215), (.ref 35)⟩, ⟨(hP P (Str.ofString "add")), (.str (Str.ofString "add") 223), (.ref 42)⟩, ⟨(hP P (Str.ofString "sub")), (.str (Str.ofString "sub") 231), (.ref 49)⟩, ⟨(hP P (Str.ofString "mul")), (.str (Str.ofString "mul") 240), (.ref 56)⟩, ⟨(hP P (Str.ofString "neg")), (.str (Str.ofString "neg") 247), (.ref 63)⟩, ⟨(hP P (Str.ofString "absolute")), (.str (Str.ofString "absolute") 254), (.ref 70)⟩, ⟨(hP P (Str.ofString "div")), (.str (Str.ofString "div") 265), (.ref 77)⟩, ⟨(hP P (Str.ofString "mod")), (.str (Str.ofString "mod") 275), (.ref 84)⟩, ⟨(hP P (Str.ofString "within")), (.str (Str.ofString "within") 283), (.ref 91)⟩, ⟨(hP P (Str.ofString "join")), (.str (Str.ofString "join") 291), (.ref 98)⟩, ⟨(hP P (Str.ofString "meet")), (.str (Str.ofString "meet") 301), (.ref 105)⟩, ⟨(hP P (Str.ofString "below")), (.str (Str.ofString "below") 312), (.ref 112)⟩, ⟨(hP P (Str.ofString "without")), (.str (Str.ofString "without") 320), (.ref 119)⟩, ⟨(hP P (Str.ofString "apart")), (.str (Str.ofString "apart") 330), (.ref 126)⟩, ⟨(hP P (Str.ofString "narrow")), (.str (Str.ofString "narrow") 341), (.ref 133)⟩, ⟨(hP P (Str.ofString "opposite")), (.str (Str.ofString "opposite") 348), (.ref 140)⟩, ⟨(hP P (Str.ofString "Node")), (.str (Str.ofString "Node") 388), (.ref 158)⟩, ⟨(hP P (Str.ofString "nodes_of")), (.str (Str.ofString "nodes_of") 399), (.ref 169)⟩, ⟨(hP P (Str.ofString "Ranges")), (.str (Str.ofString "Ranges") 435), (.ref 186)⟩, ⟨(hP P (Str.ofString "join_envs")), (.str (Str.ofString "join_envs") 445), (.ref 197)⟩, ⟨(hP P (Str.ofString "with_slot")), (.str (Str.ofString "with_slot") 455), (.ref 204)⟩, ⟨(hP P (Str.ofString "followed_slot")), (.str (Str.ofString "followed_slot") 463), (.ref 211)⟩, ⟨(hP P (Str.ofString "type_range")), (.str (Str.ofString "type_range") 470), (.ref 218)⟩, ⟨(hP P (Str.ofString "known")), (.str (Str.ofString "known") 477), (.ref 225)⟩, ⟨(hP P (Str.ofString "mark")), (.str (Str.ofString "mark") 486), (.ref 232)⟩, ⟨(hP P (Str.ofString "look_arithmetic")), (.str (Str.ofString "look_arithmetic") 500), (.ref 239)⟩, ⟨(hP P (Str.ofString "look_index")), (.str (Str.ofString "look_index") 512), (.ref 246)⟩, ⟨(hP P (Str.ofString "look_std")), (.str (Str.ofString "look_std") 518), (.ref 251)⟩, ⟨(hP P (Str.ofString "look_lazy")), (.str (Str.ofString "look_lazy") 528), (.ref 258)⟩, ⟨(hP P (Str.ofString "look")), (.str (Str.ofString "look") 540), (.ref 265)⟩, ⟨(hP P (Str.ofString "quiet")), (.str (Str.ofString "quiet") 551), (.ref 272)⟩, ⟨(hP P (Str.ofString "holds_lazy")), (.str (Str.ofString "holds_lazy") 559), (.ref 279)⟩, ⟨(hP P (Str.ofString "side_range")), (.str (Str.ofString "side_range") 568), (.ref 286)⟩, ⟨(hP P (Str.ofString "assume_relation")), (.str (Str.ofString "assume_relation") 584), (.ref 293)⟩, ⟨(hP P (Str.ofString "both_ways")), (.str (Str.ofString "both_ways") 599), (.ref 300)⟩, ⟨(hP P (Str.ofString "assume")), (.str (Str.ofString "assume") 609), (.ref 307)⟩, ⟨(hP P (Str.ofString "Type")), (.str (Str.ofString "Type") 653), (.ref 324)⟩, ⟨(hP P (Str.ofString "Obj")), (.str (Str.ofString "Obj") 698), (.ref 345)⟩, ⟨(hP P (Str.ofString "Types")), (.str (Str.ofString "Types") 757), (.ref 381)⟩, ⟨(hP P (Str.ofString "_law_take")), (.str (Str.ofString "_law_take") 769), (.ref 392)⟩, ⟨(hP P (Str.ofString "_law_side")), (.str (Str.ofString "_law_side") 780), (.ref 399)⟩] 54), #[]⟩)
noncomputable def o_399 : Params → Obj := (fun _ => ⟨.none, (none), (.fields #[(.int 4 0), (.int 0 0), (.ref 20), (.int 6 0), (.int 0 0), (.ref 27), (.int 8 0), (.int 0 0), (.ref 34), (.int 15 0), (.int 0 0), (.ref 41), (.int 17 0), (.int 0 0), (.ref 48), (.int 19 0), (.int 0 0), (.ref 55), (.int 22 0), (.int 0 0), (.ref 62), (.int 24 0), (.int 0 0), (.ref 69), (.int 30 0), (.int 0 0), (.ref 76), (.int 37 0), (.int 0 0), (.ref 83), (.int 47 0), (.int 0 0), (.ref 90), (.int 49 0), (.int 0 0), (.ref 97), (.int 51 0), (.int 0 0), (.ref 104), (.int 57 0), (.int 0 0), (.ref 111), (.int 65 0), (.int 0 0), (.ref 118), (.int 73 0), (.int 0 0), (.ref 125), (.int 79 0), (.int 0 0), (.ref 132), (.int 89 0), (.int 0 0), (.ref 139), (.int 92 0), (.int 0 0), (.ref 146), (.int 101 0), (.int 0 0), (.ref 168), (.int 114 0), (.int 0 0), (.ref 175), (.int 122 0), (.int 0 0), (.ref 196), (.int 131 0), (.int 0 0), (.ref 203), (.int 135 0), (.int 0 0), (.ref 210), (.int 139 0), (.int 0 0), (.ref 217), (.int 143 0), (.int 0 0), (.ref 224), (.int 145 0), (.int 0 0), (.ref 231), (.int 148 0), (.int 0 0), (.ref 238), (.int 158 0), (.int 0 0), (.ref 245), (.int 165 0), (.int 0 0), (.ref 250), (.int 176 0), (.int 0 0), (.ref 257), (.int 182 0), (.int 0 0), (.ref 264), (.int 202 0), (.int 0 0), (.ref 271), (.int 208 0), (.int 0 0), (.ref 278), (.int 213 0), (.int 0 0), (.ref 285), (.int 217 0), (.int 0 0), (.ref 292), (.int 231 0), (.int 0 0), (.ref 299), (.int 251 0), (.int 0 0), (.ref 306), (.int 254 0), (.int 0 0), (.ref 313), (.int 269 0), (.int 0 0), (.ref 334), (.int 286 0), (.int 0 0), (.ref 355), (.int 314 0), (.int 0 0), (.ref 391), (.int 320 0), (.int 0 0), (.ref 398)]), #[]⟩)
noncomputable def o_400 : Params → Obj := (fun _ => ⟨(.type "tuple"), (none), (.seq #[] 0), #[]⟩)
noncomputable def o_401 : Params → Obj := (fun _ => ⟨(.type "builtin_function_or_method"), (none), (.fields #[(.builtin "type.__prepare__"), (.type "type")]), #[]⟩)
noncomputable def o_402 : Params → Obj := (fun P => ⟨(.type "dict"), (none), (.dict #[⟨(hP P (Str.ofString "__module__")), (.str (Str.ofString "__module__") 706), (.str (Str.ofString "moduleyard.types") 610)⟩, ⟨(hP P (Str.ofString "__qualname__")), (.str (Str.ofString "__qualname__") 708), (.str (Str.ofString "Types") 707)⟩, ⟨(hP P (Str.ofString "__firstlineno__")), (.str (Str.ofString "__firstlineno__") 710), (.int 286 709)⟩, ⟨(hP P (Str.ofString "__init__")), (.str (Str.ofString "__init__") 717), (.ref 363)⟩, ⟨(hP P (Str.ofString "new")), (.str (Str.ofString "new") 731), (.ref 371)⟩, ⟨(hP P (Str.ofString "string")), (.str (Str.ofString "string") 740), (.ref 378)⟩, ⟨(hP P (Str.ofString "__static_attributes__")), (.str (Str.ofString "__static_attributes__") 750), (.ref 379)⟩] 7), #[]⟩)
noncomputable def o_403 : Params → Obj := (fun _ => ⟨(.type "tuple"), (none), (.seq #[] 0), #[]⟩)
noncomputable def o_404 : Params → Obj := (fun _ => ⟨.none, (none), (.fields #[(.int 288 0), (.int 4 0), (.ref 362), (.int 299 0), (.int 4 0), (.ref 370), (.int 308 0), (.int 4 0), (.ref 377)]), #[]⟩)
noncomputable def o_405 : Params → Obj := (fun _ => ⟨(.type "code"), (none), (.fields #[(.str (Str.ofString "Types") 701), (.str (Str.ofString "Types") 702), (.str (Str.ofString "/claim/cut.py") 703), (.int 286 0), (.int 0 0), (.int 0 0), (.int 0 0), (.int 0 0), (.ref 353), (.bool false), (.int 181 0), (.ref 354), .none, .none, .none, .none, (.int 704 0), (.int 286 0), (.str (Str.ofString "/claim/cut.py") 705)]), #[]⟩)
noncomputable def o_406 : Params → Obj := (fun _ => ⟨(.type "frame"), (none), Data.plain, #[(some (.ref 355)), (some (.ref 3)), (some (.ref 352)), (none), (some (.str (Str.ofString "moduleyard.types") 610)), (none), (some (.ref 0))]⟩)
noncomputable def o_407 : Params → Obj := (fun _ => ⟨(.type "tuple"), (none), (.seq #[] 0), #[]⟩)
noncomputable def o_408 : Params → Obj := (fun _ => ⟨.none, (none), (.fields #[]), #[]⟩)
noncomputable def o_409 : Params → Obj := (fun _ => ⟨(.type "tuple"), (none), (.seq #[(.str (Str.ofString "self") 714)] 0), #[]⟩)
noncomputable def o_410 : Params → Obj := (fun _ => ⟨(.type "tuple"), (none), (.seq #[] 0), #[]⟩)
noncomputable def o_411 : Params → Obj := (fun _ => ⟨.none, (none), (.func ⟨(Str.ofString "__init__"), (Str.ofString "Types.__init__"), f_Types_init.1.p, (.stmts f_Types_init.1.b), f_Types_init.1.s, 0, [], .none, .none, .none, .none, (none), .none, .none, 0⟩), #[]⟩)
noncomputable def o_412 : Params → Obj := (fun _ => ⟨(.type "code"), (none), (.fields #[(.str (Str.ofString "__init__") 711), (.str (Str.ofString "Types.__init__") 712), (.str (Str.ofString "/claim/cut.py") 713), (.int 288 0), (.int 1 0), (.int 0 0), (.int 0 0), (.int 3 0), (.ref 357), (.bool true), (.int 181 0), (.ref 358), .none, (.ref 359), (.ref 360), (.ref 361), (.int 715 0), (.int 288 0), (.str (Str.ofString "/claim/cut.py") 716)]), #[]⟩)
noncomputable def o_413 : Params → Obj := (fun _ => ⟨(.type "function"), (none), (.func ⟨(Str.ofString "__init__"), (Str.ofString "Types.__init__"), f_Types_init.1.p, (.stmts f_Types_init.1.b), f_Types_init.1.s, 3, [], .none, .none, .none, (.str (Str.ofString "moduleyard.types") 610), (none), (.ref 362), .none, 0⟩), #[]⟩)
noncomputable def o_414 : Params → Obj := (fun _ => ⟨(.type "tuple"), (none), (.seq #[(.str (Str.ofString "") 718), (.str (Str.ofString "") 719)] 0), #[]⟩)
noncomputable def o_415 : Params → Obj := (fun _ => ⟨(.type "tuple"), (none), (.seq #[] 0), #[]⟩)
noncomputable def o_416 : Params → Obj := (fun _ => ⟨.none, (none), (.fields #[]), #[]⟩)
noncomputable def o_417 : Params → Obj := (fun _ => ⟨(.type "tuple"), (none), (.seq #[(.str (Str.ofString "self") 723), (.str (Str.ofString "form") 724), (.str (Str.ofString "size") 725), (.str (Str.ofString "module") 726), (.str (Str.ofString "label") 727), (.str (Str.ofString "made") 728)] 0), #[]⟩)
noncomputable def o_418 : Params → Obj := (fun _ => ⟨(.type "tuple"), (none), (.seq #[] 0), #[]⟩)
noncomputable def o_419 : Params → Obj := (fun _ => ⟨.none, (none), (.func ⟨(Str.ofString "new"), (Str.ofString "Types.new"), f_Types_new.1.p, (.stmts f_Types_new.1.b), f_Types_new.1.s, 0, [], .none, .none, .none, .none, (none), .none, .none, 0⟩), #[]⟩)
noncomputable def o_420 : Params → Obj := (fun _ => ⟨(.type "code"), (none), (.fields #[(.str (Str.ofString "new") 720), (.str (Str.ofString "Types.new") 721), (.str (Str.ofString "/claim/cut.py") 722), (.int 299 0), (.int 5 0), (.int 0 0), (.int 0 0), (.int 3 0), (.ref 365), (.bool true), (.int 181 0), (.ref 366), .none, (.ref 367), (.ref 368), (.ref 369), (.int 729 0), (.int 299 0), (.str (Str.ofString "/claim/cut.py") 730)]), #[]⟩)
noncomputable def o_421 : Params → Obj := (fun _ => ⟨(.type "function"), (none), (.func ⟨(Str.ofString "new"), (Str.ofString "Types.new"), f_Types_new.1.p, (.stmts f_Types_new.1.b), f_Types_new.1.s, 3, [], (.ref 364), .none, .none, (.str (Str.ofString "moduleyard.types") 610), (none), (.ref 370), .none, 0⟩), #[]⟩)
noncomputable def o_422 : Params → Obj := (fun _ => ⟨(.type "tuple"), (none), (.seq #[] 0), #[]⟩)
noncomputable def o_423 : Params → Obj := (fun _ => ⟨.none, (none), (.fields #[]), #[]⟩)
noncomputable def o_424 : Params → Obj := (fun _ => ⟨(.type "tuple"), (none), (.seq #[(.str (Str.ofString "self") 735), (.str (Str.ofString "length") 736), (.str (Str.ofString "made") 737)] 0), #[]⟩)
noncomputable def o_425 : Params → Obj := (fun _ => ⟨(.type "tuple"), (none), (.seq #[] 0), #[]⟩)
noncomputable def o_426 : Params → Obj := (fun _ => ⟨.none, (none), (.func ⟨(Str.ofString "string"), (Str.ofString "Types.string"), f_Types_string.1.p, (.stmts f_Types_string.1.b), f_Types_string.1.s, 0, [], .none, .none, .none, .none, (none), .none, .none, 0⟩), #[]⟩)
noncomputable def o_427 : Params → Obj := (fun _ => ⟨(.type "code"), (none), (.fields #[(.str (Str.ofString "string") 732), (.str (Str.ofString "Types.string") 733), (.str (Str.ofString "/claim/cut.py") 734), (.int 308 0), (.int 2 0), (.int 0 0), (.int 0 0), (.int 3 0), (.ref 372), (.bool true), (.int 181 0), (.ref 373), .none, (.ref 374), (.ref 375), (.ref 376), (.int 738 0), (.int 308 0), (.str (Str.ofString "/claim/cut.py") 739)]), #[]⟩)
noncomputable def o_428 : Params → Obj := (fun _ => ⟨(.type "function"), (none), (.func ⟨(Str.ofString "string"), (Str.ofString "Types.string"), f_Types_string.1.p, (.stmts f_Types_string.1.b), f_Types_string.1.s, 3, [], .none, .none, .none, (.str (Str.ofString "moduleyard.types") 610), (none), (.ref 377), .none, 0⟩), #[]⟩)
noncomputable def o_429 : Params → Obj := (fun _ => ⟨(.type "tuple"), (none), (.seq #[(.str (Str.ofString "boolean") 741), (.str (Str.ofString "byte") 742), (.str (Str.ofString "char") 743), (.str (Str.ofString "counter") 744), (.str (Str.ofString "integer") 745), (.str (Str.ofString "known") 746), (.str (Str.ofString "mask") 747), (.str (Str.ofString "nil") 748), (.str (Str.ofString "none") 749)] 0), #[]⟩)
noncomputable def o_430 : Params → Obj := (fun P => ⟨(.type "dict"), (none), (.dict #[⟨(hP P (Str.ofString "__module__")), (.str (Str.ofString "__module__") 706), (.str (Str.ofString "moduleyard.types") 610)⟩, ⟨(hP P (Str.ofString "__firstlineno__")), (.str (Str.ofString "__firstlineno__") 710), (.int 286 709)⟩, ⟨(hP P (Str.ofString "__init__")), (.str (Str.ofString "__init__") 717), (.ref 363)⟩, ⟨(hP P (Str.ofString "new")), (.str (Str.ofString "new") 731), (.ref 371)⟩, ⟨(hP P (Str.ofString "string")), (.str (Str.ofString "string") 740), (.ref 378)⟩, ⟨(hP P (Str.ofString "__static_attributes__")), (.str (Str.ofString "__static_attributes__") 750), (.ref 379)⟩, ⟨(hP P (Str.ofString "__dict__")), (.str (Str.ofString "__dict__") 752), (.ref 382)⟩, ⟨(hP P (Str.ofString "__weakref__")), (.str (Str.ofString "__weakref__") 754), (.ref 383)⟩, ⟨(hP P (Str.ofString "__doc__")), (.str (Str.ofString "__doc__") 755), .none⟩] 4), #[]⟩)
noncomputable def o_431 : Params → Obj := (fun _ => ⟨(.type "type"), (none), (.cls ⟨(Str.ofString "Types"), [(.type "object")], [(.ref 381), (.type "object")], 380, (Str.ofString "Types"), true, [], [], false, (none), false⟩), #[(none), (none), (some (.str (Str.ofString "Types") 699)), (some (.str (Str.ofString "Types") 707)), (some (.builtin "object.__new__")), (some (.bool true))]⟩)
noncomputable def o_432 : Params → Obj := (fun _ => ⟨(.type "getset_descriptor"), (none), (.fields #[(.str (Str.ofString "__dict__") 751), (.ref 381), (.builtin "function.__dict__"), (.builtin "function.__dict__#set")]), #[]⟩)
noncomputable def o_433 : Params → Obj := (fun _ => ⟨(.type "getset_descriptor"), (none), (.fields #[(.str (Str.ofString "__weakref__") 753), (.ref 381), (.builtin "ExceptionGroup.__weakref__"), .none]), #[]⟩)
noncomputable def o_434 : Params → Obj := (fun _ => ⟨(.type "super"), (none), (.fields #[(.ref 381), (.ref 381), (.ref 381)]), #[]⟩)
noncomputable def o_435 : Params → Obj := (fun _ => ⟨(.type "builtin_function_or_method"), (none), (.fields #[(.builtin "object.__init_subclass__"), (.ref 381)]), #[]⟩)
noncomputable def o_436 : Params → Obj := (fun _ => ⟨(.type "tuple"), (none), (.seq #[] 0), #[]⟩)
noncomputable def o_437 : Params → Obj := (fun _ => ⟨.none, (none), (.fields #[]), #[]⟩)
noncomputable def o_438 : Params → Obj := (fun _ => ⟨(.type "tuple"), (none), (.seq #[(.str (Str.ofString "state") 763), (.str (Str.ofString "most") 764), (.str (Str.ofString "row") 765), (.str (Str.ofString "at") 766)] 0), #[]⟩)
noncomputable def o_439 : Params → Obj := (fun _ => ⟨(.type "tuple"), (none), (.seq #[] 0), #[]⟩)
noncomputable def o_440 : Params → Obj := (fun _ => ⟨.none, (none), (.func ⟨(Str.ofString "_law_take"), (Str.ofString "_law_take"), f__law_take.1.p, (.stmts f__law_take.1.b), f__law_take.1.s, 0, [], .none, .none, .none, .none, (none), .none, .none, 0⟩), #[]⟩)
noncomputable def o_441 : Params → Obj := (fun _ => ⟨(.type "code"), (none), (.fields #[(.str (Str.ofString "_law_take") 760), (.str (Str.ofString "_law_take") 761), (.str (Str.ofString "/claim/cut.py") 762), (.int 314 0), (.int 2 0), (.int 0 0), (.int 0 0), (.int 3 0), (.ref 386), (.bool true), (.int 181 0), (.ref 387), .none, (.ref 388), (.ref 389), (.ref 390), (.int 767 0), (.int 314 0), (.str (Str.ofString "/claim/cut.py") 768)]), #[]⟩)
noncomputable def o_442 : Params → Obj := (fun _ => ⟨(.type "function"), (none), (.func ⟨(Str.ofString "_law_take"), (Str.ofString "_law_take"), f__law_take.1.p, (.stmts f__law_take.1.b), f__law_take.1.s, 3, [], .none, .none, .none, (.str (Str.ofString "law_rr0072_01") 758), (none), (.ref 391), .none, 0⟩), #[]⟩)
noncomputable def o_443 : Params → Obj := (fun _ => ⟨(.type "tuple"), (none), (.seq #[] 0), #[]⟩)
noncomputable def o_444 : Params → Obj := (fun _ => ⟨.none, (none), (.fields #[]), #[]⟩)
noncomputable def o_445 : Params → Obj := (fun _ => ⟨(.type "tuple"), (none), (.seq #[(.str (Str.ofString "state") 773), (.str (Str.ofString "types") 774), (.str (Str.ofString "objs") 775), (.str (Str.ofString "kind") 776), (.str (Str.ofString "name") 777)] 0), #[]⟩)
noncomputable def o_446 : Params → Obj := (fun _ => ⟨(.type "tuple"), (none), (.seq #[] 0), #[]⟩)
noncomputable def o_447 : Params → Obj := (fun _ => ⟨.none, (none), (.func ⟨(Str.ofString "_law_side"), (Str.ofString "_law_side"), f__law_side.1.p, (.stmts f__law_side.1.b), f__law_side.1.s, 0, [], .none, .none, .none, .none, (none), .none, .none, 0⟩), #[]⟩)
noncomputable def o_448 : Params → Obj := (fun _ => ⟨(.type "code"), (none), (.fields #[(.str (Str.ofString "_law_side") 770), (.str (Str.ofString "_law_side") 771), (.str (Str.ofString "/claim/cut.py") 772), (.int 320 0), (.int 3 0), (.int 0 0), (.int 0 0), (.int 3 0), (.ref 393), (.bool true), (.int 181 0), (.ref 394), .none, (.ref 395), (.ref 396), (.ref 397), (.int 778 0), (.int 320 0), (.str (Str.ofString "/claim/cut.py") 779)]), #[]⟩)
noncomputable def o_449 : Params → Obj := (fun _ => ⟨(.type "function"), (none), (.func ⟨(Str.ofString "_law_side"), (Str.ofString "_law_side"), f__law_side.1.p, (.stmts f__law_side.1.b), f__law_side.1.s, 3, [], .none, .none, .none, (.str (Str.ofString "law_rr0072_01") 758), (none), (.ref 398), .none, 0⟩), #[]⟩)
noncomputable def o_450 : Params → Obj := (fun P => ⟨(.type "dict"), (none), (.dict #[⟨(hP P (Str.ofString "__name__")), (.str (Str.ofString "__name__") 165), (.str (Str.ofString "law_rr0072_01") 758)⟩, ⟨(hP P (Str.ofString "__doc__")), (.str (Str.ofString "__doc__") 166), .none⟩, ⟨(hP P (Str.ofString "__package__")), (.str (Str.ofString "__package__") 167), .none⟩, ⟨(hP P (Str.ofString "__loader__")), (.str (Str.ofString "__loader__") 168), (.builtin "__main__.__loader__#opaque")⟩, ⟨(hP P (Str.ofString "__spec__")), (.str (Str.ofString "__spec__") 169), .none⟩, ⟨(hP P (Str.ofString "__annotations__")), (.str (Str.ofString "__annotations__") 170), (.ref 6)⟩, ⟨(hP P (Str.ofString "__builtins__")), (.str (Str.ofString "__builtins__") 171), (.ref 4)⟩, ⟨(hP P (Str.ofString "__file__")), (.str (Str.ofString "__file__") 173), (.str (Str.ofString "/claim/cut.py") 172)⟩, ⟨(hP P (Str.ofString "__cached__")), (.str (Str.ofString "__cached__") 174), .none⟩, ⟨(hP P (Str.ofString "LEAST")), (.str (Str.ofString "LEAST") 191), (.int (-2147483648) 190)⟩, ⟨(hP P (Str.ofString "GREATEST")), (.str (Str.ofString "GREATEST") 193), (.int 2147483647 192)⟩, ⟨(hP P (Str.ofString "full")), (.str (Str.ofString "full") 199), (.ref 21)⟩, ⟨(hP P (Str.ofString "single")), (.str (Str.ofString "single") 206), (.ref 28)⟩, ⟨(hP P (Str.ofString "clipped")), (.str (Str.ofString "clipped") 215), (.ref 35)⟩, ⟨(hP P (Str.ofString "add")), (.str (Str.ofString "add") 223), (.ref 42)⟩, ⟨(hP P (Str.ofString "sub")), (.str (Str.ofString "sub") 231), (.ref 49)⟩, ⟨(hP P (Str.ofString "mul")), (.str (Str.ofString "mul") 240), (.ref 56)⟩, ⟨(hP P (Str.ofString "neg")), (.str (Str.ofString "neg") 247), (.ref 63)⟩, ⟨(hP P (Str.ofString "absolute")), (.str (Str.ofString "absolute") 254), (.ref 70)⟩, ⟨(hP P (Str.ofString "div")), (.str (Str.ofString "div") 265), (.ref 77)⟩, ⟨(hP P (Str.ofString "mod")), (.str (Str.ofString "mod") 275), (.ref 84)⟩, ⟨(hP P (Str.ofString "within")), (.str (Str.ofString "within") 283), (.ref 91)⟩, ⟨(hP P (Str.ofString "join")), (.str (Str.ofString "join") 291), (.ref 98)⟩, ⟨(hP P (Str.ofString "meet")), (.str (Str.ofString "meet") 301), (.ref 105)⟩, ⟨(hP P (Str.ofString "below")), (.str (Str.ofString "below") 312), (.ref 112)⟩, ⟨(hP P (Str.ofString "without")), (.str (Str.ofString "without") 320), (.ref 119)⟩, ⟨(hP P (Str.ofString "apart")), (.str (Str.ofString "apart") 330), (.ref 126)⟩, ⟨(hP P (Str.ofString "narrow")), (.str (Str.ofString "narrow") 341), (.ref 133)⟩, ⟨(hP P (Str.ofString "opposite")), (.str (Str.ofString "opposite") 348), (.ref 140)⟩, ⟨(hP P (Str.ofString "Node")), (.str (Str.ofString "Node") 388), (.ref 158)⟩, ⟨(hP P (Str.ofString "nodes_of")), (.str (Str.ofString "nodes_of") 399), (.ref 169)⟩, ⟨(hP P (Str.ofString "Ranges")), (.str (Str.ofString "Ranges") 435), (.ref 186)⟩, ⟨(hP P (Str.ofString "join_envs")), (.str (Str.ofString "join_envs") 445), (.ref 197)⟩, ⟨(hP P (Str.ofString "with_slot")), (.str (Str.ofString "with_slot") 455), (.ref 204)⟩, ⟨(hP P (Str.ofString "followed_slot")), (.str (Str.ofString "followed_slot") 463), (.ref 211)⟩, ⟨(hP P (Str.ofString "type_range")), (.str (Str.ofString "type_range") 470), (.ref 218)⟩, ⟨(hP P (Str.ofString "known")), (.str (Str.ofString "known") 477), (.ref 225)⟩, ⟨(hP P (Str.ofString "mark")), (.str (Str.ofString "mark") 486), (.ref 232)⟩, ⟨(hP P (Str.ofString "look_arithmetic")), (.str (Str.ofString "look_arithmetic") 500), (.ref 239)⟩, ⟨(hP P (Str.ofString "look_index")), (.str (Str.ofString "look_index") 512), (.ref 246)⟩, ⟨(hP P (Str.ofString "look_std")), (.str (Str.ofString "look_std") 518), (.ref 251)⟩, ⟨(hP P (Str.ofString "look_lazy")), (.str (Str.ofString "look_lazy") 528), (.ref 258)⟩, ⟨(hP P (Str.ofString "look")), (.str (Str.ofString "look") 540), (.ref 265)⟩, ⟨(hP P (Str.ofString "quiet")), (.str (Str.ofString "quiet") 551), (.ref 272)⟩, ⟨(hP P (Str.ofString "holds_lazy")), (.str (Str.ofString "holds_lazy") 559), (.ref 279)⟩, ⟨(hP P (Str.ofString "side_range")), (.str (Str.ofString "side_range") 568), (.ref 286)⟩, ⟨(hP P (Str.ofString "assume_relation")), (.str (Str.ofString "assume_relation") 584), (.ref 293)⟩, ⟨(hP P (Str.ofString "both_ways")), (.str (Str.ofString "both_ways") 599), (.ref 300)⟩, ⟨(hP P (Str.ofString "assume")), (.str (Str.ofString "assume") 609), (.ref 307)⟩, ⟨(hP P (Str.ofString "Type")), (.str (Str.ofString "Type") 653), (.ref 324)⟩, ⟨(hP P (Str.ofString "Obj")), (.str (Str.ofString "Obj") 698), (.ref 345)⟩, ⟨(hP P (Str.ofString "Types")), (.str (Str.ofString "Types") 757), (.ref 381)⟩, ⟨(hP P (Str.ofString "_law_take")), (.str (Str.ofString "_law_take") 769), (.ref 392)⟩, ⟨(hP P (Str.ofString "_law_side")), (.str (Str.ofString "_law_side") 780), (.ref 399)⟩, ⟨(hP P (Str.ofString "_law_relation")), (.str (Str.ofString "_law_relation") 791), (.ref 406)⟩, ⟨(hP P (Str.ofString "_law_joined")), (.str (Str.ofString "_law_joined") 803), (.ref 413)⟩, ⟨(hP P (Str.ofString "_law_value")), (.str (Str.ofString "_law_value") 814), (.ref 420)⟩, ⟨(hP P (Str.ofString "law")), (.str (Str.ofString "law") 820), (.ref 425)⟩] 58), #[]⟩)
noncomputable def o_451 : Params → Obj := (fun _ => ⟨.none, (none), (.fields #[(.int 4 0), (.int 0 0), (.ref 20), (.int 6 0), (.int 0 0), (.ref 27), (.int 8 0), (.int 0 0), (.ref 34), (.int 15 0), (.int 0 0), (.ref 41), (.int 17 0), (.int 0 0), (.ref 48), (.int 19 0), (.int 0 0), (.ref 55), (.int 22 0), (.int 0 0), (.ref 62), (.int 24 0), (.int 0 0), (.ref 69), (.int 30 0), (.int 0 0), (.ref 76), (.int 37 0), (.int 0 0), (.ref 83), (.int 47 0), (.int 0 0), (.ref 90), (.int 49 0), (.int 0 0), (.ref 97), (.int 51 0), (.int 0 0), (.ref 104), (.int 57 0), (.int 0 0), (.ref 111), (.int 65 0), (.int 0 0), (.ref 118), (.int 73 0), (.int 0 0), (.ref 125), (.int 79 0), (.int 0 0), (.ref 132), (.int 89 0), (.int 0 0), (.ref 139), (.int 92 0), (.int 0 0), (.ref 146), (.int 101 0), (.int 0 0), (.ref 168), (.int 114 0), (.int 0 0), (.ref 175), (.int 122 0), (.int 0 0), (.ref 196), (.int 131 0), (.int 0 0), (.ref 203), (.int 135 0), (.int 0 0), (.ref 210), (.int 139 0), (.int 0 0), (.ref 217), (.int 143 0), (.int 0 0), (.ref 224), (.int 145 0), (.int 0 0), (.ref 231), (.int 148 0), (.int 0 0), (.ref 238), (.int 158 0), (.int 0 0), (.ref 245), (.int 165 0), (.int 0 0), (.ref 250), (.int 176 0), (.int 0 0), (.ref 257), (.int 182 0), (.int 0 0), (.ref 264), (.int 202 0), (.int 0 0), (.ref 271), (.int 208 0), (.int 0 0), (.ref 278), (.int 213 0), (.int 0 0), (.ref 285), (.int 217 0), (.int 0 0), (.ref 292), (.int 231 0), (.int 0 0), (.ref 299), (.int 251 0), (.int 0 0), (.ref 306), (.int 254 0), (.int 0 0), (.ref 313), (.int 269 0), (.int 0 0), (.ref 334), (.int 286 0), (.int 0 0), (.ref 355), (.int 314 0), (.int 0 0), (.ref 391), (.int 320 0), (.int 0 0), (.ref 398), (.int 328 0), (.int 0 0), (.ref 405), (.int 332 0), (.int 0 0), (.ref 412), (.int 340 0), (.int 0 0), (.ref 419), (.int 357 0), (.int 0 0), (.ref 424)]), #[]⟩)
noncomputable def o_452 : Params → Obj := (fun _ => ⟨(.type "tuple"), (none), (.seq #[] 0), #[]⟩)
noncomputable def o_453 : Params → Obj := (fun _ => ⟨.none, (none), (.fields #[]), #[]⟩)
noncomputable def o_454 : Params → Obj := (fun _ => ⟨(.type "tuple"), (none), (.seq #[(.str (Str.ofString "state") 784), (.str (Str.ofString "types") 785), (.str (Str.ofString "objs") 786), (.str (Str.ofString "op") 787), (.str (Str.ofString "left") 788)] 0), #[]⟩)
noncomputable def o_455 : Params → Obj := (fun _ => ⟨(.type "tuple"), (none), (.seq #[] 0), #[]⟩)
noncomputable def o_456 : Params → Obj := (fun _ => ⟨.none, (none), (.func ⟨(Str.ofString "_law_relation"), (Str.ofString "_law_relation"), f__law_relation.1.p, (.stmts f__law_relation.1.b), f__law_relation.1.s, 0, [], .none, .none, .none, .none, (none), .none, .none, 0⟩), #[]⟩)
noncomputable def o_457 : Params → Obj := (fun _ => ⟨(.type "code"), (none), (.fields #[(.str (Str.ofString "_law_relation") 781), (.str (Str.ofString "_law_relation") 782), (.str (Str.ofString "/claim/cut.py") 783), (.int 328 0), (.int 3 0), (.int 0 0), (.int 0 0), (.int 3 0), (.ref 400), (.bool true), (.int 181 0), (.ref 401), .none, (.ref 402), (.ref 403), (.ref 404), (.int 789 0), (.int 328 0), (.str (Str.ofString "/claim/cut.py") 790)]), #[]⟩)
noncomputable def o_458 : Params → Obj := (fun _ => ⟨(.type "function"), (none), (.func ⟨(Str.ofString "_law_relation"), (Str.ofString "_law_relation"), f__law_relation.1.p, (.stmts f__law_relation.1.b), f__law_relation.1.s, 3, [], .none, .none, .none, (.str (Str.ofString "law_rr0072_01") 758), (none), (.ref 405), .none, 0⟩), #[]⟩)
noncomputable def o_459 : Params → Obj := (fun _ => ⟨(.type "tuple"), (none), (.seq #[] 0), #[]⟩)
noncomputable def o_460 : Params → Obj := (fun _ => ⟨.none, (none), (.fields #[]), #[]⟩)
noncomputable def o_461 : Params → Obj := (fun _ => ⟨(.type "tuple"), (none), (.seq #[(.str (Str.ofString "state") 795), (.str (Str.ofString "types") 796), (.str (Str.ofString "objs") 797), (.str (Str.ofString "deep") 798), (.str (Str.ofString "kind") 799), (.str (Str.ofString "first") 800)] 0), #[]⟩)
noncomputable def o_462 : Params → Obj := (fun _ => ⟨(.type "tuple"), (none), (.seq #[] 0), #[]⟩)
noncomputable def o_463 : Params → Obj := (fun _ => ⟨.none, (none), (.func ⟨(Str.ofString "_law_joined"), (Str.ofString "_law_joined"), f__law_joined.1.p, (.stmts f__law_joined.1.b), f__law_joined.1.s, 0, [], .none, .none, .none, .none, (none), .none, .none, 0⟩), #[]⟩)
noncomputable def o_464 : Params → Obj := (fun _ => ⟨(.type "code"), (none), (.fields #[(.str (Str.ofString "_law_joined") 792), (.str (Str.ofString "_law_joined") 793), (.str (Str.ofString "/claim/cut.py") 794), (.int 332 0), (.int 4 0), (.int 0 0), (.int 0 0), (.int 3 0), (.ref 407), (.bool true), (.int 181 0), (.ref 408), .none, (.ref 409), (.ref 410), (.ref 411), (.int 801 0), (.int 332 0), (.str (Str.ofString "/claim/cut.py") 802)]), #[]⟩)
noncomputable def o_465 : Params → Obj := (fun _ => ⟨(.type "function"), (none), (.func ⟨(Str.ofString "_law_joined"), (Str.ofString "_law_joined"), f__law_joined.1.p, (.stmts f__law_joined.1.b), f__law_joined.1.s, 3, [], .none, .none, .none, (.str (Str.ofString "law_rr0072_01") 758), (none), (.ref 412), .none, 0⟩), #[]⟩)
noncomputable def o_466 : Params → Obj := (fun _ => ⟨(.type "tuple"), (none), (.seq #[] 0), #[]⟩)
noncomputable def o_467 : Params → Obj := (fun _ => ⟨.none, (none), (.fields #[]), #[]⟩)
noncomputable def o_468 : Params → Obj := (fun _ => ⟨(.type "tuple"), (none), (.seq #[(.str (Str.ofString "e") 807), (.str (Str.ofString "held") 808), (.str (Str.ofString "first") 809), (.str (Str.ofString "second") 810), (.str (Str.ofString "told") 811)] 0), #[]⟩)
noncomputable def o_469 : Params → Obj := (fun _ => ⟨(.type "tuple"), (none), (.seq #[] 0), #[]⟩)
noncomputable def o_470 : Params → Obj := (fun _ => ⟨.none, (none), (.func ⟨(Str.ofString "_law_value"), (Str.ofString "_law_value"), f__law_value.1.p, (.stmts f__law_value.1.b), f__law_value.1.s, 0, [], .none, .none, .none, .none, (none), .none, .none, 0⟩), #[]⟩)
noncomputable def o_471 : Params → Obj := (fun _ => ⟨(.type "code"), (none), (.fields #[(.str (Str.ofString "_law_value") 804), (.str (Str.ofString "_law_value") 805), (.str (Str.ofString "/claim/cut.py") 806), (.int 340 0), (.int 2 0), (.int 0 0), (.int 0 0), (.int 3 0), (.ref 414), (.bool true), (.int 181 0), (.ref 415), .none, (.ref 416), (.ref 417), (.ref 418), (.int 812 0), (.int 340 0), (.str (Str.ofString "/claim/cut.py") 813)]), #[]⟩)
noncomputable def o_472 : Params → Obj := (fun _ => ⟨(.type "function"), (none), (.func ⟨(Str.ofString "_law_value"), (Str.ofString "_law_value"), f__law_value.1.p, (.stmts f__law_value.1.b), f__law_value.1.s, 3, [], .none, .none, .none, (.str (Str.ofString "law_rr0072_01") 758), (none), (.ref 419), .none, 0⟩), #[]⟩)
noncomputable def o_473 : Params → Obj := (fun _ => ⟨(.type "tuple"), (none), (.seq #[] 0), #[]⟩)
noncomputable def o_474 : Params → Obj := (fun _ => ⟨.none, (none), (.fields #[]), #[]⟩)
noncomputable def o_475 : Params → Obj := (fun _ => ⟨.none, (none), (.func ⟨(Str.ofString "law"), (Str.ofString "law"), f_law.1.p, (.stmts f_law.1.b), f_law.1.s, 0, [], .none, .none, .none, .none, (none), .none, .none, 0⟩), #[]⟩)
noncomputable def o_476 : Params → Obj := (fun _ => ⟨(.type "code"), (none), (.fields #[(.str (Str.ofString "law") 815), (.str (Str.ofString "law") 816), (.str (Str.ofString "/claim/cut.py") 817), (.int 357 0), (.int 1 0), (.int 0 0), (.int 0 0), (.int 3 0), (.ref 421), (.bool true), (.int 181 0), (.ref 422), .none, .none, .none, (.ref 423), (.int 818 0), (.int 357 0), (.str (Str.ofString "/claim/cut.py") 819)]), #[]⟩)
noncomputable def o_477 : Params → Obj := (fun _ => ⟨(.type "function"), (none), (.func ⟨(Str.ofString "law"), (Str.ofString "law"), f_law.1.p, (.stmts f_law.1.b), f_law.1.s, 3, [], .none, .none, .none, (.str (Str.ofString "law_rr0072_01") 758), (none), (.ref 424), .none, 0⟩), #[]⟩)
noncomputable def tree_178 : Params → BT := (fun P => (W.BT.node (boot_o_0 P) (W.BT.node (boot_o_1 P) (W.BT.node (o_135 P) (W.BT.node (boot_o_7 P) (W.BT.node (o_51 P) (W.BT.node (o_67 P) (W.BT.node (o_99 P) (W.BT.node (o_165 P) W.BT.nil W.BT.nil) W.BT.nil) (W.BT.node (o_131 P) W.BT.nil W.BT.nil)) (W.BT.node (o_83 P) (W.BT.node (o_115 P) W.BT.nil W.BT.nil) (W.BT.node (o_149 P) W.BT.nil W.BT.nil))) (W.BT.node (o_59 P) (W.BT.node (o_75 P) (W.BT.node (o_107 P) (W.BT.node (o_173 P) W.BT.nil W.BT.nil) W.BT.nil) (W.BT.node (o_141 P) W.BT.nil W.BT.nil)) (W.BT.node (o_91 P) (W.BT.node (o_123 P) W.BT.nil W.BT.nil) (W.BT.node (o_157 P) W.BT.nil W.BT.nil)))) (W.BT.node (o_43 P) (W.BT.node (o_55 P) (W.BT.node (o_71 P) (W.BT.node (o_103 P) (W.BT.node (o_169 P) W.BT.nil W.BT.nil) W.BT.nil) (W.BT.node (o_137 P) W.BT.nil W.BT.nil)) (W.BT.node (o_87 P) (W.BT.node (o_119 P) W.BT.nil W.BT.nil) (W.BT.node (o_153 P) W.BT.nil W.BT.nil))) (W.BT.node (o_63 P) (W.BT.node (o_79 P) (W.BT.node (o_111 P) (W.BT.node (o_177 P) W.BT.nil W.BT.nil) W.BT.nil) (W.BT.node (o_145 P) W.BT.nil W.BT.nil)) (W.BT.node (o_95 P) (W.BT.node (o_127 P) W.BT.nil W.BT.nil) (W.BT.node (o_161 P) W.BT.nil W.BT.nil))))) (W.BT.node (boot_o_5 P) (W.BT.node (boot_o_9 P) (W.BT.node (o_53 P) (W.BT.node (o_69 P) (W.BT.node (o_101 P) (W.BT.node (o_167 P) W.BT.nil W.BT.nil) W.BT.nil) (W.BT.node (o_133 P) W.BT.nil W.BT.nil)) (W.BT.node (o_85 P) (W.BT.node (o_117 P) W.BT.nil W.BT.nil) (W.BT.node (o_151 P) W.BT.nil W.BT.nil))) (W.BT.node (o_61 P) (W.BT.node (o_77 P) (W.BT.node (o_109 P) (W.BT.node (o_175 P) W.BT.nil W.BT.nil) W.BT.nil) (W.BT.node (o_143 P) W.BT.nil W.BT.nil)) (W.BT.node (o_93 P) (W.BT.node (o_125 P) W.BT.nil W.BT.nil) (W.BT.node (o_159 P) W.BT.nil W.BT.nil)))) (W.BT.node (o_45 P) (W.BT.node (o_57 P) (W.BT.node (o_73 P) (W.BT.node (o_105 P) (W.BT.node (o_171 P) W.BT.nil W.BT.nil) W.BT.nil) (W.BT.node (o_139 P) W.BT.nil W.BT.nil)) (W.BT.node (o_89 P) (W.BT.node (o_121 P) W.BT.nil W.BT.nil) (W.BT.node (o_155 P) W.BT.nil W.BT.nil))) (W.BT.node (o_65 P) (W.BT.node (o_81 P) (W.BT.node (o_113 P) W.BT.nil W.BT.nil) (W.BT.node (o_147 P) W.BT.nil W.BT.nil)) (W.BT.node (o_97 P) (W.BT.node (o_129 P) W.BT.nil W.BT.nil) (W.BT.node (o_163 P) W.BT.nil W.BT.nil)))))) (W.BT.node (boot_o_2 P) (W.BT.node (boot_o_4 P) (W.BT.node (boot_o_8 P) (W.BT.node (o_52 P) (W.BT.node (o_68 P) (W.BT.node (o_100 P) (W.BT.node (o_166 P) W.BT.nil W.BT.nil) W.BT.nil) (W.BT.node (o_132 P) W.BT.nil W.BT.nil)) (W.BT.node (o_84 P) (W.BT.node (o_116 P) W.BT.nil W.BT.nil) (W.BT.node (o_150 P) W.BT.nil W.BT.nil))) (W.BT.node (o_60 P) (W.BT.node (o_76 P) (W.BT.node (o_108 P) (W.BT.node (o_174 P) W.BT.nil W.BT.nil) W.BT.nil) (W.BT.node (o_142 P) W.BT.nil W.BT.nil)) (W.BT.node (o_92 P) (W.BT.node (o_124 P) W.BT.nil W.BT.nil) (W.BT.node (o_158 P) W.BT.nil W.BT.nil)))) (W.BT.node (o_136 P) (W.BT.node (o_56 P) (W.BT.node (o_72 P) (W.BT.node (o_104 P) (W.BT.node (o_170 P) W.BT.nil W.BT.nil) W.BT.nil) (W.BT.node (o_138 P) W.BT.nil W.BT.nil)) (W.BT.node (o_88 P) (W.BT.node (o_120 P) W.BT.nil W.BT.nil) (W.BT.node (o_154 P) W.BT.nil W.BT.nil))) (W.BT.node (o_64 P) (W.BT.node (o_80 P) (W.BT.node (o_112 P) (W.BT.node (o_178 P) W.BT.nil W.BT.nil) W.BT.nil) (W.BT.node (o_146 P) W.BT.nil W.BT.nil)) (W.BT.node (o_96 P) (W.BT.node (o_128 P) W.BT.nil W.BT.nil) (W.BT.node (o_162 P) W.BT.nil W.BT.nil))))) (W.BT.node (boot_o_6 P) (W.BT.node (boot_o_10 P) (W.BT.node (o_54 P) (W.BT.node (o_70 P) (W.BT.node (o_102 P) (W.BT.node (o_168 P) W.BT.nil W.BT.nil) W.BT.nil) (W.BT.node (o_134 P) W.BT.nil W.BT.nil)) (W.BT.node (o_86 P) (W.BT.node (o_118 P) W.BT.nil W.BT.nil) (W.BT.node (o_152 P) W.BT.nil W.BT.nil))) (W.BT.node (o_62 P) (W.BT.node (o_78 P) (W.BT.node (o_110 P) (W.BT.node (o_176 P) W.BT.nil W.BT.nil) W.BT.nil) (W.BT.node (o_144 P) W.BT.nil W.BT.nil)) (W.BT.node (o_94 P) (W.BT.node (o_126 P) W.BT.nil W.BT.nil) (W.BT.node (o_160 P) W.BT.nil W.BT.nil)))) (W.BT.node (o_46 P) (W.BT.node (o_58 P) (W.BT.node (o_74 P) (W.BT.node (o_106 P) (W.BT.node (o_172 P) W.BT.nil W.BT.nil) W.BT.nil) (W.BT.node (o_140 P) W.BT.nil W.BT.nil)) (W.BT.node (o_90 P) (W.BT.node (o_122 P) W.BT.nil W.BT.nil) (W.BT.node (o_156 P) W.BT.nil W.BT.nil))) (W.BT.node (o_66 P) (W.BT.node (o_82 P) (W.BT.node (o_114 P) W.BT.nil W.BT.nil) (W.BT.node (o_148 P) W.BT.nil W.BT.nil)) (W.BT.node (o_98 P) (W.BT.node (o_130 P) W.BT.nil W.BT.nil) (W.BT.node (o_164 P) W.BT.nil W.BT.nil))))))))
noncomputable def tree_449 : Params → BT := (fun P => (W.BT.node (boot_o_0 P) (W.BT.node (boot_o_1 P) (W.BT.node (o_398 P) (W.BT.node (boot_o_7 P) (W.BT.node (o_51 P) (W.BT.node (o_67 P) (W.BT.node (o_99 P) (W.BT.node (o_165 P) (W.BT.node (o_299 P) W.BT.nil W.BT.nil) (W.BT.node (o_433 P) W.BT.nil W.BT.nil)) (W.BT.node (o_233 P) (W.BT.node (o_365 P) W.BT.nil W.BT.nil) W.BT.nil)) (W.BT.node (o_131 P) (W.BT.node (o_199 P) (W.BT.node (o_331 P) W.BT.nil W.BT.nil) W.BT.nil) (W.BT.node (o_265 P) (W.BT.node (o_401 P) W.BT.nil W.BT.nil) W.BT.nil))) (W.BT.node (o_83 P) (W.BT.node (o_115 P) (W.BT.node (o_183 P) (W.BT.node (o_315 P) W.BT.nil W.BT.nil) (W.BT.node (o_449 P) W.BT.nil W.BT.nil)) (W.BT.node (o_249 P) (W.BT.node (o_383 P) W.BT.nil W.BT.nil) W.BT.nil)) (W.BT.node (o_149 P) (W.BT.node (o_217 P) (W.BT.node (o_347 P) W.BT.nil W.BT.nil) W.BT.nil) (W.BT.node (o_283 P) (W.BT.node (o_417 P) W.BT.nil W.BT.nil) W.BT.nil)))) (W.BT.node (o_59 P) (W.BT.node (o_75 P) (W.BT.node (o_107 P) (W.BT.node (o_173 P) (W.BT.node (o_307 P) W.BT.nil W.BT.nil) (W.BT.node (o_441 P) W.BT.nil W.BT.nil)) (W.BT.node (o_241 P) (W.BT.node (o_373 P) W.BT.nil W.BT.nil) W.BT.nil)) (W.BT.node (o_141 P) (W.BT.node (o_207 P) (W.BT.node (o_339 P) W.BT.nil W.BT.nil) W.BT.nil) (W.BT.node (o_275 P) (W.BT.node (o_409 P) W.BT.nil W.BT.nil) W.BT.nil))) (W.BT.node (o_91 P) (W.BT.node (o_123 P) (W.BT.node (o_191 P) (W.BT.node (o_323 P) W.BT.nil W.BT.nil) W.BT.nil) (W.BT.node (o_257 P) (W.BT.node (o_391 P) W.BT.nil W.BT.nil) W.BT.nil)) (W.BT.node (o_157 P) (W.BT.node (o_225 P) (W.BT.node (o_357 P) W.BT.nil W.BT.nil) W.BT.nil) (W.BT.node (o_291 P) (W.BT.node (o_425 P) W.BT.nil W.BT.nil) W.BT.nil))))) (W.BT.node (o_43 P) (W.BT.node (o_55 P) (W.BT.node (o_71 P) (W.BT.node (o_103 P) (W.BT.node (o_169 P) (W.BT.node (o_303 P) W.BT.nil W.BT.nil) (W.BT.node (o_437 P) W.BT.nil W.BT.nil)) (W.BT.node (o_237 P) (W.BT.node (o_369 P) W.BT.nil W.BT.nil) W.BT.nil)) (W.BT.node (o_137 P) (W.BT.node (o_203 P) (W.BT.node (o_335 P) W.BT.nil W.BT.nil) W.BT.nil) (W.BT.node (o_271 P) (W.BT.node (o_405 P) W.BT.nil W.BT.nil) W.BT.nil))) (W.BT.node (o_87 P) (W.BT.node (o_119 P) (W.BT.node (o_187 P) (W.BT.node (o_319 P) W.BT.nil W.BT.nil) W.BT.nil) (W.BT.node (o_253 P) (W.BT.node (o_387 P) W.BT.nil W.BT.nil) W.BT.nil)) (W.BT.node (o_153 P) (W.BT.node (o_221 P) (W.BT.node (o_351 P) W.BT.nil W.BT.nil) W.BT.nil) (W.BT.node (o_287 P) (W.BT.node (o_421 P) W.BT.nil W.BT.nil) W.BT.nil)))) (W.BT.node (o_63 P) (W.BT.node (o_79 P) (W.BT.node (o_111 P) (W.BT.node (o_177 P) (W.BT.node (o_311 P) W.BT.nil W.BT.nil) (W.BT.node (o_445 P) W.BT.nil W.BT.nil)) (W.BT.node (o_245 P) (W.BT.node (o_379 P) W.BT.nil W.BT.nil) W.BT.nil)) (W.BT.node (o_145 P) (W.BT.node (o_213 P) (W.BT.node (o_343 P) W.BT.nil W.BT.nil) W.BT.nil) (W.BT.node (o_279 P) (W.BT.node (o_413 P) W.BT.nil W.BT.nil) W.BT.nil))) (W.BT.node (o_95 P) (W.BT.node (o_127 P) (W.BT.node (o_195 P) (W.BT.node (o_327 P) W.BT.nil W.BT.nil) W.BT.nil) (W.BT.node (o_261 P) (W.BT.node (o_395 P) W.BT.nil W.BT.nil) W.BT.nil)) (W.BT.node (o_161 P) (W.BT.node (o_229 P) (W.BT.node (o_361 P) W.BT.nil W.BT.nil) W.BT.nil) (W.BT.node (o_295 P) (W.BT.node (o_429 P) W.BT.nil W.BT.nil) W.BT.nil)))))) (W.BT.node (boot_o_5 P) (W.BT.node (boot_o_9 P) (W.BT.node (o_53 P) (W.BT.node (o_69 P) (W.BT.node (o_101 P) (W.BT.node (o_167 P) (W.BT.node (o_301 P) W.BT.nil W.BT.nil) (W.BT.node (o_435 P) W.BT.nil W.BT.nil)) (W.BT.node (o_235 P) (W.BT.node (o_367 P) W.BT.nil W.BT.nil) W.BT.nil)) (W.BT.node (o_133 P) (W.BT.node (o_201 P) (W.BT.node (o_333 P) W.BT.nil W.BT.nil) W.BT.nil) (W.BT.node (o_267 P) (W.BT.node (o_403 P) W.BT.nil W.BT.nil) W.BT.nil))) (W.BT.node (o_85 P) (W.BT.node (o_117 P) (W.BT.node (o_185 P) (W.BT.node (o_317 P) W.BT.nil W.BT.nil) W.BT.nil) (W.BT.node (o_251 P) (W.BT.node (o_385 P) W.BT.nil W.BT.nil) W.BT.nil)) (W.BT.node (o_151 P) (W.BT.node (o_219 P) (W.BT.node (o_349 P) W.BT.nil W.BT.nil) W.BT.nil) (W.BT.node (o_285 P) (W.BT.node (o_419 P) W.BT.nil W.BT.nil) W.BT.nil)))) (W.BT.node (o_61 P) (W.BT.node (o_77 P) (W.BT.node (o_109 P) (W.BT.node (o_175 P) (W.BT.node (o_309 P) W.BT.nil W.BT.nil) (W.BT.node (o_443 P) W.BT.nil W.BT.nil)) (W.BT.node (o_243 P) (W.BT.node (o_377 P) W.BT.nil W.BT.nil) W.BT.nil)) (W.BT.node (o_143 P) (W.BT.node (o_209 P) (W.BT.node (o_341 P) W.BT.nil W.BT.nil) W.BT.nil) (W.BT.node (o_277 P) (W.BT.node (o_411 P) W.BT.nil W.BT.nil) W.BT.nil))) (W.BT.node (o_93 P) (W.BT.node (o_125 P) (W.BT.node (o_193 P) (W.BT.node (o_325 P) W.BT.nil W.BT.nil) W.BT.nil) (W.BT.node (o_259 P) (W.BT.node (o_393 P) W.BT.nil W.BT.nil) W.BT.nil)) (W.BT.node (o_159 P) (W.BT.node (o_227 P) (W.BT.node (o_359 P) W.BT.nil W.BT.nil) W.BT.nil) (W.BT.node (o_293 P) (W.BT.node (o_427 P) W.BT.nil W.BT.nil) W.BT.nil))))) (W.BT.node (o_45 P) (W.BT.node (o_57 P) (W.BT.node (o_73 P) (W.BT.node (o_105 P) (W.BT.node (o_171 P) (W.BT.node (o_305 P) W.BT.nil W.BT.nil) (W.BT.node (o_439 P) W.BT.nil W.BT.nil)) (W.BT.node (o_239 P) (W.BT.node (o_371 P) W.BT.nil W.BT.nil) W.BT.nil)) (W.BT.node (o_139 P) (W.BT.node (o_205 P) (W.BT.node (o_337 P) W.BT.nil W.BT.nil) W.BT.nil) (W.BT.node (o_273 P) (W.BT.node (o_407 P) W.BT.nil W.BT.nil) W.BT.nil))) (W.BT.node (o_89 P) (W.BT.node (o_121 P) (W.BT.node (o_189 P) (W.BT.node (o_321 P) W.BT.nil W.BT.nil) W.BT.nil) (W.BT.node (o_255 P) (W.BT.node (o_389 P) W.BT.nil W.BT.nil) W.BT.nil)) (W.BT.node (o_155 P) (W.BT.node (o_223 P) (W.BT.node (o_355 P) W.BT.nil W.BT.nil) W.BT.nil) (W.BT.node (o_289 P) (W.BT.node (o_423 P) W.BT.nil W.BT.nil) W.BT.nil)))) (W.BT.node (o_65 P) (W.BT.node (o_81 P) (W.BT.node (o_113 P) (W.BT.node (o_181 P) (W.BT.node (o_313 P) W.BT.nil W.BT.nil) (W.BT.node (o_447 P) W.BT.nil W.BT.nil)) (W.BT.node (o_247 P) (W.BT.node (o_381 P) W.BT.nil W.BT.nil) W.BT.nil)) (W.BT.node (o_147 P) (W.BT.node (o_215 P) (W.BT.node (o_345 P) W.BT.nil W.BT.nil) W.BT.nil) (W.BT.node (o_281 P) (W.BT.node (o_415 P) W.BT.nil W.BT.nil) W.BT.nil))) (W.BT.node (o_97 P) (W.BT.node (o_129 P) (W.BT.node (o_197 P) (W.BT.node (o_329 P) W.BT.nil W.BT.nil) W.BT.nil) (W.BT.node (o_263 P) (W.BT.node (o_397 P) W.BT.nil W.BT.nil) W.BT.nil)) (W.BT.node (o_163 P) (W.BT.node (o_231 P) (W.BT.node (o_363 P) W.BT.nil W.BT.nil) W.BT.nil) (W.BT.node (o_297 P) (W.BT.node (o_431 P) W.BT.nil W.BT.nil) W.BT.nil))))))) (W.BT.node (boot_o_2 P) (W.BT.node (boot_o_4 P) (W.BT.node (boot_o_8 P) (W.BT.node (o_52 P) (W.BT.node (o_68 P) (W.BT.node (o_100 P) (W.BT.node (o_166 P) (W.BT.node (o_300 P) W.BT.nil W.BT.nil) (W.BT.node (o_434 P) W.BT.nil W.BT.nil)) (W.BT.node (o_234 P) (W.BT.node (o_366 P) W.BT.nil W.BT.nil) W.BT.nil)) (W.BT.node (o_132 P) (W.BT.node (o_200 P) (W.BT.node (o_332 P) W.BT.nil W.BT.nil) W.BT.nil) (W.BT.node (o_266 P) (W.BT.node (o_402 P) W.BT.nil W.BT.nil) W.BT.nil))) (W.BT.node (o_84 P) (W.BT.node (o_116 P) (W.BT.node (o_184 P) (W.BT.node (o_316 P) W.BT.nil W.BT.nil) W.BT.nil) (W.BT.node (o_250 P) (W.BT.node (o_384 P) W.BT.nil W.BT.nil) W.BT.nil)) (W.BT.node (o_150 P) (W.BT.node (o_218 P) (W.BT.node (o_348 P) W.BT.nil W.BT.nil) W.BT.nil) (W.BT.node (o_284 P) (W.BT.node (o_418 P) W.BT.nil W.BT.nil) W.BT.nil)))) (W.BT.node (o_60 P) (W.BT.node (o_76 P) (W.BT.node (o_108 P) (W.BT.node (o_174 P) (W.BT.node (o_308 P) W.BT.nil W.BT.nil) (W.BT.node (o_442 P) W.BT.nil W.BT.nil)) (W.BT.node (o_242 P) (W.BT.node (o_374 P) W.BT.nil W.BT.nil) W.BT.nil)) (W.BT.node (o_142 P) (W.BT.node (o_208 P) (W.BT.node (o_340 P) W.BT.nil W.BT.nil) W.BT.nil) (W.BT.node (o_276 P) (W.BT.node (o_410 P) W.BT.nil W.BT.nil) W.BT.nil))) (W.BT.node (o_92 P) (W.BT.node (o_124 P) (W.BT.node (o_192 P) (W.BT.node (o_324 P) W.BT.nil W.BT.nil) W.BT.nil) (W.BT.node (o_258 P) (W.BT.node (o_392 P) W.BT.nil W.BT.nil) W.BT.nil)) (W.BT.node (o_158 P) (W.BT.node (o_226 P) (W.BT.node (o_358 P) W.BT.nil W.BT.nil) W.BT.nil) (W.BT.node (o_292 P) (W.BT.node (o_426 P) W.BT.nil W.BT.nil) W.BT.nil))))) (W.BT.node (o_399 P) (W.BT.node (o_56 P) (W.BT.node (o_72 P) (W.BT.node (o_104 P) (W.BT.node (o_170 P) (W.BT.node (o_304 P) W.BT.nil W.BT.nil) (W.BT.node (o_438 P) W.BT.nil W.BT.nil)) (W.BT.node (o_238 P) (W.BT.node (o_370 P) W.BT.nil W.BT.nil) W.BT.nil)) (W.BT.node (o_138 P) (W.BT.node (o_204 P) (W.BT.node (o_336 P) W.BT.nil W.BT.nil) W.BT.nil) (W.BT.node (o_272 P) (W.BT.node (o_406 P) W.BT.nil W.BT.nil) W.BT.nil))) (W.BT.node (o_88 P) (W.BT.node (o_120 P) (W.BT.node (o_188 P) (W.BT.node (o_320 P) W.BT.nil W.BT.nil) W.BT.nil) (W.BT.node (o_254 P) (W.BT.node (o_388 P) W.BT.nil W.BT.nil) W.BT.nil)) (W.BT.node (o_154 P) (W.BT.node (o_222 P) (W.BT.node (o_354 P) W.BT.nil W.BT.nil) W.BT.nil) (W.BT.node (o_288 P) (W.BT.node (o_422 P) W.BT.nil W.BT.nil) W.BT.nil)))) (W.BT.node (o_64 P) (W.BT.node (o_80 P) (W.BT.node (o_112 P) (W.BT.node (o_178 P) (W.BT.node (o_312 P) W.BT.nil W.BT.nil) (W.BT.node (o_446 P) W.BT.nil W.BT.nil)) (W.BT.node (o_246 P) (W.BT.node (o_380 P) W.BT.nil W.BT.nil) W.BT.nil)) (W.BT.node (o_146 P) (W.BT.node (o_214 P) (W.BT.node (o_344 P) W.BT.nil W.BT.nil) W.BT.nil) (W.BT.node (o_280 P) (W.BT.node (o_414 P) W.BT.nil W.BT.nil) W.BT.nil))) (W.BT.node (o_96 P) (W.BT.node (o_128 P) (W.BT.node (o_196 P) (W.BT.node (o_328 P) W.BT.nil W.BT.nil) W.BT.nil) (W.BT.node (o_262 P) (W.BT.node (o_396 P) W.BT.nil W.BT.nil) W.BT.nil)) (W.BT.node (o_162 P) (W.BT.node (o_230 P) (W.BT.node (o_362 P) W.BT.nil W.BT.nil) W.BT.nil) (W.BT.node (o_296 P) (W.BT.node (o_430 P) W.BT.nil W.BT.nil) W.BT.nil)))))) (W.BT.node (boot_o_6 P) (W.BT.node (boot_o_10 P) (W.BT.node (o_54 P) (W.BT.node (o_70 P) (W.BT.node (o_102 P) (W.BT.node (o_168 P) (W.BT.node (o_302 P) W.BT.nil W.BT.nil) (W.BT.node (o_436 P) W.BT.nil W.BT.nil)) (W.BT.node (o_236 P) (W.BT.node (o_368 P) W.BT.nil W.BT.nil) W.BT.nil)) (W.BT.node (o_134 P) (W.BT.node (o_202 P) (W.BT.node (o_334 P) W.BT.nil W.BT.nil) W.BT.nil) (W.BT.node (o_270 P) (W.BT.node (o_404 P) W.BT.nil W.BT.nil) W.BT.nil))) (W.BT.node (o_86 P) (W.BT.node (o_118 P) (W.BT.node (o_186 P) (W.BT.node (o_318 P) W.BT.nil W.BT.nil) W.BT.nil) (W.BT.node (o_252 P) (W.BT.node (o_386 P) W.BT.nil W.BT.nil) W.BT.nil)) (W.BT.node (o_152 P) (W.BT.node (o_220 P) (W.BT.node (o_350 P) W.BT.nil W.BT.nil) W.BT.nil) (W.BT.node (o_286 P) (W.BT.node (o_420 P) W.BT.nil W.BT.nil) W.BT.nil)))) (W.BT.node (o_62 P) (W.BT.node (o_78 P) (W.BT.node (o_110 P) (W.BT.node (o_176 P) (W.BT.node (o_310 P) W.BT.nil W.BT.nil) (W.BT.node (o_444 P) W.BT.nil W.BT.nil)) (W.BT.node (o_244 P) (W.BT.node (o_378 P) W.BT.nil W.BT.nil) W.BT.nil)) (W.BT.node (o_144 P) (W.BT.node (o_212 P) (W.BT.node (o_342 P) W.BT.nil W.BT.nil) W.BT.nil) (W.BT.node (o_278 P) (W.BT.node (o_412 P) W.BT.nil W.BT.nil) W.BT.nil))) (W.BT.node (o_94 P) (W.BT.node (o_126 P) (W.BT.node (o_194 P) (W.BT.node (o_326 P) W.BT.nil W.BT.nil) W.BT.nil) (W.BT.node (o_260 P) (W.BT.node (o_394 P) W.BT.nil W.BT.nil) W.BT.nil)) (W.BT.node (o_160 P) (W.BT.node (o_228 P) (W.BT.node (o_360 P) W.BT.nil W.BT.nil) W.BT.nil) (W.BT.node (o_294 P) (W.BT.node (o_428 P) W.BT.nil W.BT.nil) W.BT.nil))))) (W.BT.node (o_46 P) (W.BT.node (o_58 P) (W.BT.node (o_74 P) (W.BT.node (o_106 P) (W.BT.node (o_172 P) (W.BT.node (o_306 P) W.BT.nil W.BT.nil) (W.BT.node (o_440 P) W.BT.nil W.BT.nil)) (W.BT.node (o_240 P) (W.BT.node (o_372 P) W.BT.nil W.BT.nil) W.BT.nil)) (W.BT.node (o_140 P) (W.BT.node (o_206 P) (W.BT.node (o_338 P) W.BT.nil W.BT.nil) W.BT.nil) (W.BT.node (o_274 P) (W.BT.node (o_408 P) W.BT.nil W.BT.nil) W.BT.nil))) (W.BT.node (o_90 P) (W.BT.node (o_122 P) (W.BT.node (o_190 P) (W.BT.node (o_322 P) W.BT.nil W.BT.nil) W.BT.nil) (W.BT.node (o_256 P) (W.BT.node (o_390 P) W.BT.nil W.BT.nil) W.BT.nil)) (W.BT.node (o_156 P) (W.BT.node (o_224 P) (W.BT.node (o_356 P) W.BT.nil W.BT.nil) W.BT.nil) (W.BT.node (o_290 P) (W.BT.node (o_424 P) W.BT.nil W.BT.nil) W.BT.nil)))) (W.BT.node (o_66 P) (W.BT.node (o_82 P) (W.BT.node (o_114 P) (W.BT.node (o_182 P) (W.BT.node (o_314 P) W.BT.nil W.BT.nil) (W.BT.node (o_448 P) W.BT.nil W.BT.nil)) (W.BT.node (o_248 P) (W.BT.node (o_382 P) W.BT.nil W.BT.nil) W.BT.nil)) (W.BT.node (o_148 P) (W.BT.node (o_216 P) (W.BT.node (o_346 P) W.BT.nil W.BT.nil) W.BT.nil) (W.BT.node (o_282 P) (W.BT.node (o_416 P) W.BT.nil W.BT.nil) W.BT.nil))) (W.BT.node (o_98 P) (W.BT.node (o_130 P) (W.BT.node (o_198 P) (W.BT.node (o_330 P) W.BT.nil W.BT.nil) W.BT.nil) (W.BT.node (o_264 P) (W.BT.node (o_400 P) W.BT.nil W.BT.nil) W.BT.nil)) (W.BT.node (o_164 P) (W.BT.node (o_232 P) (W.BT.node (o_364 P) W.BT.nil W.BT.nil) W.BT.nil) (W.BT.node (o_298 P) (W.BT.node (o_432 P) W.BT.nil W.BT.nil) W.BT.nil)))))))))
noncomputable def tree_209 : Params → BT := (fun P => (W.BT.node (boot_o_0 P) (W.BT.node (boot_o_1 P) (W.BT.node (o_179 P) (W.BT.node (boot_o_7 P) (W.BT.node (o_51 P) (W.BT.node (o_67 P) (W.BT.node (o_99 P) (W.BT.node (o_165 P) W.BT.nil W.BT.nil) W.BT.nil) (W.BT.node (o_131 P) (W.BT.node (o_199 P) W.BT.nil W.BT.nil) W.BT.nil)) (W.BT.node (o_83 P) (W.BT.node (o_115 P) (W.BT.node (o_183 P) W.BT.nil W.BT.nil) W.BT.nil) (W.BT.node (o_149 P) W.BT.nil W.BT.nil))) (W.BT.node (o_59 P) (W.BT.node (o_75 P) (W.BT.node (o_107 P) (W.BT.node (o_173 P) W.BT.nil W.BT.nil) W.BT.nil) (W.BT.node (o_141 P) (W.BT.node (o_207 P) W.BT.nil W.BT.nil) W.BT.nil)) (W.BT.node (o_91 P) (W.BT.node (o_123 P) (W.BT.node (o_191 P) W.BT.nil W.BT.nil) W.BT.nil) (W.BT.node (o_157 P) W.BT.nil W.BT.nil)))) (W.BT.node (o_43 P) (W.BT.node (o_55 P) (W.BT.node (o_71 P) (W.BT.node (o_103 P) (W.BT.node (o_169 P) W.BT.nil W.BT.nil) W.BT.nil) (W.BT.node (o_137 P) (W.BT.node (o_203 P) W.BT.nil W.BT.nil) W.BT.nil)) (W.BT.node (o_87 P) (W.BT.node (o_119 P) (W.BT.node (o_187 P) W.BT.nil W.BT.nil) W.BT.nil) (W.BT.node (o_153 P) W.BT.nil W.BT.nil))) (W.BT.node (o_63 P) (W.BT.node (o_79 P) (W.BT.node (o_111 P) (W.BT.node (o_177 P) W.BT.nil W.BT.nil) W.BT.nil) (W.BT.node (o_145 P) W.BT.nil W.BT.nil)) (W.BT.node (o_95 P) (W.BT.node (o_127 P) (W.BT.node (o_195 P) W.BT.nil W.BT.nil) W.BT.nil) (W.BT.node (o_161 P) W.BT.nil W.BT.nil))))) (W.BT.node (boot_o_5 P) (W.BT.node (boot_o_9 P) (W.BT.node (o_53 P) (W.BT.node (o_69 P) (W.BT.node (o_101 P) (W.BT.node (o_167 P) W.BT.nil W.BT.nil) W.BT.nil) (W.BT.node (o_133 P) (W.BT.node (o_201 P) W.BT.nil W.BT.nil) W.BT.nil)) (W.BT.node (o_85 P) (W.BT.node (o_117 P) (W.BT.node (o_185 P) W.BT.nil W.BT.nil) W.BT.nil) (W.BT.node (o_151 P) W.BT.nil W.BT.nil))) (W.BT.node (o_61 P) (W.BT.node (o_77 P) (W.BT.node (o_109 P) (W.BT.node (o_175 P) W.BT.nil W.BT.nil) W.BT.nil) (W.BT.node (o_143 P) (W.BT.node (o_209 P) W.BT.nil W.BT.nil) W.BT.nil)) (W.BT.node (o_93 P) (W.BT.node (o_125 P) (W.BT.node (o_193 P) W.BT.nil W.BT.nil) W.BT.nil) (W.BT.node (o_159 P) W.BT.nil W.BT.nil)))) (W.BT.node (o_45 P) (W.BT.node (o_57 P) (W.BT.node (o_73 P) (W.BT.node (o_105 P) (W.BT.node (o_171 P) W.BT.nil W.BT.nil) W.BT.nil) (W.BT.node (o_139 P) (W.BT.node (o_205 P) W.BT.nil W.BT.nil) W.BT.nil)) (W.BT.node (o_89 P) (W.BT.node (o_121 P) (W.BT.node (o_189 P) W.BT.nil W.BT.nil) W.BT.nil) (W.BT.node (o_155 P) W.BT.nil W.BT.nil))) (W.BT.node (o_65 P) (W.BT.node (o_81 P) (W.BT.node (o_113 P) (W.BT.node (o_181 P) W.BT.nil W.BT.nil) W.BT.nil) (W.BT.node (o_147 P) W.BT.nil W.BT.nil)) (W.BT.node (o_97 P) (W.BT.node (o_129 P) (W.BT.node (o_197 P) W.BT.nil W.BT.nil) W.BT.nil) (W.BT.node (o_163 P) W.BT.nil W.BT.nil)))))) (W.BT.node (boot_o_2 P) (W.BT.node (boot_o_4 P) (W.BT.node (boot_o_8 P) (W.BT.node (o_52 P) (W.BT.node (o_68 P) (W.BT.node (o_100 P) (W.BT.node (o_166 P) W.BT.nil W.BT.nil) W.BT.nil) (W.BT.node (o_132 P) (W.BT.node (o_200 P) W.BT.nil W.BT.nil) W.BT.nil)) (W.BT.node (o_84 P) (W.BT.node (o_116 P) (W.BT.node (o_184 P) W.BT.nil W.BT.nil) W.BT.nil) (W.BT.node (o_150 P) W.BT.nil W.BT.nil))) (W.BT.node (o_60 P) (W.BT.node (o_76 P) (W.BT.node (o_108 P) (W.BT.node (o_174 P) W.BT.nil W.BT.nil) W.BT.nil) (W.BT.node (o_142 P) (W.BT.node (o_208 P) W.BT.nil W.BT.nil) W.BT.nil)) (W.BT.node (o_92 P) (W.BT.node (o_124 P) (W.BT.node (o_192 P) W.BT.nil W.BT.nil) W.BT.nil) (W.BT.node (o_158 P) W.BT.nil W.BT.nil)))) (W.BT.node (o_180 P) (W.BT.node (o_56 P) (W.BT.node (o_72 P) (W.BT.node (o_104 P) (W.BT.node (o_170 P) W.BT.nil W.BT.nil) W.BT.nil) (W.BT.node (o_138 P) (W.BT.node (o_204 P) W.BT.nil W.BT.nil) W.BT.nil)) (W.BT.node (o_88 P) (W.BT.node (o_120 P) (W.BT.node (o_188 P) W.BT.nil W.BT.nil) W.BT.nil) (W.BT.node (o_154 P) W.BT.nil W.BT.nil))) (W.BT.node (o_64 P) (W.BT.node (o_80 P) (W.BT.node (o_112 P) (W.BT.node (o_178 P) W.BT.nil W.BT.nil) W.BT.nil) (W.BT.node (o_146 P) W.BT.nil W.BT.nil)) (W.BT.node (o_96 P) (W.BT.node (o_128 P) (W.BT.node (o_196 P) W.BT.nil W.BT.nil) W.BT.nil) (W.BT.node (o_162 P) W.BT.nil W.BT.nil))))) (W.BT.node (boot_o_6 P) (W.BT.node (boot_o_10 P) (W.BT.node (o_54 P) (W.BT.node (o_70 P) (W.BT.node (o_102 P) (W.BT.node (o_168 P) W.BT.nil W.BT.nil) W.BT.nil) (W.BT.node (o_134 P) (W.BT.node (o_202 P) W.BT.nil W.BT.nil) W.BT.nil)) (W.BT.node (o_86 P) (W.BT.node (o_118 P) (W.BT.node (o_186 P) W.BT.nil W.BT.nil) W.BT.nil) (W.BT.node (o_152 P) W.BT.nil W.BT.nil))) (W.BT.node (o_62 P) (W.BT.node (o_78 P) (W.BT.node (o_110 P) (W.BT.node (o_176 P) W.BT.nil W.BT.nil) W.BT.nil) (W.BT.node (o_144 P) W.BT.nil W.BT.nil)) (W.BT.node (o_94 P) (W.BT.node (o_126 P) (W.BT.node (o_194 P) W.BT.nil W.BT.nil) W.BT.nil) (W.BT.node (o_160 P) W.BT.nil W.BT.nil)))) (W.BT.node (o_46 P) (W.BT.node (o_58 P) (W.BT.node (o_74 P) (W.BT.node (o_106 P) (W.BT.node (o_172 P) W.BT.nil W.BT.nil) W.BT.nil) (W.BT.node (o_140 P) (W.BT.node (o_206 P) W.BT.nil W.BT.nil) W.BT.nil)) (W.BT.node (o_90 P) (W.BT.node (o_122 P) (W.BT.node (o_190 P) W.BT.nil W.BT.nil) W.BT.nil) (W.BT.node (o_156 P) W.BT.nil W.BT.nil))) (W.BT.node (o_66 P) (W.BT.node (o_82 P) (W.BT.node (o_114 P) (W.BT.node (o_182 P) W.BT.nil W.BT.nil) W.BT.nil) (W.BT.node (o_148 P) W.BT.nil W.BT.nil)) (W.BT.node (o_98 P) (W.BT.node (o_130 P) (W.BT.node (o_198 P) W.BT.nil W.BT.nil) W.BT.nil) (W.BT.node (o_164 P) W.BT.nil W.BT.nil))))))))
noncomputable def tree_134 : Params → BT := (fun P => (W.BT.node (boot_o_0 P) (W.BT.node (boot_o_1 P) (W.BT.node (o_49 P) (W.BT.node (boot_o_7 P) (W.BT.node (o_51 P) (W.BT.node (o_67 P) (W.BT.node (o_99 P) W.BT.nil W.BT.nil) (W.BT.node (o_131 P) W.BT.nil W.BT.nil)) (W.BT.node (o_83 P) (W.BT.node (o_115 P) W.BT.nil W.BT.nil) W.BT.nil)) (W.BT.node (o_59 P) (W.BT.node (o_75 P) (W.BT.node (o_107 P) W.BT.nil W.BT.nil) W.BT.nil) (W.BT.node (o_91 P) (W.BT.node (o_123 P) W.BT.nil W.BT.nil) W.BT.nil))) (W.BT.node (o_43 P) (W.BT.node (o_55 P) (W.BT.node (o_71 P) (W.BT.node (o_103 P) W.BT.nil W.BT.nil) W.BT.nil) (W.BT.node (o_87 P) (W.BT.node (o_119 P) W.BT.nil W.BT.nil) W.BT.nil)) (W.BT.node (o_63 P) (W.BT.node (o_79 P) (W.BT.node (o_111 P) W.BT.nil W.BT.nil) W.BT.nil) (W.BT.node (o_95 P) (W.BT.node (o_127 P) W.BT.nil W.BT.nil) W.BT.nil)))) (W.BT.node (boot_o_5 P) (W.BT.node (boot_o_9 P) (W.BT.node (o_53 P) (W.BT.node (o_69 P) (W.BT.node (o_101 P) W.BT.nil W.BT.nil) (W.BT.node (o_133 P) W.BT.nil W.BT.nil)) (W.BT.node (o_85 P) (W.BT.node (o_117 P) W.BT.nil W.BT.nil) W.BT.nil)) (W.BT.node (o_61 P) (W.BT.node (o_77 P) (W.BT.node (o_109 P) W.BT.nil W.BT.nil) W.BT.nil) (W.BT.node (o_93 P) (W.BT.node (o_125 P) W.BT.nil W.BT.nil) W.BT.nil))) (W.BT.node (o_45 P) (W.BT.node (o_57 P) (W.BT.node (o_73 P) (W.BT.node (o_105 P) W.BT.nil W.BT.nil) W.BT.nil) (W.BT.node (o_89 P) (W.BT.node (o_121 P) W.BT.nil W.BT.nil) W.BT.nil)) (W.BT.node (o_65 P) (W.BT.node (o_81 P) (W.BT.node (o_113 P) W.BT.nil W.BT.nil) W.BT.nil) (W.BT.node (o_97 P) (W.BT.node (o_129 P) W.BT.nil W.BT.nil) W.BT.nil))))) (W.BT.node (boot_o_2 P) (W.BT.node (boot_o_4 P) (W.BT.node (boot_o_8 P) (W.BT.node (o_52 P) (W.BT.node (o_68 P) (W.BT.node (o_100 P) W.BT.nil W.BT.nil) (W.BT.node (o_132 P) W.BT.nil W.BT.nil)) (W.BT.node (o_84 P) (W.BT.node (o_116 P) W.BT.nil W.BT.nil) W.BT.nil)) (W.BT.node (o_60 P) (W.BT.node (o_76 P) (W.BT.node (o_108 P) W.BT.nil W.BT.nil) W.BT.nil) (W.BT.node (o_92 P) (W.BT.node (o_124 P) W.BT.nil W.BT.nil) W.BT.nil))) (W.BT.node (o_50 P) (W.BT.node (o_56 P) (W.BT.node (o_72 P) (W.BT.node (o_104 P) W.BT.nil W.BT.nil) W.BT.nil) (W.BT.node (o_88 P) (W.BT.node (o_120 P) W.BT.nil W.BT.nil) W.BT.nil)) (W.BT.node (o_64 P) (W.BT.node (o_80 P) (W.BT.node (o_112 P) W.BT.nil W.BT.nil) W.BT.nil) (W.BT.node (o_96 P) (W.BT.node (o_128 P) W.BT.nil W.BT.nil) W.BT.nil)))) (W.BT.node (boot_o_6 P) (W.BT.node (boot_o_10 P) (W.BT.node (o_54 P) (W.BT.node (o_70 P) (W.BT.node (o_102 P) W.BT.nil W.BT.nil) (W.BT.node (o_134 P) W.BT.nil W.BT.nil)) (W.BT.node (o_86 P) (W.BT.node (o_118 P) W.BT.nil W.BT.nil) W.BT.nil)) (W.BT.node (o_62 P) (W.BT.node (o_78 P) (W.BT.node (o_110 P) W.BT.nil W.BT.nil) W.BT.nil) (W.BT.node (o_94 P) (W.BT.node (o_126 P) W.BT.nil W.BT.nil) W.BT.nil))) (W.BT.node (o_46 P) (W.BT.node (o_58 P) (W.BT.node (o_74 P) (W.BT.node (o_106 P) W.BT.nil W.BT.nil) W.BT.nil) (W.BT.node (o_90 P) (W.BT.node (o_122 P) W.BT.nil W.BT.nil) W.BT.nil)) (W.BT.node (o_66 P) (W.BT.node (o_82 P) (W.BT.node (o_114 P) W.BT.nil W.BT.nil) W.BT.nil) (W.BT.node (o_98 P) (W.BT.node (o_130 P) W.BT.nil W.BT.nil) W.BT.nil)))))))
noncomputable def tree_374 : Params → BT := (fun P => (W.BT.node (boot_o_0 P) (W.BT.node (boot_o_1 P) (W.BT.node (o_352 P) (W.BT.node (boot_o_7 P) (W.BT.node (o_51 P) (W.BT.node (o_67 P) (W.BT.node (o_99 P) (W.BT.node (o_165 P) (W.BT.node (o_299 P) W.BT.nil W.BT.nil) W.BT.nil) (W.BT.node (o_233 P) (W.BT.node (o_365 P) W.BT.nil W.BT.nil) W.BT.nil)) (W.BT.node (o_131 P) (W.BT.node (o_199 P) (W.BT.node (o_331 P) W.BT.nil W.BT.nil) W.BT.nil) (W.BT.node (o_265 P) W.BT.nil W.BT.nil))) (W.BT.node (o_83 P) (W.BT.node (o_115 P) (W.BT.node (o_183 P) (W.BT.node (o_315 P) W.BT.nil W.BT.nil) W.BT.nil) (W.BT.node (o_249 P) W.BT.nil W.BT.nil)) (W.BT.node (o_149 P) (W.BT.node (o_217 P) (W.BT.node (o_347 P) W.BT.nil W.BT.nil) W.BT.nil) (W.BT.node (o_283 P) W.BT.nil W.BT.nil)))) (W.BT.node (o_59 P) (W.BT.node (o_75 P) (W.BT.node (o_107 P) (W.BT.node (o_173 P) (W.BT.node (o_307 P) W.BT.nil W.BT.nil) W.BT.nil) (W.BT.node (o_241 P) (W.BT.node (o_373 P) W.BT.nil W.BT.nil) W.BT.nil)) (W.BT.node (o_141 P) (W.BT.node (o_207 P) (W.BT.node (o_339 P) W.BT.nil W.BT.nil) W.BT.nil) (W.BT.node (o_275 P) W.BT.nil W.BT.nil))) (W.BT.node (o_91 P) (W.BT.node (o_123 P) (W.BT.node (o_191 P) (W.BT.node (o_323 P) W.BT.nil W.BT.nil) W.BT.nil) (W.BT.node (o_257 P) W.BT.nil W.BT.nil)) (W.BT.node (o_157 P) (W.BT.node (o_225 P) (W.BT.node (o_357 P) W.BT.nil W.BT.nil) W.BT.nil) (W.BT.node (o_291 P) W.BT.nil W.BT.nil))))) (W.BT.node (o_43 P) (W.BT.node (o_55 P) (W.BT.node (o_71 P) (W.BT.node (o_103 P) (W.BT.node (o_169 P) (W.BT.node (o_303 P) W.BT.nil W.BT.nil) W.BT.nil) (W.BT.node (o_237 P) (W.BT.node (o_369 P) W.BT.nil W.BT.nil) W.BT.nil)) (W.BT.node (o_137 P) (W.BT.node (o_203 P) (W.BT.node (o_335 P) W.BT.nil W.BT.nil) W.BT.nil) (W.BT.node (o_271 P) W.BT.nil W.BT.nil))) (W.BT.node (o_87 P) (W.BT.node (o_119 P) (W.BT.node (o_187 P) (W.BT.node (o_319 P) W.BT.nil W.BT.nil) W.BT.nil) (W.BT.node (o_253 P) W.BT.nil W.BT.nil)) (W.BT.node (o_153 P) (W.BT.node (o_221 P) (W.BT.node (o_351 P) W.BT.nil W.BT.nil) W.BT.nil) (W.BT.node (o_287 P) W.BT.nil W.BT.nil)))) (W.BT.node (o_63 P) (W.BT.node (o_79 P) (W.BT.node (o_111 P) (W.BT.node (o_177 P) (W.BT.node (o_311 P) W.BT.nil W.BT.nil) W.BT.nil) (W.BT.node (o_245 P) W.BT.nil W.BT.nil)) (W.BT.node (o_145 P) (W.BT.node (o_213 P) (W.BT.node (o_343 P) W.BT.nil W.BT.nil) W.BT.nil) (W.BT.node (o_279 P) W.BT.nil W.BT.nil))) (W.BT.node (o_95 P) (W.BT.node (o_127 P) (W.BT.node (o_195 P) (W.BT.node (o_327 P) W.BT.nil W.BT.nil) W.BT.nil) (W.BT.node (o_261 P) W.BT.nil W.BT.nil)) (W.BT.node (o_161 P) (W.BT.node (o_229 P) (W.BT.node (o_361 P) W.BT.nil W.BT.nil) W.BT.nil) (W.BT.node (o_295 P) W.BT.nil W.BT.nil)))))) (W.BT.node (boot_o_5 P) (W.BT.node (boot_o_9 P) (W.BT.node (o_53 P) (W.BT.node (o_69 P) (W.BT.node (o_101 P) (W.BT.node (o_167 P) (W.BT.node (o_301 P) W.BT.nil W.BT.nil) W.BT.nil) (W.BT.node (o_235 P) (W.BT.node (o_367 P) W.BT.nil W.BT.nil) W.BT.nil)) (W.BT.node (o_133 P) (W.BT.node (o_201 P) (W.BT.node (o_333 P) W.BT.nil W.BT.nil) W.BT.nil) (W.BT.node (o_267 P) W.BT.nil W.BT.nil))) (W.BT.node (o_85 P) (W.BT.node (o_117 P) (W.BT.node (o_185 P) (W.BT.node (o_317 P) W.BT.nil W.BT.nil) W.BT.nil) (W.BT.node (o_251 P) W.BT.nil W.BT.nil)) (W.BT.node (o_151 P) (W.BT.node (o_219 P) (W.BT.node (o_349 P) W.BT.nil W.BT.nil) W.BT.nil) (W.BT.node (o_285 P) W.BT.nil W.BT.nil)))) (W.BT.node (o_61 P) (W.BT.node (o_77 P) (W.BT.node (o_109 P) (W.BT.node (o_175 P) (W.BT.node (o_309 P) W.BT.nil W.BT.nil) W.BT.nil) (W.BT.node (o_243 P) W.BT.nil W.BT.nil)) (W.BT.node (o_143 P) (W.BT.node (o_209 P) (W.BT.node (o_341 P) W.BT.nil W.BT.nil) W.BT.nil) (W.BT.node (o_277 P) W.BT.nil W.BT.nil))) (W.BT.node (o_93 P) (W.BT.node (o_125 P) (W.BT.node (o_193 P) (W.BT.node (o_325 P) W.BT.nil W.BT.nil) W.BT.nil) (W.BT.node (o_259 P) W.BT.nil W.BT.nil)) (W.BT.node (o_159 P) (W.BT.node (o_227 P) (W.BT.node (o_359 P) W.BT.nil W.BT.nil) W.BT.nil) (W.BT.node (o_293 P) W.BT.nil W.BT.nil))))) (W.BT.node (o_45 P) (W.BT.node (o_57 P) (W.BT.node (o_73 P) (W.BT.node (o_105 P) (W.BT.node (o_171 P) (W.BT.node (o_305 P) W.BT.nil W.BT.nil) W.BT.nil) (W.BT.node (o_239 P) (W.BT.node (o_371 P) W.BT.nil W.BT.nil) W.BT.nil)) (W.BT.node (o_139 P) (W.BT.node (o_205 P) (W.BT.node (o_337 P) W.BT.nil W.BT.nil) W.BT.nil) (W.BT.node (o_273 P) W.BT.nil W.BT.nil))) (W.BT.node (o_89 P) (W.BT.node (o_121 P) (W.BT.node (o_189 P) (W.BT.node (o_321 P) W.BT.nil W.BT.nil) W.BT.nil) (W.BT.node (o_255 P) W.BT.nil W.BT.nil)) (W.BT.node (o_155 P) (W.BT.node (o_223 P) (W.BT.node (o_355 P) W.BT.nil W.BT.nil) W.BT.nil) (W.BT.node (o_289 P) W.BT.nil W.BT.nil)))) (W.BT.node (o_65 P) (W.BT.node (o_81 P) (W.BT.node (o_113 P) (W.BT.node (o_181 P) (W.BT.node (o_313 P) W.BT.nil W.BT.nil) W.BT.nil) (W.BT.node (o_247 P) W.BT.nil W.BT.nil)) (W.BT.node (o_147 P) (W.BT.node (o_215 P) (W.BT.node (o_345 P) W.BT.nil W.BT.nil) W.BT.nil) (W.BT.node (o_281 P) W.BT.nil W.BT.nil))) (W.BT.node (o_97 P) (W.BT.node (o_129 P) (W.BT.node (o_197 P) (W.BT.node (o_329 P) W.BT.nil W.BT.nil) W.BT.nil) (W.BT.node (o_263 P) W.BT.nil W.BT.nil)) (W.BT.node (o_163 P) (W.BT.node (o_231 P) (W.BT.node (o_363 P) W.BT.nil W.BT.nil) W.BT.nil) (W.BT.node (o_297 P) W.BT.nil W.BT.nil))))))) (W.BT.node (boot_o_2 P) (W.BT.node (boot_o_4 P) (W.BT.node (boot_o_8 P) (W.BT.node (o_52 P) (W.BT.node (o_68 P) (W.BT.node (o_100 P) (W.BT.node (o_166 P) (W.BT.node (o_300 P) W.BT.nil W.BT.nil) W.BT.nil) (W.BT.node (o_234 P) (W.BT.node (o_366 P) W.BT.nil W.BT.nil) W.BT.nil)) (W.BT.node (o_132 P) (W.BT.node (o_200 P) (W.BT.node (o_332 P) W.BT.nil W.BT.nil) W.BT.nil) (W.BT.node (o_266 P) W.BT.nil W.BT.nil))) (W.BT.node (o_84 P) (W.BT.node (o_116 P) (W.BT.node (o_184 P) (W.BT.node (o_316 P) W.BT.nil W.BT.nil) W.BT.nil) (W.BT.node (o_250 P) W.BT.nil W.BT.nil)) (W.BT.node (o_150 P) (W.BT.node (o_218 P) (W.BT.node (o_348 P) W.BT.nil W.BT.nil) W.BT.nil) (W.BT.node (o_284 P) W.BT.nil W.BT.nil)))) (W.BT.node (o_60 P) (W.BT.node (o_76 P) (W.BT.node (o_108 P) (W.BT.node (o_174 P) (W.BT.node (o_308 P) W.BT.nil W.BT.nil) W.BT.nil) (W.BT.node (o_242 P) (W.BT.node (o_374 P) W.BT.nil W.BT.nil) W.BT.nil)) (W.BT.node (o_142 P) (W.BT.node (o_208 P) (W.BT.node (o_340 P) W.BT.nil W.BT.nil) W.BT.nil) (W.BT.node (o_276 P) W.BT.nil W.BT.nil))) (W.BT.node (o_92 P) (W.BT.node (o_124 P) (W.BT.node (o_192 P) (W.BT.node (o_324 P) W.BT.nil W.BT.nil) W.BT.nil) (W.BT.node (o_258 P) W.BT.nil W.BT.nil)) (W.BT.node (o_158 P) (W.BT.node (o_226 P) (W.BT.node (o_358 P) W.BT.nil W.BT.nil) W.BT.nil) (W.BT.node (o_292 P) W.BT.nil W.BT.nil))))) (W.BT.node (o_353 P) (W.BT.node (o_56 P) (W.BT.node (o_72 P) (W.BT.node (o_104 P) (W.BT.node (o_170 P) (W.BT.node (o_304 P) W.BT.nil W.BT.nil) W.BT.nil) (W.BT.node (o_238 P) (W.BT.node (o_370 P) W.BT.nil W.BT.nil) W.BT.nil)) (W.BT.node (o_138 P) (W.BT.node (o_204 P) (W.BT.node (o_336 P) W.BT.nil W.BT.nil) W.BT.nil) (W.BT.node (o_272 P) W.BT.nil W.BT.nil))) (W.BT.node (o_88 P) (W.BT.node (o_120 P) (W.BT.node (o_188 P) (W.BT.node (o_320 P) W.BT.nil W.BT.nil) W.BT.nil) (W.BT.node (o_254 P) W.BT.nil W.BT.nil)) (W.BT.node (o_154 P) (W.BT.node (o_222 P) (W.BT.node (o_354 P) W.BT.nil W.BT.nil) W.BT.nil) (W.BT.node (o_288 P) W.BT.nil W.BT.nil)))) (W.BT.node (o_64 P) (W.BT.node (o_80 P) (W.BT.node (o_112 P) (W.BT.node (o_178 P) (W.BT.node (o_312 P) W.BT.nil W.BT.nil) W.BT.nil) (W.BT.node (o_246 P) W.BT.nil W.BT.nil)) (W.BT.node (o_146 P) (W.BT.node (o_214 P) (W.BT.node (o_344 P) W.BT.nil W.BT.nil) W.BT.nil) (W.BT.node (o_280 P) W.BT.nil W.BT.nil))) (W.BT.node (o_96 P) (W.BT.node (o_128 P) (W.BT.node (o_196 P) (W.BT.node (o_328 P) W.BT.nil W.BT.nil) W.BT.nil) (W.BT.node (o_262 P) W.BT.nil W.BT.nil)) (W.BT.node (o_162 P) (W.BT.node (o_230 P) (W.BT.node (o_362 P) W.BT.nil W.BT.nil) W.BT.nil) (W.BT.node (o_296 P) W.BT.nil W.BT.nil)))))) (W.BT.node (boot_o_6 P) (W.BT.node (boot_o_10 P) (W.BT.node (o_54 P) (W.BT.node (o_70 P) (W.BT.node (o_102 P) (W.BT.node (o_168 P) (W.BT.node (o_302 P) W.BT.nil W.BT.nil) W.BT.nil) (W.BT.node (o_236 P) (W.BT.node (o_368 P) W.BT.nil W.BT.nil) W.BT.nil)) (W.BT.node (o_134 P) (W.BT.node (o_202 P) (W.BT.node (o_334 P) W.BT.nil W.BT.nil) W.BT.nil) (W.BT.node (o_270 P) W.BT.nil W.BT.nil))) (W.BT.node (o_86 P) (W.BT.node (o_118 P) (W.BT.node (o_186 P) (W.BT.node (o_318 P) W.BT.nil W.BT.nil) W.BT.nil) (W.BT.node (o_252 P) W.BT.nil W.BT.nil)) (W.BT.node (o_152 P) (W.BT.node (o_220 P) (W.BT.node (o_350 P) W.BT.nil W.BT.nil) W.BT.nil) (W.BT.node (o_286 P) W.BT.nil W.BT.nil)))) (W.BT.node (o_62 P) (W.BT.node (o_78 P) (W.BT.node (o_110 P) (W.BT.node (o_176 P) (W.BT.node (o_310 P) W.BT.nil W.BT.nil) W.BT.nil) (W.BT.node (o_244 P) W.BT.nil W.BT.nil)) (W.BT.node (o_144 P) (W.BT.node (o_212 P) (W.BT.node (o_342 P) W.BT.nil W.BT.nil) W.BT.nil) (W.BT.node (o_278 P) W.BT.nil W.BT.nil))) (W.BT.node (o_94 P) (W.BT.node (o_126 P) (W.BT.node (o_194 P) (W.BT.node (o_326 P) W.BT.nil W.BT.nil) W.BT.nil) (W.BT.node (o_260 P) W.BT.nil W.BT.nil)) (W.BT.node (o_160 P) (W.BT.node (o_228 P) (W.BT.node (o_360 P) W.BT.nil W.BT.nil) W.BT.nil) (W.BT.node (o_294 P) W.BT.nil W.BT.nil))))) (W.BT.node (o_46 P) (W.BT.node (o_58 P) (W.BT.node (o_74 P) (W.BT.node (o_106 P) (W.BT.node (o_172 P) (W.BT.node (o_306 P) W.BT.nil W.BT.nil) W.BT.nil) (W.BT.node (o_240 P) (W.BT.node (o_372 P) W.BT.nil W.BT.nil) W.BT.nil)) (W.BT.node (o_140 P) (W.BT.node (o_206 P) (W.BT.node (o_338 P) W.BT.nil W.BT.nil) W.BT.nil) (W.BT.node (o_274 P) W.BT.nil W.BT.nil))) (W.BT.node (o_90 P) (W.BT.node (o_122 P) (W.BT.node (o_190 P) (W.BT.node (o_322 P) W.BT.nil W.BT.nil) W.BT.nil) (W.BT.node (o_256 P) W.BT.nil W.BT.nil)) (W.BT.node (o_156 P) (W.BT.node (o_224 P) (W.BT.node (o_356 P) W.BT.nil W.BT.nil) W.BT.nil) (W.BT.node (o_290 P) W.BT.nil W.BT.nil)))) (W.BT.node (o_66 P) (W.BT.node (o_82 P) (W.BT.node (o_114 P) (W.BT.node (o_182 P) (W.BT.node (o_314 P) W.BT.nil W.BT.nil) W.BT.nil) (W.BT.node (o_248 P) W.BT.nil W.BT.nil)) (W.BT.node (o_148 P) (W.BT.node (o_216 P) (W.BT.node (o_346 P) W.BT.nil W.BT.nil) W.BT.nil) (W.BT.node (o_282 P) W.BT.nil W.BT.nil))) (W.BT.node (o_98 P) (W.BT.node (o_130 P) (W.BT.node (o_198 P) (W.BT.node (o_330 P) W.BT.nil W.BT.nil) W.BT.nil) (W.BT.node (o_264 P) W.BT.nil W.BT.nil)) (W.BT.node (o_164 P) (W.BT.node (o_232 P) (W.BT.node (o_364 P) W.BT.nil W.BT.nil) W.BT.nil) (W.BT.node (o_298 P) W.BT.nil W.BT.nil)))))))))
noncomputable def tree_267 : Params → BT := (fun P => (W.BT.node (boot_o_0 P) (W.BT.node (boot_o_1 P) (W.BT.node (o_210 P) (W.BT.node (boot_o_7 P) (W.BT.node (o_51 P) (W.BT.node (o_67 P) (W.BT.node (o_99 P) (W.BT.node (o_165 P) W.BT.nil W.BT.nil) (W.BT.node (o_233 P) W.BT.nil W.BT.nil)) (W.BT.node (o_131 P) (W.BT.node (o_199 P) W.BT.nil W.BT.nil) (W.BT.node (o_265 P) W.BT.nil W.BT.nil))) (W.BT.node (o_83 P) (W.BT.node (o_115 P) (W.BT.node (o_183 P) W.BT.nil W.BT.nil) (W.BT.node (o_249 P) W.BT.nil W.BT.nil)) (W.BT.node (o_149 P) (W.BT.node (o_217 P) W.BT.nil W.BT.nil) W.BT.nil))) (W.BT.node (o_59 P) (W.BT.node (o_75 P) (W.BT.node (o_107 P) (W.BT.node (o_173 P) W.BT.nil W.BT.nil) (W.BT.node (o_241 P) W.BT.nil W.BT.nil)) (W.BT.node (o_141 P) (W.BT.node (o_207 P) W.BT.nil W.BT.nil) W.BT.nil)) (W.BT.node (o_91 P) (W.BT.node (o_123 P) (W.BT.node (o_191 P) W.BT.nil W.BT.nil) (W.BT.node (o_257 P) W.BT.nil W.BT.nil)) (W.BT.node (o_157 P) (W.BT.node (o_225 P) W.BT.nil W.BT.nil) W.BT.nil)))) (W.BT.node (o_43 P) (W.BT.node (o_55 P) (W.BT.node (o_71 P) (W.BT.node (o_103 P) (W.BT.node (o_169 P) W.BT.nil W.BT.nil) (W.BT.node (o_237 P) W.BT.nil W.BT.nil)) (W.BT.node (o_137 P) (W.BT.node (o_203 P) W.BT.nil W.BT.nil) W.BT.nil)) (W.BT.node (o_87 P) (W.BT.node (o_119 P) (W.BT.node (o_187 P) W.BT.nil W.BT.nil) (W.BT.node (o_253 P) W.BT.nil W.BT.nil)) (W.BT.node (o_153 P) (W.BT.node (o_221 P) W.BT.nil W.BT.nil) W.BT.nil))) (W.BT.node (o_63 P) (W.BT.node (o_79 P) (W.BT.node (o_111 P) (W.BT.node (o_177 P) W.BT.nil W.BT.nil) (W.BT.node (o_245 P) W.BT.nil W.BT.nil)) (W.BT.node (o_145 P) (W.BT.node (o_213 P) W.BT.nil W.BT.nil) W.BT.nil)) (W.BT.node (o_95 P) (W.BT.node (o_127 P) (W.BT.node (o_195 P) W.BT.nil W.BT.nil) (W.BT.node (o_261 P) W.BT.nil W.BT.nil)) (W.BT.node (o_161 P) (W.BT.node (o_229 P) W.BT.nil W.BT.nil) W.BT.nil))))) (W.BT.node (boot_o_5 P) (W.BT.node (boot_o_9 P) (W.BT.node (o_53 P) (W.BT.node (o_69 P) (W.BT.node (o_101 P) (W.BT.node (o_167 P) W.BT.nil W.BT.nil) (W.BT.node (o_235 P) W.BT.nil W.BT.nil)) (W.BT.node (o_133 P) (W.BT.node (o_201 P) W.BT.nil W.BT.nil) (W.BT.node (o_267 P) W.BT.nil W.BT.nil))) (W.BT.node (o_85 P) (W.BT.node (o_117 P) (W.BT.node (o_185 P) W.BT.nil W.BT.nil) (W.BT.node (o_251 P) W.BT.nil W.BT.nil)) (W.BT.node (o_151 P) (W.BT.node (o_219 P) W.BT.nil W.BT.nil) W.BT.nil))) (W.BT.node (o_61 P) (W.BT.node (o_77 P) (W.BT.node (o_109 P) (W.BT.node (o_175 P) W.BT.nil W.BT.nil) (W.BT.node (o_243 P) W.BT.nil W.BT.nil)) (W.BT.node (o_143 P) (W.BT.node (o_209 P) W.BT.nil W.BT.nil) W.BT.nil)) (W.BT.node (o_93 P) (W.BT.node (o_125 P) (W.BT.node (o_193 P) W.BT.nil W.BT.nil) (W.BT.node (o_259 P) W.BT.nil W.BT.nil)) (W.BT.node (o_159 P) (W.BT.node (o_227 P) W.BT.nil W.BT.nil) W.BT.nil)))) (W.BT.node (o_45 P) (W.BT.node (o_57 P) (W.BT.node (o_73 P) (W.BT.node (o_105 P) (W.BT.node (o_171 P) W.BT.nil W.BT.nil) (W.BT.node (o_239 P) W.BT.nil W.BT.nil)) (W.BT.node (o_139 P) (W.BT.node (o_205 P) W.BT.nil W.BT.nil) W.BT.nil)) (W.BT.node (o_89 P) (W.BT.node (o_121 P) (W.BT.node (o_189 P) W.BT.nil W.BT.nil) (W.BT.node (o_255 P) W.BT.nil W.BT.nil)) (W.BT.node (o_155 P) (W.BT.node (o_223 P) W.BT.nil W.BT.nil) W.BT.nil))) (W.BT.node (o_65 P) (W.BT.node (o_81 P) (W.BT.node (o_113 P) (W.BT.node (o_181 P) W.BT.nil W.BT.nil) (W.BT.node (o_247 P) W.BT.nil W.BT.nil)) (W.BT.node (o_147 P) (W.BT.node (o_215 P) W.BT.nil W.BT.nil) W.BT.nil)) (W.BT.node (o_97 P) (W.BT.node (o_129 P) (W.BT.node (o_197 P) W.BT.nil W.BT.nil) (W.BT.node (o_263 P) W.BT.nil W.BT.nil)) (W.BT.node (o_163 P) (W.BT.node (o_231 P) W.BT.nil W.BT.nil) W.BT.nil)))))) (W.BT.node (boot_o_2 P) (W.BT.node (boot_o_4 P) (W.BT.node (boot_o_8 P) (W.BT.node (o_52 P) (W.BT.node (o_68 P) (W.BT.node (o_100 P) (W.BT.node (o_166 P) W.BT.nil W.BT.nil) (W.BT.node (o_234 P) W.BT.nil W.BT.nil)) (W.BT.node (o_132 P) (W.BT.node (o_200 P) W.BT.nil W.BT.nil) (W.BT.node (o_266 P) W.BT.nil W.BT.nil))) (W.BT.node (o_84 P) (W.BT.node (o_116 P) (W.BT.node (o_184 P) W.BT.nil W.BT.nil) (W.BT.node (o_250 P) W.BT.nil W.BT.nil)) (W.BT.node (o_150 P) (W.BT.node (o_218 P) W.BT.nil W.BT.nil) W.BT.nil))) (W.BT.node (o_60 P) (W.BT.node (o_76 P) (W.BT.node (o_108 P) (W.BT.node (o_174 P) W.BT.nil W.BT.nil) (W.BT.node (o_242 P) W.BT.nil W.BT.nil)) (W.BT.node (o_142 P) (W.BT.node (o_208 P) W.BT.nil W.BT.nil) W.BT.nil)) (W.BT.node (o_92 P) (W.BT.node (o_124 P) (W.BT.node (o_192 P) W.BT.nil W.BT.nil) (W.BT.node (o_258 P) W.BT.nil W.BT.nil)) (W.BT.node (o_158 P) (W.BT.node (o_226 P) W.BT.nil W.BT.nil) W.BT.nil)))) (W.BT.node (o_211 P) (W.BT.node (o_56 P) (W.BT.node (o_72 P) (W.BT.node (o_104 P) (W.BT.node (o_170 P) W.BT.nil W.BT.nil) (W.BT.node (o_238 P) W.BT.nil W.BT.nil)) (W.BT.node (o_138 P) (W.BT.node (o_204 P) W.BT.nil W.BT.nil) W.BT.nil)) (W.BT.node (o_88 P) (W.BT.node (o_120 P) (W.BT.node (o_188 P) W.BT.nil W.BT.nil) (W.BT.node (o_254 P) W.BT.nil W.BT.nil)) (W.BT.node (o_154 P) (W.BT.node (o_222 P) W.BT.nil W.BT.nil) W.BT.nil))) (W.BT.node (o_64 P) (W.BT.node (o_80 P) (W.BT.node (o_112 P) (W.BT.node (o_178 P) W.BT.nil W.BT.nil) (W.BT.node (o_246 P) W.BT.nil W.BT.nil)) (W.BT.node (o_146 P) (W.BT.node (o_214 P) W.BT.nil W.BT.nil) W.BT.nil)) (W.BT.node (o_96 P) (W.BT.node (o_128 P) (W.BT.node (o_196 P) W.BT.nil W.BT.nil) (W.BT.node (o_262 P) W.BT.nil W.BT.nil)) (W.BT.node (o_162 P) (W.BT.node (o_230 P) W.BT.nil W.BT.nil) W.BT.nil))))) (W.BT.node (boot_o_6 P) (W.BT.node (boot_o_10 P) (W.BT.node (o_54 P) (W.BT.node (o_70 P) (W.BT.node (o_102 P) (W.BT.node (o_168 P) W.BT.nil W.BT.nil) (W.BT.node (o_236 P) W.BT.nil W.BT.nil)) (W.BT.node (o_134 P) (W.BT.node (o_202 P) W.BT.nil W.BT.nil) W.BT.nil)) (W.BT.node (o_86 P) (W.BT.node (o_118 P) (W.BT.node (o_186 P) W.BT.nil W.BT.nil) (W.BT.node (o_252 P) W.BT.nil W.BT.nil)) (W.BT.node (o_152 P) (W.BT.node (o_220 P) W.BT.nil W.BT.nil) W.BT.nil))) (W.BT.node (o_62 P) (W.BT.node (o_78 P) (W.BT.node (o_110 P) (W.BT.node (o_176 P) W.BT.nil W.BT.nil) (W.BT.node (o_244 P) W.BT.nil W.BT.nil)) (W.BT.node (o_144 P) (W.BT.node (o_212 P) W.BT.nil W.BT.nil) W.BT.nil)) (W.BT.node (o_94 P) (W.BT.node (o_126 P) (W.BT.node (o_194 P) W.BT.nil W.BT.nil) (W.BT.node (o_260 P) W.BT.nil W.BT.nil)) (W.BT.node (o_160 P) (W.BT.node (o_228 P) W.BT.nil W.BT.nil) W.BT.nil)))) (W.BT.node (o_46 P) (W.BT.node (o_58 P) (W.BT.node (o_74 P) (W.BT.node (o_106 P) (W.BT.node (o_172 P) W.BT.nil W.BT.nil) (W.BT.node (o_240 P) W.BT.nil W.BT.nil)) (W.BT.node (o_140 P) (W.BT.node (o_206 P) W.BT.nil W.BT.nil) W.BT.nil)) (W.BT.node (o_90 P) (W.BT.node (o_122 P) (W.BT.node (o_190 P) W.BT.nil W.BT.nil) (W.BT.node (o_256 P) W.BT.nil W.BT.nil)) (W.BT.node (o_156 P) (W.BT.node (o_224 P) W.BT.nil W.BT.nil) W.BT.nil))) (W.BT.node (o_66 P) (W.BT.node (o_82 P) (W.BT.node (o_114 P) (W.BT.node (o_182 P) W.BT.nil W.BT.nil) (W.BT.node (o_248 P) W.BT.nil W.BT.nil)) (W.BT.node (o_148 P) (W.BT.node (o_216 P) W.BT.nil W.BT.nil) W.BT.nil)) (W.BT.node (o_98 P) (W.BT.node (o_130 P) (W.BT.node (o_198 P) W.BT.nil W.BT.nil) (W.BT.node (o_264 P) W.BT.nil W.BT.nil)) (W.BT.node (o_164 P) (W.BT.node (o_232 P) W.BT.nil W.BT.nil) W.BT.nil))))))))
noncomputable def tree_351 : Params → BT := (fun P => (W.BT.node (boot_o_0 P) (W.BT.node (boot_o_1 P) (W.BT.node (o_268 P) (W.BT.node (boot_o_7 P) (W.BT.node (o_51 P) (W.BT.node (o_67 P) (W.BT.node (o_99 P) (W.BT.node (o_165 P) (W.BT.node (o_299 P) W.BT.nil W.BT.nil) W.BT.nil) (W.BT.node (o_233 P) W.BT.nil W.BT.nil)) (W.BT.node (o_131 P) (W.BT.node (o_199 P) (W.BT.node (o_331 P) W.BT.nil W.BT.nil) W.BT.nil) (W.BT.node (o_265 P) W.BT.nil W.BT.nil))) (W.BT.node (o_83 P) (W.BT.node (o_115 P) (W.BT.node (o_183 P) (W.BT.node (o_315 P) W.BT.nil W.BT.nil) W.BT.nil) (W.BT.node (o_249 P) W.BT.nil W.BT.nil)) (W.BT.node (o_149 P) (W.BT.node (o_217 P) (W.BT.node (o_347 P) W.BT.nil W.BT.nil) W.BT.nil) (W.BT.node (o_283 P) W.BT.nil W.BT.nil)))) (W.BT.node (o_59 P) (W.BT.node (o_75 P) (W.BT.node (o_107 P) (W.BT.node (o_173 P) (W.BT.node (o_307 P) W.BT.nil W.BT.nil) W.BT.nil) (W.BT.node (o_241 P) W.BT.nil W.BT.nil)) (W.BT.node (o_141 P) (W.BT.node (o_207 P) (W.BT.node (o_339 P) W.BT.nil W.BT.nil) W.BT.nil) (W.BT.node (o_275 P) W.BT.nil W.BT.nil))) (W.BT.node (o_91 P) (W.BT.node (o_123 P) (W.BT.node (o_191 P) (W.BT.node (o_323 P) W.BT.nil W.BT.nil) W.BT.nil) (W.BT.node (o_257 P) W.BT.nil W.BT.nil)) (W.BT.node (o_157 P) (W.BT.node (o_225 P) W.BT.nil W.BT.nil) (W.BT.node (o_291 P) W.BT.nil W.BT.nil))))) (W.BT.node (o_43 P) (W.BT.node (o_55 P) (W.BT.node (o_71 P) (W.BT.node (o_103 P) (W.BT.node (o_169 P) (W.BT.node (o_303 P) W.BT.nil W.BT.nil) W.BT.nil) (W.BT.node (o_237 P) W.BT.nil W.BT.nil)) (W.BT.node (o_137 P) (W.BT.node (o_203 P) (W.BT.node (o_335 P) W.BT.nil W.BT.nil) W.BT.nil) (W.BT.node (o_271 P) W.BT.nil W.BT.nil))) (W.BT.node (o_87 P) (W.BT.node (o_119 P) (W.BT.node (o_187 P) (W.BT.node (o_319 P) W.BT.nil W.BT.nil) W.BT.nil) (W.BT.node (o_253 P) W.BT.nil W.BT.nil)) (W.BT.node (o_153 P) (W.BT.node (o_221 P) (W.BT.node (o_351 P) W.BT.nil W.BT.nil) W.BT.nil) (W.BT.node (o_287 P) W.BT.nil W.BT.nil)))) (W.BT.node (o_63 P) (W.BT.node (o_79 P) (W.BT.node (o_111 P) (W.BT.node (o_177 P) (W.BT.node (o_311 P) W.BT.nil W.BT.nil) W.BT.nil) (W.BT.node (o_245 P) W.BT.nil W.BT.nil)) (W.BT.node (o_145 P) (W.BT.node (o_213 P) (W.BT.node (o_343 P) W.BT.nil W.BT.nil) W.BT.nil) (W.BT.node (o_279 P) W.BT.nil W.BT.nil))) (W.BT.node (o_95 P) (W.BT.node (o_127 P) (W.BT.node (o_195 P) (W.BT.node (o_327 P) W.BT.nil W.BT.nil) W.BT.nil) (W.BT.node (o_261 P) W.BT.nil W.BT.nil)) (W.BT.node (o_161 P) (W.BT.node (o_229 P) W.BT.nil W.BT.nil) (W.BT.node (o_295 P) W.BT.nil W.BT.nil)))))) (W.BT.node (boot_o_5 P) (W.BT.node (boot_o_9 P) (W.BT.node (o_53 P) (W.BT.node (o_69 P) (W.BT.node (o_101 P) (W.BT.node (o_167 P) (W.BT.node (o_301 P) W.BT.nil W.BT.nil) W.BT.nil) (W.BT.node (o_235 P) W.BT.nil W.BT.nil)) (W.BT.node (o_133 P) (W.BT.node (o_201 P) (W.BT.node (o_333 P) W.BT.nil W.BT.nil) W.BT.nil) (W.BT.node (o_267 P) W.BT.nil W.BT.nil))) (W.BT.node (o_85 P) (W.BT.node (o_117 P) (W.BT.node (o_185 P) (W.BT.node (o_317 P) W.BT.nil W.BT.nil) W.BT.nil) (W.BT.node (o_251 P) W.BT.nil W.BT.nil)) (W.BT.node (o_151 P) (W.BT.node (o_219 P) (W.BT.node (o_349 P) W.BT.nil W.BT.nil) W.BT.nil) (W.BT.node (o_285 P) W.BT.nil W.BT.nil)))) (W.BT.node (o_61 P) (W.BT.node (o_77 P) (W.BT.node (o_109 P) (W.BT.node (o_175 P) (W.BT.node (o_309 P) W.BT.nil W.BT.nil) W.BT.nil) (W.BT.node (o_243 P) W.BT.nil W.BT.nil)) (W.BT.node (o_143 P) (W.BT.node (o_209 P) (W.BT.node (o_341 P) W.BT.nil W.BT.nil) W.BT.nil) (W.BT.node (o_277 P) W.BT.nil W.BT.nil))) (W.BT.node (o_93 P) (W.BT.node (o_125 P) (W.BT.node (o_193 P) (W.BT.node (o_325 P) W.BT.nil W.BT.nil) W.BT.nil) (W.BT.node (o_259 P) W.BT.nil W.BT.nil)) (W.BT.node (o_159 P) (W.BT.node (o_227 P) W.BT.nil W.BT.nil) (W.BT.node (o_293 P) W.BT.nil W.BT.nil))))) (W.BT.node (o_45 P) (W.BT.node (o_57 P) (W.BT.node (o_73 P) (W.BT.node (o_105 P) (W.BT.node (o_171 P) (W.BT.node (o_305 P) W.BT.nil W.BT.nil) W.BT.nil) (W.BT.node (o_239 P) W.BT.nil W.BT.nil)) (W.BT.node (o_139 P) (W.BT.node (o_205 P) (W.BT.node (o_337 P) W.BT.nil W.BT.nil) W.BT.nil) (W.BT.node (o_273 P) W.BT.nil W.BT.nil))) (W.BT.node (o_89 P) (W.BT.node (o_121 P) (W.BT.node (o_189 P) (W.BT.node (o_321 P) W.BT.nil W.BT.nil) W.BT.nil) (W.BT.node (o_255 P) W.BT.nil W.BT.nil)) (W.BT.node (o_155 P) (W.BT.node (o_223 P) W.BT.nil W.BT.nil) (W.BT.node (o_289 P) W.BT.nil W.BT.nil)))) (W.BT.node (o_65 P) (W.BT.node (o_81 P) (W.BT.node (o_113 P) (W.BT.node (o_181 P) (W.BT.node (o_313 P) W.BT.nil W.BT.nil) W.BT.nil) (W.BT.node (o_247 P) W.BT.nil W.BT.nil)) (W.BT.node (o_147 P) (W.BT.node (o_215 P) (W.BT.node (o_345 P) W.BT.nil W.BT.nil) W.BT.nil) (W.BT.node (o_281 P) W.BT.nil W.BT.nil))) (W.BT.node (o_97 P) (W.BT.node (o_129 P) (W.BT.node (o_197 P) (W.BT.node (o_329 P) W.BT.nil W.BT.nil) W.BT.nil) (W.BT.node (o_263 P) W.BT.nil W.BT.nil)) (W.BT.node (o_163 P) (W.BT.node (o_231 P) W.BT.nil W.BT.nil) (W.BT.node (o_297 P) W.BT.nil W.BT.nil))))))) (W.BT.node (boot_o_2 P) (W.BT.node (boot_o_4 P) (W.BT.node (boot_o_8 P) (W.BT.node (o_52 P) (W.BT.node (o_68 P) (W.BT.node (o_100 P) (W.BT.node (o_166 P) (W.BT.node (o_300 P) W.BT.nil W.BT.nil) W.BT.nil) (W.BT.node (o_234 P) W.BT.nil W.BT.nil)) (W.BT.node (o_132 P) (W.BT.node (o_200 P) (W.BT.node (o_332 P) W.BT.nil W.BT.nil) W.BT.nil) (W.BT.node (o_266 P) W.BT.nil W.BT.nil))) (W.BT.node (o_84 P) (W.BT.node (o_116 P) (W.BT.node (o_184 P) (W.BT.node (o_316 P) W.BT.nil W.BT.nil) W.BT.nil) (W.BT.node (o_250 P) W.BT.nil W.BT.nil)) (W.BT.node (o_150 P) (W.BT.node (o_218 P) (W.BT.node (o_348 P) W.BT.nil W.BT.nil) W.BT.nil) (W.BT.node (o_284 P) W.BT.nil W.BT.nil)))) (W.BT.node (o_60 P) (W.BT.node (o_76 P) (W.BT.node (o_108 P) (W.BT.node (o_174 P) (W.BT.node (o_308 P) W.BT.nil W.BT.nil) W.BT.nil) (W.BT.node (o_242 P) W.BT.nil W.BT.nil)) (W.BT.node (o_142 P) (W.BT.node (o_208 P) (W.BT.node (o_340 P) W.BT.nil W.BT.nil) W.BT.nil) (W.BT.node (o_276 P) W.BT.nil W.BT.nil))) (W.BT.node (o_92 P) (W.BT.node (o_124 P) (W.BT.node (o_192 P) (W.BT.node (o_324 P) W.BT.nil W.BT.nil) W.BT.nil) (W.BT.node (o_258 P) W.BT.nil W.BT.nil)) (W.BT.node (o_158 P) (W.BT.node (o_226 P) W.BT.nil W.BT.nil) (W.BT.node (o_292 P) W.BT.nil W.BT.nil))))) (W.BT.node (o_269 P) (W.BT.node (o_56 P) (W.BT.node (o_72 P) (W.BT.node (o_104 P) (W.BT.node (o_170 P) (W.BT.node (o_304 P) W.BT.nil W.BT.nil) W.BT.nil) (W.BT.node (o_238 P) W.BT.nil W.BT.nil)) (W.BT.node (o_138 P) (W.BT.node (o_204 P) (W.BT.node (o_336 P) W.BT.nil W.BT.nil) W.BT.nil) (W.BT.node (o_272 P) W.BT.nil W.BT.nil))) (W.BT.node (o_88 P) (W.BT.node (o_120 P) (W.BT.node (o_188 P) (W.BT.node (o_320 P) W.BT.nil W.BT.nil) W.BT.nil) (W.BT.node (o_254 P) W.BT.nil W.BT.nil)) (W.BT.node (o_154 P) (W.BT.node (o_222 P) W.BT.nil W.BT.nil) (W.BT.node (o_288 P) W.BT.nil W.BT.nil)))) (W.BT.node (o_64 P) (W.BT.node (o_80 P) (W.BT.node (o_112 P) (W.BT.node (o_178 P) (W.BT.node (o_312 P) W.BT.nil W.BT.nil) W.BT.nil) (W.BT.node (o_246 P) W.BT.nil W.BT.nil)) (W.BT.node (o_146 P) (W.BT.node (o_214 P) (W.BT.node (o_344 P) W.BT.nil W.BT.nil) W.BT.nil) (W.BT.node (o_280 P) W.BT.nil W.BT.nil))) (W.BT.node (o_96 P) (W.BT.node (o_128 P) (W.BT.node (o_196 P) (W.BT.node (o_328 P) W.BT.nil W.BT.nil) W.BT.nil) (W.BT.node (o_262 P) W.BT.nil W.BT.nil)) (W.BT.node (o_162 P) (W.BT.node (o_230 P) W.BT.nil W.BT.nil) (W.BT.node (o_296 P) W.BT.nil W.BT.nil)))))) (W.BT.node (boot_o_6 P) (W.BT.node (boot_o_10 P) (W.BT.node (o_54 P) (W.BT.node (o_70 P) (W.BT.node (o_102 P) (W.BT.node (o_168 P) (W.BT.node (o_302 P) W.BT.nil W.BT.nil) W.BT.nil) (W.BT.node (o_236 P) W.BT.nil W.BT.nil)) (W.BT.node (o_134 P) (W.BT.node (o_202 P) (W.BT.node (o_334 P) W.BT.nil W.BT.nil) W.BT.nil) (W.BT.node (o_270 P) W.BT.nil W.BT.nil))) (W.BT.node (o_86 P) (W.BT.node (o_118 P) (W.BT.node (o_186 P) (W.BT.node (o_318 P) W.BT.nil W.BT.nil) W.BT.nil) (W.BT.node (o_252 P) W.BT.nil W.BT.nil)) (W.BT.node (o_152 P) (W.BT.node (o_220 P) (W.BT.node (o_350 P) W.BT.nil W.BT.nil) W.BT.nil) (W.BT.node (o_286 P) W.BT.nil W.BT.nil)))) (W.BT.node (o_62 P) (W.BT.node (o_78 P) (W.BT.node (o_110 P) (W.BT.node (o_176 P) (W.BT.node (o_310 P) W.BT.nil W.BT.nil) W.BT.nil) (W.BT.node (o_244 P) W.BT.nil W.BT.nil)) (W.BT.node (o_144 P) (W.BT.node (o_212 P) (W.BT.node (o_342 P) W.BT.nil W.BT.nil) W.BT.nil) (W.BT.node (o_278 P) W.BT.nil W.BT.nil))) (W.BT.node (o_94 P) (W.BT.node (o_126 P) (W.BT.node (o_194 P) (W.BT.node (o_326 P) W.BT.nil W.BT.nil) W.BT.nil) (W.BT.node (o_260 P) W.BT.nil W.BT.nil)) (W.BT.node (o_160 P) (W.BT.node (o_228 P) W.BT.nil W.BT.nil) (W.BT.node (o_294 P) W.BT.nil W.BT.nil))))) (W.BT.node (o_46 P) (W.BT.node (o_58 P) (W.BT.node (o_74 P) (W.BT.node (o_106 P) (W.BT.node (o_172 P) (W.BT.node (o_306 P) W.BT.nil W.BT.nil) W.BT.nil) (W.BT.node (o_240 P) W.BT.nil W.BT.nil)) (W.BT.node (o_140 P) (W.BT.node (o_206 P) (W.BT.node (o_338 P) W.BT.nil W.BT.nil) W.BT.nil) (W.BT.node (o_274 P) W.BT.nil W.BT.nil))) (W.BT.node (o_90 P) (W.BT.node (o_122 P) (W.BT.node (o_190 P) (W.BT.node (o_322 P) W.BT.nil W.BT.nil) W.BT.nil) (W.BT.node (o_256 P) W.BT.nil W.BT.nil)) (W.BT.node (o_156 P) (W.BT.node (o_224 P) W.BT.nil W.BT.nil) (W.BT.node (o_290 P) W.BT.nil W.BT.nil)))) (W.BT.node (o_66 P) (W.BT.node (o_82 P) (W.BT.node (o_114 P) (W.BT.node (o_182 P) (W.BT.node (o_314 P) W.BT.nil W.BT.nil) W.BT.nil) (W.BT.node (o_248 P) W.BT.nil W.BT.nil)) (W.BT.node (o_148 P) (W.BT.node (o_216 P) (W.BT.node (o_346 P) W.BT.nil W.BT.nil) W.BT.nil) (W.BT.node (o_282 P) W.BT.nil W.BT.nil))) (W.BT.node (o_98 P) (W.BT.node (o_130 P) (W.BT.node (o_198 P) (W.BT.node (o_330 P) W.BT.nil W.BT.nil) W.BT.nil) (W.BT.node (o_264 P) W.BT.nil W.BT.nil)) (W.BT.node (o_164 P) (W.BT.node (o_232 P) W.BT.nil W.BT.nil) (W.BT.node (o_298 P) W.BT.nil W.BT.nil)))))))))
noncomputable def tree_477 : Params → BT := (fun P => (W.BT.node (boot_o_0 P) (W.BT.node (boot_o_1 P) (W.BT.node (o_450 P) (W.BT.node (boot_o_7 P) (W.BT.node (o_51 P) (W.BT.node (o_67 P) (W.BT.node (o_99 P) (W.BT.node (o_165 P) (W.BT.node (o_299 P) W.BT.nil W.BT.nil) (W.BT.node (o_433 P) W.BT.nil W.BT.nil)) (W.BT.node (o_233 P) (W.BT.node (o_365 P) W.BT.nil W.BT.nil) W.BT.nil)) (W.BT.node (o_131 P) (W.BT.node (o_199 P) (W.BT.node (o_331 P) W.BT.nil W.BT.nil) (W.BT.node (o_467 P) W.BT.nil W.BT.nil)) (W.BT.node (o_265 P) (W.BT.node (o_401 P) W.BT.nil W.BT.nil) W.BT.nil))) (W.BT.node (o_83 P) (W.BT.node (o_115 P) (W.BT.node (o_183 P) (W.BT.node (o_315 P) W.BT.nil W.BT.nil) (W.BT.node (o_449 P) W.BT.nil W.BT.nil)) (W.BT.node (o_249 P) (W.BT.node (o_383 P) W.BT.nil W.BT.nil) W.BT.nil)) (W.BT.node (o_149 P) (W.BT.node (o_217 P) (W.BT.node (o_347 P) W.BT.nil W.BT.nil) W.BT.nil) (W.BT.node (o_283 P) (W.BT.node (o_417 P) W.BT.nil W.BT.nil) W.BT.nil)))) (W.BT.node (o_59 P) (W.BT.node (o_75 P) (W.BT.node (o_107 P) (W.BT.node (o_173 P) (W.BT.node (o_307 P) W.BT.nil W.BT.nil) (W.BT.node (o_441 P) W.BT.nil W.BT.nil)) (W.BT.node (o_241 P) (W.BT.node (o_373 P) W.BT.nil W.BT.nil) W.BT.nil)) (W.BT.node (o_141 P) (W.BT.node (o_207 P) (W.BT.node (o_339 P) W.BT.nil W.BT.nil) (W.BT.node (o_475 P) W.BT.nil W.BT.nil)) (W.BT.node (o_275 P) (W.BT.node (o_409 P) W.BT.nil W.BT.nil) W.BT.nil))) (W.BT.node (o_91 P) (W.BT.node (o_123 P) (W.BT.node (o_191 P) (W.BT.node (o_323 P) W.BT.nil W.BT.nil) (W.BT.node (o_459 P) W.BT.nil W.BT.nil)) (W.BT.node (o_257 P) (W.BT.node (o_391 P) W.BT.nil W.BT.nil) W.BT.nil)) (W.BT.node (o_157 P) (W.BT.node (o_225 P) (W.BT.node (o_357 P) W.BT.nil W.BT.nil) W.BT.nil) (W.BT.node (o_291 P) (W.BT.node (o_425 P) W.BT.nil W.BT.nil) W.BT.nil))))) (W.BT.node (o_43 P) (W.BT.node (o_55 P) (W.BT.node (o_71 P) (W.BT.node (o_103 P) (W.BT.node (o_169 P) (W.BT.node (o_303 P) W.BT.nil W.BT.nil) (W.BT.node (o_437 P) W.BT.nil W.BT.nil)) (W.BT.node (o_237 P) (W.BT.node (o_369 P) W.BT.nil W.BT.nil) W.BT.nil)) (W.BT.node (o_137 P) (W.BT.node (o_203 P) (W.BT.node (o_335 P) W.BT.nil W.BT.nil) (W.BT.node (o_471 P) W.BT.nil W.BT.nil)) (W.BT.node (o_271 P) (W.BT.node (o_405 P) W.BT.nil W.BT.nil) W.BT.nil))) (W.BT.node (o_87 P) (W.BT.node (o_119 P) (W.BT.node (o_187 P) (W.BT.node (o_319 P) W.BT.nil W.BT.nil) (W.BT.node (o_455 P) W.BT.nil W.BT.nil)) (W.BT.node (o_253 P) (W.BT.node (o_387 P) W.BT.nil W.BT.nil) W.BT.nil)) (W.BT.node (o_153 P) (W.BT.node (o_221 P) (W.BT.node (o_351 P) W.BT.nil W.BT.nil) W.BT.nil) (W.BT.node (o_287 P) (W.BT.node (o_421 P) W.BT.nil W.BT.nil) W.BT.nil)))) (W.BT.node (o_63 P) (W.BT.node (o_79 P) (W.BT.node (o_111 P) (W.BT.node (o_177 P) (W.BT.node (o_311 P) W.BT.nil W.BT.nil) (W.BT.node (o_445 P) W.BT.nil W.BT.nil)) (W.BT.node (o_245 P) (W.BT.node (o_379 P) W.BT.nil W.BT.nil) W.BT.nil)) (W.BT.node (o_145 P) (W.BT.node (o_213 P) (W.BT.node (o_343 P) W.BT.nil W.BT.nil) W.BT.nil) (W.BT.node (o_279 P) (W.BT.node (o_413 P) W.BT.nil W.BT.nil) W.BT.nil))) (W.BT.node (o_95 P) (W.BT.node (o_127 P) (W.BT.node (o_195 P) (W.BT.node (o_327 P) W.BT.nil W.BT.nil) (W.BT.node (o_463 P) W.BT.nil W.BT.nil)) (W.BT.node (o_261 P) (W.BT.node (o_395 P) W.BT.nil W.BT.nil) W.BT.nil)) (W.BT.node (o_161 P) (W.BT.node (o_229 P) (W.BT.node (o_361 P) W.BT.nil W.BT.nil) W.BT.nil) (W.BT.node (o_295 P) (W.BT.node (o_429 P) W.BT.nil W.BT.nil) W.BT.nil)))))) (W.BT.node (boot_o_5 P) (W.BT.node (boot_o_9 P) (W.BT.node (o_53 P) (W.BT.node (o_69 P) (W.BT.node (o_101 P) (W.BT.node (o_167 P) (W.BT.node (o_301 P) W.BT.nil W.BT.nil) (W.BT.node (o_435 P) W.BT.nil W.BT.nil)) (W.BT.node (o_235 P) (W.BT.node (o_367 P) W.BT.nil W.BT.nil) W.BT.nil)) (W.BT.node (o_133 P) (W.BT.node (o_201 P) (W.BT.node (o_333 P) W.BT.nil W.BT.nil) (W.BT.node (o_469 P) W.BT.nil W.BT.nil)) (W.BT.node (o_267 P) (W.BT.node (o_403 P) W.BT.nil W.BT.nil) W.BT.nil))) (W.BT.node (o_85 P) (W.BT.node (o_117 P) (W.BT.node (o_185 P) (W.BT.node (o_317 P) W.BT.nil W.BT.nil) (W.BT.node (o_453 P) W.BT.nil W.BT.nil)) (W.BT.node (o_251 P) (W.BT.node (o_385 P) W.BT.nil W.BT.nil) W.BT.nil)) (W.BT.node (o_151 P) (W.BT.node (o_219 P) (W.BT.node (o_349 P) W.BT.nil W.BT.nil) W.BT.nil) (W.BT.node (o_285 P) (W.BT.node (o_419 P) W.BT.nil W.BT.nil) W.BT.nil)))) (W.BT.node (o_61 P) (W.BT.node (o_77 P) (W.BT.node (o_109 P) (W.BT.node (o_175 P) (W.BT.node (o_309 P) W.BT.nil W.BT.nil) (W.BT.node (o_443 P) W.BT.nil W.BT.nil)) (W.BT.node (o_243 P) (W.BT.node (o_377 P) W.BT.nil W.BT.nil) W.BT.nil)) (W.BT.node (o_143 P) (W.BT.node (o_209 P) (W.BT.node (o_341 P) W.BT.nil W.BT.nil) (W.BT.node (o_477 P) W.BT.nil W.BT.nil)) (W.BT.node (o_277 P) (W.BT.node (o_411 P) W.BT.nil W.BT.nil) W.BT.nil))) (W.BT.node (o_93 P) (W.BT.node (o_125 P) (W.BT.node (o_193 P) (W.BT.node (o_325 P) W.BT.nil W.BT.nil) (W.BT.node (o_461 P) W.BT.nil W.BT.nil)) (W.BT.node (o_259 P) (W.BT.node (o_393 P) W.BT.nil W.BT.nil) W.BT.nil)) (W.BT.node (o_159 P) (W.BT.node (o_227 P) (W.BT.node (o_359 P) W.BT.nil W.BT.nil) W.BT.nil) (W.BT.node (o_293 P) (W.BT.node (o_427 P) W.BT.nil W.BT.nil) W.BT.nil))))) (W.BT.node (o_45 P) (W.BT.node (o_57 P) (W.BT.node (o_73 P) (W.BT.node (o_105 P) (W.BT.node (o_171 P) (W.BT.node (o_305 P) W.BT.nil W.BT.nil) (W.BT.node (o_439 P) W.BT.nil W.BT.nil)) (W.BT.node (o_239 P) (W.BT.node (o_371 P) W.BT.nil W.BT.nil) W.BT.nil)) (W.BT.node (o_139 P) (W.BT.node (o_205 P) (W.BT.node (o_337 P) W.BT.nil W.BT.nil) (W.BT.node (o_473 P) W.BT.nil W.BT.nil)) (W.BT.node (o_273 P) (W.BT.node (o_407 P) W.BT.nil W.BT.nil) W.BT.nil))) (W.BT.node (o_89 P) (W.BT.node (o_121 P) (W.BT.node (o_189 P) (W.BT.node (o_321 P) W.BT.nil W.BT.nil) (W.BT.node (o_457 P) W.BT.nil W.BT.nil)) (W.BT.node (o_255 P) (W.BT.node (o_389 P) W.BT.nil W.BT.nil) W.BT.nil)) (W.BT.node (o_155 P) (W.BT.node (o_223 P) (W.BT.node (o_355 P) W.BT.nil W.BT.nil) W.BT.nil) (W.BT.node (o_289 P) (W.BT.node (o_423 P) W.BT.nil W.BT.nil) W.BT.nil)))) (W.BT.node (o_65 P) (W.BT.node (o_81 P) (W.BT.node (o_113 P) (W.BT.node (o_181 P) (W.BT.node (o_313 P) W.BT.nil W.BT.nil) (W.BT.node (o_447 P) W.BT.nil W.BT.nil)) (W.BT.node (o_247 P) (W.BT.node (o_381 P) W.BT.nil W.BT.nil) W.BT.nil)) (W.BT.node (o_147 P) (W.BT.node (o_215 P) (W.BT.node (o_345 P) W.BT.nil W.BT.nil) W.BT.nil) (W.BT.node (o_281 P) (W.BT.node (o_415 P) W.BT.nil W.BT.nil) W.BT.nil))) (W.BT.node (o_97 P) (W.BT.node (o_129 P) (W.BT.node (o_197 P) (W.BT.node (o_329 P) W.BT.nil W.BT.nil) (W.BT.node (o_465 P) W.BT.nil W.BT.nil)) (W.BT.node (o_263 P) (W.BT.node (o_397 P) W.BT.nil W.BT.nil) W.BT.nil)) (W.BT.node (o_163 P) (W.BT.node (o_231 P) (W.BT.node (o_363 P) W.BT.nil W.BT.nil) W.BT.nil) (W.BT.node (o_297 P) (W.BT.node (o_431 P) W.BT.nil W.BT.nil) W.BT.nil))))))) (W.BT.node (boot_o_2 P) (W.BT.node (boot_o_4 P) (W.BT.node (boot_o_8 P) (W.BT.node (o_52 P) (W.BT.node (o_68 P) (W.BT.node (o_100 P) (W.BT.node (o_166 P) (W.BT.node (o_300 P) W.BT.nil W.BT.nil) (W.BT.node (o_434 P) W.BT.nil W.BT.nil)) (W.BT.node (o_234 P) (W.BT.node (o_366 P) W.BT.nil W.BT.nil) W.BT.nil)) (W.BT.node (o_132 P) (W.BT.node (o_200 P) (W.BT.node (o_332 P) W.BT.nil W.BT.nil) (W.BT.node (o_468 P) W.BT.nil W.BT.nil)) (W.BT.node (o_266 P) (W.BT.node (o_402 P) W.BT.nil W.BT.nil) W.BT.nil))) (W.BT.node (o_84 P) (W.BT.node (o_116 P) (W.BT.node (o_184 P) (W.BT.node (o_316 P) W.BT.nil W.BT.nil) (W.BT.node (o_452 P) W.BT.nil W.BT.nil)) (W.BT.node (o_250 P) (W.BT.node (o_384 P) W.BT.nil W.BT.nil) W.BT.nil)) (W.BT.node (o_150 P) (W.BT.node (o_218 P) (W.BT.node (o_348 P) W.BT.nil W.BT.nil) W.BT.nil) (W.BT.node (o_284 P) (W.BT.node (o_418 P) W.BT.nil W.BT.nil) W.BT.nil)))) (W.BT.node (o_60 P) (W.BT.node (o_76 P) (W.BT.node (o_108 P) (W.BT.node (o_174 P) (W.BT.node (o_308 P) W.BT.nil W.BT.nil) (W.BT.node (o_442 P) W.BT.nil W.BT.nil)) (W.BT.node (o_242 P) (W.BT.node (o_374 P) W.BT.nil W.BT.nil) W.BT.nil)) (W.BT.node (o_142 P) (W.BT.node (o_208 P) (W.BT.node (o_340 P) W.BT.nil W.BT.nil) (W.BT.node (o_476 P) W.BT.nil W.BT.nil)) (W.BT.node (o_276 P) (W.BT.node (o_410 P) W.BT.nil W.BT.nil) W.BT.nil))) (W.BT.node (o_92 P) (W.BT.node (o_124 P) (W.BT.node (o_192 P) (W.BT.node (o_324 P) W.BT.nil W.BT.nil) (W.BT.node (o_460 P) W.BT.nil W.BT.nil)) (W.BT.node (o_258 P) (W.BT.node (o_392 P) W.BT.nil W.BT.nil) W.BT.nil)) (W.BT.node (o_158 P) (W.BT.node (o_226 P) (W.BT.node (o_358 P) W.BT.nil W.BT.nil) W.BT.nil) (W.BT.node (o_292 P) (W.BT.node (o_426 P) W.BT.nil W.BT.nil) W.BT.nil))))) (W.BT.node (o_451 P) (W.BT.node (o_56 P) (W.BT.node (o_72 P) (W.BT.node (o_104 P) (W.BT.node (o_170 P) (W.BT.node (o_304 P) W.BT.nil W.BT.nil) (W.BT.node (o_438 P) W.BT.nil W.BT.nil)) (W.BT.node (o_238 P) (W.BT.node (o_370 P) W.BT.nil W.BT.nil) W.BT.nil)) (W.BT.node (o_138 P) (W.BT.node (o_204 P) (W.BT.node (o_336 P) W.BT.nil W.BT.nil) (W.BT.node (o_472 P) W.BT.nil W.BT.nil)) (W.BT.node (o_272 P) (W.BT.node (o_406 P) W.BT.nil W.BT.nil) W.BT.nil))) (W.BT.node (o_88 P) (W.BT.node (o_120 P) (W.BT.node (o_188 P) (W.BT.node (o_320 P) W.BT.nil W.BT.nil) (W.BT.node (o_456 P) W.BT.nil W.BT.nil)) (W.BT.node (o_254 P) (W.BT.node (o_388 P) W.BT.nil W.BT.nil) W.BT.nil)) (W.BT.node (o_154 P) (W.BT.node (o_222 P) (W.BT.node (o_354 P) W.BT.nil W.BT.nil) W.BT.nil) (W.BT.node (o_288 P) (W.BT.node (o_422 P) W.BT.nil W.BT.nil) W.BT.nil)))) (W.BT.node (o_64 P) (W.BT.node (o_80 P) (W.BT.node (o_112 P) (W.BT.node (o_178 P) (W.BT.node (o_312 P) W.BT.nil W.BT.nil) (W.BT.node (o_446 P) W.BT.nil W.BT.nil)) (W.BT.node (o_246 P) (W.BT.node (o_380 P) W.BT.nil W.BT.nil) W.BT.nil)) (W.BT.node (o_146 P) (W.BT.node (o_214 P) (W.BT.node (o_344 P) W.BT.nil W.BT.nil) W.BT.nil) (W.BT.node (o_280 P) (W.BT.node (o_414 P) W.BT.nil W.BT.nil) W.BT.nil))) (W.BT.node (o_96 P) (W.BT.node (o_128 P) (W.BT.node (o_196 P) (W.BT.node (o_328 P) W.BT.nil W.BT.nil) (W.BT.node (o_464 P) W.BT.nil W.BT.nil)) (W.BT.node (o_262 P) (W.BT.node (o_396 P) W.BT.nil W.BT.nil) W.BT.nil)) (W.BT.node (o_162 P) (W.BT.node (o_230 P) (W.BT.node (o_362 P) W.BT.nil W.BT.nil) W.BT.nil) (W.BT.node (o_296 P) (W.BT.node (o_430 P) W.BT.nil W.BT.nil) W.BT.nil)))))) (W.BT.node (boot_o_6 P) (W.BT.node (boot_o_10 P) (W.BT.node (o_54 P) (W.BT.node (o_70 P) (W.BT.node (o_102 P) (W.BT.node (o_168 P) (W.BT.node (o_302 P) W.BT.nil W.BT.nil) (W.BT.node (o_436 P) W.BT.nil W.BT.nil)) (W.BT.node (o_236 P) (W.BT.node (o_368 P) W.BT.nil W.BT.nil) W.BT.nil)) (W.BT.node (o_134 P) (W.BT.node (o_202 P) (W.BT.node (o_334 P) W.BT.nil W.BT.nil) (W.BT.node (o_470 P) W.BT.nil W.BT.nil)) (W.BT.node (o_270 P) (W.BT.node (o_404 P) W.BT.nil W.BT.nil) W.BT.nil))) (W.BT.node (o_86 P) (W.BT.node (o_118 P) (W.BT.node (o_186 P) (W.BT.node (o_318 P) W.BT.nil W.BT.nil) (W.BT.node (o_454 P) W.BT.nil W.BT.nil)) (W.BT.node (o_252 P) (W.BT.node (o_386 P) W.BT.nil W.BT.nil) W.BT.nil)) (W.BT.node (o_152 P) (W.BT.node (o_220 P) (W.BT.node (o_350 P) W.BT.nil W.BT.nil) W.BT.nil) (W.BT.node (o_286 P) (W.BT.node (o_420 P) W.BT.nil W.BT.nil) W.BT.nil)))) (W.BT.node (o_62 P) (W.BT.node (o_78 P) (W.BT.node (o_110 P) (W.BT.node (o_176 P) (W.BT.node (o_310 P) W.BT.nil W.BT.nil) (W.BT.node (o_444 P) W.BT.nil W.BT.nil)) (W.BT.node (o_244 P) (W.BT.node (o_378 P) W.BT.nil W.BT.nil) W.BT.nil)) (W.BT.node (o_144 P) (W.BT.node (o_212 P) (W.BT.node (o_342 P) W.BT.nil W.BT.nil) W.BT.nil) (W.BT.node (o_278 P) (W.BT.node (o_412 P) W.BT.nil W.BT.nil) W.BT.nil))) (W.BT.node (o_94 P) (W.BT.node (o_126 P) (W.BT.node (o_194 P) (W.BT.node (o_326 P) W.BT.nil W.BT.nil) (W.BT.node (o_462 P) W.BT.nil W.BT.nil)) (W.BT.node (o_260 P) (W.BT.node (o_394 P) W.BT.nil W.BT.nil) W.BT.nil)) (W.BT.node (o_160 P) (W.BT.node (o_228 P) (W.BT.node (o_360 P) W.BT.nil W.BT.nil) W.BT.nil) (W.BT.node (o_294 P) (W.BT.node (o_428 P) W.BT.nil W.BT.nil) W.BT.nil))))) (W.BT.node (o_46 P) (W.BT.node (o_58 P) (W.BT.node (o_74 P) (W.BT.node (o_106 P) (W.BT.node (o_172 P) (W.BT.node (o_306 P) W.BT.nil W.BT.nil) (W.BT.node (o_440 P) W.BT.nil W.BT.nil)) (W.BT.node (o_240 P) (W.BT.node (o_372 P) W.BT.nil W.BT.nil) W.BT.nil)) (W.BT.node (o_140 P) (W.BT.node (o_206 P) (W.BT.node (o_338 P) W.BT.nil W.BT.nil) (W.BT.node (o_474 P) W.BT.nil W.BT.nil)) (W.BT.node (o_274 P) (W.BT.node (o_408 P) W.BT.nil W.BT.nil) W.BT.nil))) (W.BT.node (o_90 P) (W.BT.node (o_122 P) (W.BT.node (o_190 P) (W.BT.node (o_322 P) W.BT.nil W.BT.nil) (W.BT.node (o_458 P) W.BT.nil W.BT.nil)) (W.BT.node (o_256 P) (W.BT.node (o_390 P) W.BT.nil W.BT.nil) W.BT.nil)) (W.BT.node (o_156 P) (W.BT.node (o_224 P) (W.BT.node (o_356 P) W.BT.nil W.BT.nil) W.BT.nil) (W.BT.node (o_290 P) (W.BT.node (o_424 P) W.BT.nil W.BT.nil) W.BT.nil)))) (W.BT.node (o_66 P) (W.BT.node (o_82 P) (W.BT.node (o_114 P) (W.BT.node (o_182 P) (W.BT.node (o_314 P) W.BT.nil W.BT.nil) (W.BT.node (o_448 P) W.BT.nil W.BT.nil)) (W.BT.node (o_248 P) (W.BT.node (o_382 P) W.BT.nil W.BT.nil) W.BT.nil)) (W.BT.node (o_148 P) (W.BT.node (o_216 P) (W.BT.node (o_346 P) W.BT.nil W.BT.nil) W.BT.nil) (W.BT.node (o_282 P) (W.BT.node (o_416 P) W.BT.nil W.BT.nil) W.BT.nil))) (W.BT.node (o_98 P) (W.BT.node (o_130 P) (W.BT.node (o_198 P) (W.BT.node (o_330 P) W.BT.nil W.BT.nil) (W.BT.node (o_466 P) W.BT.nil W.BT.nil)) (W.BT.node (o_264 P) (W.BT.node (o_400 P) W.BT.nil W.BT.nil) W.BT.nil)) (W.BT.node (o_164 P) (W.BT.node (o_232 P) (W.BT.node (o_364 P) W.BT.nil W.BT.nil) W.BT.nil) (W.BT.node (o_298 P) (W.BT.node (o_432 P) W.BT.nil W.BT.nil) W.BT.nil)))))))))
noncomputable def tree_47 : Params → BT := (fun P => (W.BT.node (boot_o_0 P) (W.BT.node (boot_o_1 P) (W.BT.node (boot_o_3 P) (W.BT.node (boot_o_7 P) W.BT.nil W.BT.nil) (W.BT.node (o_43 P) W.BT.nil W.BT.nil)) (W.BT.node (boot_o_5 P) (W.BT.node (boot_o_9 P) W.BT.nil W.BT.nil) (W.BT.node (o_45 P) W.BT.nil W.BT.nil))) (W.BT.node (boot_o_2 P) (W.BT.node (boot_o_4 P) (W.BT.node (boot_o_8 P) W.BT.nil W.BT.nil) (W.BT.node (o_44 P) W.BT.nil W.BT.nil)) (W.BT.node (boot_o_6 P) (W.BT.node (boot_o_10 P) W.BT.nil W.BT.nil) (W.BT.node (o_46 P) W.BT.nil W.BT.nil)))))
noncomputable def tree_397 : Params → BT := (fun P => (W.BT.node (boot_o_0 P) (W.BT.node (boot_o_1 P) (W.BT.node (o_375 P) (W.BT.node (boot_o_7 P) (W.BT.node (o_51 P) (W.BT.node (o_67 P) (W.BT.node (o_99 P) (W.BT.node (o_165 P) (W.BT.node (o_299 P) W.BT.nil W.BT.nil) W.BT.nil) (W.BT.node (o_233 P) (W.BT.node (o_365 P) W.BT.nil W.BT.nil) W.BT.nil)) (W.BT.node (o_131 P) (W.BT.node (o_199 P) (W.BT.node (o_331 P) W.BT.nil W.BT.nil) W.BT.nil) (W.BT.node (o_265 P) W.BT.nil W.BT.nil))) (W.BT.node (o_83 P) (W.BT.node (o_115 P) (W.BT.node (o_183 P) (W.BT.node (o_315 P) W.BT.nil W.BT.nil) W.BT.nil) (W.BT.node (o_249 P) (W.BT.node (o_383 P) W.BT.nil W.BT.nil) W.BT.nil)) (W.BT.node (o_149 P) (W.BT.node (o_217 P) (W.BT.node (o_347 P) W.BT.nil W.BT.nil) W.BT.nil) (W.BT.node (o_283 P) W.BT.nil W.BT.nil)))) (W.BT.node (o_59 P) (W.BT.node (o_75 P) (W.BT.node (o_107 P) (W.BT.node (o_173 P) (W.BT.node (o_307 P) W.BT.nil W.BT.nil) W.BT.nil) (W.BT.node (o_241 P) (W.BT.node (o_373 P) W.BT.nil W.BT.nil) W.BT.nil)) (W.BT.node (o_141 P) (W.BT.node (o_207 P) (W.BT.node (o_339 P) W.BT.nil W.BT.nil) W.BT.nil) (W.BT.node (o_275 P) W.BT.nil W.BT.nil))) (W.BT.node (o_91 P) (W.BT.node (o_123 P) (W.BT.node (o_191 P) (W.BT.node (o_323 P) W.BT.nil W.BT.nil) W.BT.nil) (W.BT.node (o_257 P) (W.BT.node (o_391 P) W.BT.nil W.BT.nil) W.BT.nil)) (W.BT.node (o_157 P) (W.BT.node (o_225 P) (W.BT.node (o_357 P) W.BT.nil W.BT.nil) W.BT.nil) (W.BT.node (o_291 P) W.BT.nil W.BT.nil))))) (W.BT.node (o_43 P) (W.BT.node (o_55 P) (W.BT.node (o_71 P) (W.BT.node (o_103 P) (W.BT.node (o_169 P) (W.BT.node (o_303 P) W.BT.nil W.BT.nil) W.BT.nil) (W.BT.node (o_237 P) (W.BT.node (o_369 P) W.BT.nil W.BT.nil) W.BT.nil)) (W.BT.node (o_137 P) (W.BT.node (o_203 P) (W.BT.node (o_335 P) W.BT.nil W.BT.nil) W.BT.nil) (W.BT.node (o_271 P) W.BT.nil W.BT.nil))) (W.BT.node (o_87 P) (W.BT.node (o_119 P) (W.BT.node (o_187 P) (W.BT.node (o_319 P) W.BT.nil W.BT.nil) W.BT.nil) (W.BT.node (o_253 P) (W.BT.node (o_387 P) W.BT.nil W.BT.nil) W.BT.nil)) (W.BT.node (o_153 P) (W.BT.node (o_221 P) (W.BT.node (o_351 P) W.BT.nil W.BT.nil) W.BT.nil) (W.BT.node (o_287 P) W.BT.nil W.BT.nil)))) (W.BT.node (o_63 P) (W.BT.node (o_79 P) (W.BT.node (o_111 P) (W.BT.node (o_177 P) (W.BT.node (o_311 P) W.BT.nil W.BT.nil) W.BT.nil) (W.BT.node (o_245 P) (W.BT.node (o_379 P) W.BT.nil W.BT.nil) W.BT.nil)) (W.BT.node (o_145 P) (W.BT.node (o_213 P) (W.BT.node (o_343 P) W.BT.nil W.BT.nil) W.BT.nil) (W.BT.node (o_279 P) W.BT.nil W.BT.nil))) (W.BT.node (o_95 P) (W.BT.node (o_127 P) (W.BT.node (o_195 P) (W.BT.node (o_327 P) W.BT.nil W.BT.nil) W.BT.nil) (W.BT.node (o_261 P) (W.BT.node (o_395 P) W.BT.nil W.BT.nil) W.BT.nil)) (W.BT.node (o_161 P) (W.BT.node (o_229 P) (W.BT.node (o_361 P) W.BT.nil W.BT.nil) W.BT.nil) (W.BT.node (o_295 P) W.BT.nil W.BT.nil)))))) (W.BT.node (boot_o_5 P) (W.BT.node (boot_o_9 P) (W.BT.node (o_53 P) (W.BT.node (o_69 P) (W.BT.node (o_101 P) (W.BT.node (o_167 P) (W.BT.node (o_301 P) W.BT.nil W.BT.nil) W.BT.nil) (W.BT.node (o_235 P) (W.BT.node (o_367 P) W.BT.nil W.BT.nil) W.BT.nil)) (W.BT.node (o_133 P) (W.BT.node (o_201 P) (W.BT.node (o_333 P) W.BT.nil W.BT.nil) W.BT.nil) (W.BT.node (o_267 P) W.BT.nil W.BT.nil))) (W.BT.node (o_85 P) (W.BT.node (o_117 P) (W.BT.node (o_185 P) (W.BT.node (o_317 P) W.BT.nil W.BT.nil) W.BT.nil) (W.BT.node (o_251 P) (W.BT.node (o_385 P) W.BT.nil W.BT.nil) W.BT.nil)) (W.BT.node (o_151 P) (W.BT.node (o_219 P) (W.BT.node (o_349 P) W.BT.nil W.BT.nil) W.BT.nil) (W.BT.node (o_285 P) W.BT.nil W.BT.nil)))) (W.BT.node (o_61 P) (W.BT.node (o_77 P) (W.BT.node (o_109 P) (W.BT.node (o_175 P) (W.BT.node (o_309 P) W.BT.nil W.BT.nil) W.BT.nil) (W.BT.node (o_243 P) (W.BT.node (o_377 P) W.BT.nil W.BT.nil) W.BT.nil)) (W.BT.node (o_143 P) (W.BT.node (o_209 P) (W.BT.node (o_341 P) W.BT.nil W.BT.nil) W.BT.nil) (W.BT.node (o_277 P) W.BT.nil W.BT.nil))) (W.BT.node (o_93 P) (W.BT.node (o_125 P) (W.BT.node (o_193 P) (W.BT.node (o_325 P) W.BT.nil W.BT.nil) W.BT.nil) (W.BT.node (o_259 P) (W.BT.node (o_393 P) W.BT.nil W.BT.nil) W.BT.nil)) (W.BT.node (o_159 P) (W.BT.node (o_227 P) (W.BT.node (o_359 P) W.BT.nil W.BT.nil) W.BT.nil) (W.BT.node (o_293 P) W.BT.nil W.BT.nil))))) (W.BT.node (o_45 P) (W.BT.node (o_57 P) (W.BT.node (o_73 P) (W.BT.node (o_105 P) (W.BT.node (o_171 P) (W.BT.node (o_305 P) W.BT.nil W.BT.nil) W.BT.nil) (W.BT.node (o_239 P) (W.BT.node (o_371 P) W.BT.nil W.BT.nil) W.BT.nil)) (W.BT.node (o_139 P) (W.BT.node (o_205 P) (W.BT.node (o_337 P) W.BT.nil W.BT.nil) W.BT.nil) (W.BT.node (o_273 P) W.BT.nil W.BT.nil))) (W.BT.node (o_89 P) (W.BT.node (o_121 P) (W.BT.node (o_189 P) (W.BT.node (o_321 P) W.BT.nil W.BT.nil) W.BT.nil) (W.BT.node (o_255 P) (W.BT.node (o_389 P) W.BT.nil W.BT.nil) W.BT.nil)) (W.BT.node (o_155 P) (W.BT.node (o_223 P) (W.BT.node (o_355 P) W.BT.nil W.BT.nil) W.BT.nil) (W.BT.node (o_289 P) W.BT.nil W.BT.nil)))) (W.BT.node (o_65 P) (W.BT.node (o_81 P) (W.BT.node (o_113 P) (W.BT.node (o_181 P) (W.BT.node (o_313 P) W.BT.nil W.BT.nil) W.BT.nil) (W.BT.node (o_247 P) (W.BT.node (o_381 P) W.BT.nil W.BT.nil) W.BT.nil)) (W.BT.node (o_147 P) (W.BT.node (o_215 P) (W.BT.node (o_345 P) W.BT.nil W.BT.nil) W.BT.nil) (W.BT.node (o_281 P) W.BT.nil W.BT.nil))) (W.BT.node (o_97 P) (W.BT.node (o_129 P) (W.BT.node (o_197 P) (W.BT.node (o_329 P) W.BT.nil W.BT.nil) W.BT.nil) (W.BT.node (o_263 P) (W.BT.node (o_397 P) W.BT.nil W.BT.nil) W.BT.nil)) (W.BT.node (o_163 P) (W.BT.node (o_231 P) (W.BT.node (o_363 P) W.BT.nil W.BT.nil) W.BT.nil) (W.BT.node (o_297 P) W.BT.nil W.BT.nil))))))) (W.BT.node (boot_o_2 P) (W.BT.node (boot_o_4 P) (W.BT.node (boot_o_8 P) (W.BT.node (o_52 P) (W.BT.node (o_68 P) (W.BT.node (o_100 P) (W.BT.node (o_166 P) (W.BT.node (o_300 P) W.BT.nil W.BT.nil) W.BT.nil) (W.BT.node (o_234 P) (W.BT.node (o_366 P) W.BT.nil W.BT.nil) W.BT.nil)) (W.BT.node (o_132 P) (W.BT.node (o_200 P) (W.BT.node (o_332 P) W.BT.nil W.BT.nil) W.BT.nil) (W.BT.node (o_266 P) W.BT.nil W.BT.nil))) (W.BT.node (o_84 P) (W.BT.node (o_116 P) (W.BT.node (o_184 P) (W.BT.node (o_316 P) W.BT.nil W.BT.nil) W.BT.nil) (W.BT.node (o_250 P) (W.BT.node (o_384 P) W.BT.nil W.BT.nil) W.BT.nil)) (W.BT.node (o_150 P) (W.BT.node (o_218 P) (W.BT.node (o_348 P) W.BT.nil W.BT.nil) W.BT.nil) (W.BT.node (o_284 P) W.BT.nil W.BT.nil)))) (W.BT.node (o_60 P) (W.BT.node (o_76 P) (W.BT.node (o_108 P) (W.BT.node (o_174 P) (W.BT.node (o_308 P) W.BT.nil W.BT.nil) W.BT.nil) (W.BT.node (o_242 P) (W.BT.node (o_374 P) W.BT.nil W.BT.nil) W.BT.nil)) (W.BT.node (o_142 P) (W.BT.node (o_208 P) (W.BT.node (o_340 P) W.BT.nil W.BT.nil) W.BT.nil) (W.BT.node (o_276 P) W.BT.nil W.BT.nil))) (W.BT.node (o_92 P) (W.BT.node (o_124 P) (W.BT.node (o_192 P) (W.BT.node (o_324 P) W.BT.nil W.BT.nil) W.BT.nil) (W.BT.node (o_258 P) (W.BT.node (o_392 P) W.BT.nil W.BT.nil) W.BT.nil)) (W.BT.node (o_158 P) (W.BT.node (o_226 P) (W.BT.node (o_358 P) W.BT.nil W.BT.nil) W.BT.nil) (W.BT.node (o_292 P) W.BT.nil W.BT.nil))))) (W.BT.node (o_376 P) (W.BT.node (o_56 P) (W.BT.node (o_72 P) (W.BT.node (o_104 P) (W.BT.node (o_170 P) (W.BT.node (o_304 P) W.BT.nil W.BT.nil) W.BT.nil) (W.BT.node (o_238 P) (W.BT.node (o_370 P) W.BT.nil W.BT.nil) W.BT.nil)) (W.BT.node (o_138 P) (W.BT.node (o_204 P) (W.BT.node (o_336 P) W.BT.nil W.BT.nil) W.BT.nil) (W.BT.node (o_272 P) W.BT.nil W.BT.nil))) (W.BT.node (o_88 P) (W.BT.node (o_120 P) (W.BT.node (o_188 P) (W.BT.node (o_320 P) W.BT.nil W.BT.nil) W.BT.nil) (W.BT.node (o_254 P) (W.BT.node (o_388 P) W.BT.nil W.BT.nil) W.BT.nil)) (W.BT.node (o_154 P) (W.BT.node (o_222 P) (W.BT.node (o_354 P) W.BT.nil W.BT.nil) W.BT.nil) (W.BT.node (o_288 P) W.BT.nil W.BT.nil)))) (W.BT.node (o_64 P) (W.BT.node (o_80 P) (W.BT.node (o_112 P) (W.BT.node (o_178 P) (W.BT.node (o_312 P) W.BT.nil W.BT.nil) W.BT.nil) (W.BT.node (o_246 P) (W.BT.node (o_380 P) W.BT.nil W.BT.nil) W.BT.nil)) (W.BT.node (o_146 P) (W.BT.node (o_214 P) (W.BT.node (o_344 P) W.BT.nil W.BT.nil) W.BT.nil) (W.BT.node (o_280 P) W.BT.nil W.BT.nil))) (W.BT.node (o_96 P) (W.BT.node (o_128 P) (W.BT.node (o_196 P) (W.BT.node (o_328 P) W.BT.nil W.BT.nil) W.BT.nil) (W.BT.node (o_262 P) (W.BT.node (o_396 P) W.BT.nil W.BT.nil) W.BT.nil)) (W.BT.node (o_162 P) (W.BT.node (o_230 P) (W.BT.node (o_362 P) W.BT.nil W.BT.nil) W.BT.nil) (W.BT.node (o_296 P) W.BT.nil W.BT.nil)))))) (W.BT.node (boot_o_6 P) (W.BT.node (boot_o_10 P) (W.BT.node (o_54 P) (W.BT.node (o_70 P) (W.BT.node (o_102 P) (W.BT.node (o_168 P) (W.BT.node (o_302 P) W.BT.nil W.BT.nil) W.BT.nil) (W.BT.node (o_236 P) (W.BT.node (o_368 P) W.BT.nil W.BT.nil) W.BT.nil)) (W.BT.node (o_134 P) (W.BT.node (o_202 P) (W.BT.node (o_334 P) W.BT.nil W.BT.nil) W.BT.nil) (W.BT.node (o_270 P) W.BT.nil W.BT.nil))) (W.BT.node (o_86 P) (W.BT.node (o_118 P) (W.BT.node (o_186 P) (W.BT.node (o_318 P) W.BT.nil W.BT.nil) W.BT.nil) (W.BT.node (o_252 P) (W.BT.node (o_386 P) W.BT.nil W.BT.nil) W.BT.nil)) (W.BT.node (o_152 P) (W.BT.node (o_220 P) (W.BT.node (o_350 P) W.BT.nil W.BT.nil) W.BT.nil) (W.BT.node (o_286 P) W.BT.nil W.BT.nil)))) (W.BT.node (o_62 P) (W.BT.node (o_78 P) (W.BT.node (o_110 P) (W.BT.node (o_176 P) (W.BT.node (o_310 P) W.BT.nil W.BT.nil) W.BT.nil) (W.BT.node (o_244 P) (W.BT.node (o_378 P) W.BT.nil W.BT.nil) W.BT.nil)) (W.BT.node (o_144 P) (W.BT.node (o_212 P) (W.BT.node (o_342 P) W.BT.nil W.BT.nil) W.BT.nil) (W.BT.node (o_278 P) W.BT.nil W.BT.nil))) (W.BT.node (o_94 P) (W.BT.node (o_126 P) (W.BT.node (o_194 P) (W.BT.node (o_326 P) W.BT.nil W.BT.nil) W.BT.nil) (W.BT.node (o_260 P) (W.BT.node (o_394 P) W.BT.nil W.BT.nil) W.BT.nil)) (W.BT.node (o_160 P) (W.BT.node (o_228 P) (W.BT.node (o_360 P) W.BT.nil W.BT.nil) W.BT.nil) (W.BT.node (o_294 P) W.BT.nil W.BT.nil))))) (W.BT.node (o_46 P) (W.BT.node (o_58 P) (W.BT.node (o_74 P) (W.BT.node (o_106 P) (W.BT.node (o_172 P) (W.BT.node (o_306 P) W.BT.nil W.BT.nil) W.BT.nil) (W.BT.node (o_240 P) (W.BT.node (o_372 P) W.BT.nil W.BT.nil) W.BT.nil)) (W.BT.node (o_140 P) (W.BT.node (o_206 P) (W.BT.node (o_338 P) W.BT.nil W.BT.nil) W.BT.nil) (W.BT.node (o_274 P) W.BT.nil W.BT.nil))) (W.BT.node (o_90 P) (W.BT.node (o_122 P) (W.BT.node (o_190 P) (W.BT.node (o_322 P) W.BT.nil W.BT.nil) W.BT.nil) (W.BT.node (o_256 P) (W.BT.node (o_390 P) W.BT.nil W.BT.nil) W.BT.nil)) (W.BT.node (o_156 P) (W.BT.node (o_224 P) (W.BT.node (o_356 P) W.BT.nil W.BT.nil) W.BT.nil) (W.BT.node (o_290 P) W.BT.nil W.BT.nil)))) (W.BT.node (o_66 P) (W.BT.node (o_82 P) (W.BT.node (o_114 P) (W.BT.node (o_182 P) (W.BT.node (o_314 P) W.BT.nil W.BT.nil) W.BT.nil) (W.BT.node (o_248 P) (W.BT.node (o_382 P) W.BT.nil W.BT.nil) W.BT.nil)) (W.BT.node (o_148 P) (W.BT.node (o_216 P) (W.BT.node (o_346 P) W.BT.nil W.BT.nil) W.BT.nil) (W.BT.node (o_282 P) W.BT.nil W.BT.nil))) (W.BT.node (o_98 P) (W.BT.node (o_130 P) (W.BT.node (o_198 P) (W.BT.node (o_330 P) W.BT.nil W.BT.nil) W.BT.nil) (W.BT.node (o_264 P) W.BT.nil W.BT.nil)) (W.BT.node (o_164 P) (W.BT.node (o_232 P) (W.BT.node (o_364 P) W.BT.nil W.BT.nil) W.BT.nil) (W.BT.node (o_298 P) W.BT.nil W.BT.nil)))))))))
noncomputable def heap_46 : Params → Heap := (fun P => ⟨(Array.mk [(boot_o_0 P), (boot_o_1 P), (boot_o_2 P), (boot_o_3 P), (boot_o_4 P), (boot_o_5 P), (boot_o_6 P), (boot_o_7 P), (boot_o_8 P), (boot_o_9 P), (boot_o_10 P), (o_43 P), (o_44 P), (o_45 P), (o_46 P)]), {}⟩)
noncomputable def heap_478 : Params → Heap := (fun P => ⟨(Array.mk [(boot_o_0 P), (boot_o_1 P), (boot_o_2 P), (o_450 P), (boot_o_4 P), (boot_o_5 P), (boot_o_6 P), (boot_o_7 P), (boot_o_8 P), (boot_o_9 P), (boot_o_10 P), (o_43 P), (o_451 P), (o_45 P), (o_46 P), (o_51 P), (o_52 P), (o_53 P), (o_54 P), (o_55 P), (o_56 P), (o_57 P), (o_58 P), (o_59 P), (o_60 P), (o_61 P), (o_62 P), (o_63 P), (o_64 P), (o_65 P), (o_66 P), (o_67 P), (o_68 P), (o_69 P), (o_70 P), (o_71 P), (o_72 P), (o_73 P), (o_74 P), (o_75 P), (o_76 P), (o_77 P), (o_78 P), (o_79 P), (o_80 P), (o_81 P), (o_82 P), (o_83 P), (o_84 P), (o_85 P), (o_86 P), (o_87 P), (o_88 P), (o_89 P), (o_90 P), (o_91 P), (o_92 P), (o_93 P), (o_94 P), (o_95 P), (o_96 P), (o_97 P), (o_98 P), (o_99 P), (o_100 P), (o_101 P), (o_102 P), (o_103 P), (o_104 P), (o_105 P), (o_106 P), (o_107 P), (o_108 P), (o_109 P), (o_110 P), (o_111 P), (o_112 P), (o_113 P), (o_114 P), (o_115 P), (o_116 P), (o_117 P), (o_118 P), (o_119 P), (o_120 P), (o_121 P), (o_122 P), (o_123 P), (o_124 P), (o_125 P), (o_126 P), (o_127 P), (o_128 P), (o_129 P), (o_130 P), (o_131 P), (o_132 P), (o_133 P), (o_134 P), (o_137 P), (o_138 P), (o_139 P), (o_140 P), (o_141 P), (o_142 P), (o_143 P), (o_144 P), (o_145 P), (o_146 P), (o_147 P), (o_148 P), (o_149 P), (o_150 P), (o_151 P), (o_152 P), (o_153 P), (o_154 P), (o_155 P), (o_156 P), (o_157 P), (o_158 P), (o_159 P), (o_160 P), (o_161 P), (o_162 P), (o_163 P), (o_164 P), (o_165 P), (o_166 P), (o_167 P), (o_168 P), (o_169 P), (o_170 P), (o_171 P), (o_172 P), (o_173 P), (o_174 P), (o_175 P), (o_176 P), (o_177 P), (o_178 P), (o_181 P), (o_182 P), (o_183 P), (o_184 P), (o_185 P), (o_186 P), (o_187 P), (o_188 P), (o_189 P), (o_190 P), (o_191 P), (o_192 P), (o_193 P), (o_194 P), (o_195 P), (o_196 P), (o_197 P), (o_198 P), (o_199 P), (o_200 P), (o_201 P), (o_202 P), (o_203 P), (o_204 P), (o_205 P), (o_206 P), (o_207 P), (o_208 P), (o_209 P), (o_212 P), (o_213 P), (o_214 P), (o_215 P), (o_216 P), (o_217 P), (o_218 P), (o_219 P), (o_220 P), (o_221 P), (o_222 P), (o_223 P), (o_224 P), (o_225 P), (o_226 P), (o_227 P), (o_228 P), (o_229 P), (o_230 P), (o_231 P), (o_232 P), (o_233 P), (o_234 P), (o_235 P), (o_236 P), (o_237 P), (o_238 P), (o_239 P), (o_240 P), (o_241 P), (o_242 P), (o_243 P), (o_244 P), (o_245 P), (o_246 P), (o_247 P), (o_248 P), (o_249 P), (o_250 P), (o_251 P), (o_252 P), (o_253 P), (o_254 P), (o_255 P), (o_256 P), (o_257 P), (o_258 P), (o_259 P), (o_260 P), (o_261 P), (o_262 P), (o_263 P), (o_264 P), (o_265 P), (o_266 P), (o_267 P), (o_270 P), (o_271 P), (o_272 P), (o_273 P), (o_274 P), (o_275 P), (o_276 P), (o_277 P), (o_278 P), (o_279 P), (o_280 P), (o_281 P), (o_282 P), (o_283 P), (o_284 P), (o_285 P), (o_286 P), (o_287 P), (o_288 P), (o_289 P), (o_290 P), (o_291 P), (o_292 P), (o_293 P), (o_294 P), (o_295 P), (o_296 P), (o_297 P), (o_298 P), (o_299 P), (o_300 P), (o_301 P), (o_302 P), (o_303 P), (o_304 P), (o_305 P), (o_306 P), (o_307 P), (o_308 P), (o_309 P), (o_310 P), (o_311 P), (o_312 P), (o_313 P), (o_314 P), (o_315 P), (o_316 P), (o_317 P), (o_318 P), (o_319 P), (o_320 P), (o_321 P), (o_322 P), (o_323 P), (o_324 P), (o_325 P), (o_326 P), (o_327 P), (o_328 P), (o_329 P), (o_330 P), (o_331 P), (o_332 P), (o_333 P), (o_334 P), (o_335 P), (o_336 P), (o_337 P), (o_338 P), (o_339 P), (o_340 P), (o_341 P), (o_342 P), (o_343 P), (o_344 P), (o_345 P), (o_346 P), (o_347 P), (o_348 P), (o_349 P), (o_350 P), (o_351 P), (o_354 P), (o_355 P), (o_356 P), (o_357 P), (o_358 P), (o_359 P), (o_360 P), (o_361 P), (o_362 P), (o_363 P), (o_364 P), (o_365 P), (o_366 P), (o_367 P), (o_368 P), (o_369 P), (o_370 P), (o_371 P), (o_372 P), (o_373 P), (o_374 P), (o_377 P), (o_378 P), (o_379 P), (o_380 P), (o_381 P), (o_382 P), (o_383 P), (o_384 P), (o_385 P), (o_386 P), (o_387 P), (o_388 P), (o_389 P), (o_390 P), (o_391 P), (o_392 P), (o_393 P), (o_394 P), (o_395 P), (o_396 P), (o_397 P), (o_400 P), (o_401 P), (o_402 P), (o_403 P), (o_404 P), (o_405 P), (o_406 P), (o_407 P), (o_408 P), (o_409 P), (o_410 P), (o_411 P), (o_412 P), (o_413 P), (o_414 P), (o_415 P), (o_416 P), (o_417 P), (o_418 P), (o_419 P), (o_420 P), (o_421 P), (o_422 P), (o_423 P), (o_424 P), (o_425 P), (o_426 P), (o_427 P), (o_428 P), (o_429 P), (o_430 P), (o_431 P), (o_432 P), (o_433 P), (o_434 P), (o_435 P), (o_436 P), (o_437 P), (o_438 P), (o_439 P), (o_440 P), (o_441 P), (o_442 P), (o_443 P), (o_444 P), (o_445 P), (o_446 P), (o_447 P), (o_448 P), (o_449 P), (o_452 P), (o_453 P), (o_454 P), (o_455 P), (o_456 P), (o_457 P), (o_458 P), (o_459 P), (o_460 P), (o_461 P), (o_462 P), (o_463 P), (o_464 P), (o_465 P), (o_466 P), (o_467 P), (o_468 P), (o_469 P), (o_470 P), (o_471 P), (o_472 P), (o_473 P), (o_474 P), (o_475 P), (o_476 P), (o_477 P)]), {}⟩)
noncomputable def env_41 : Env := ⟨P0.main.scope, mainNs, mainNs, [], Str.empty, (none), (.ref 13), (some 14), 0⟩
noncomputable def sts_49 : List Stmt := part 0 15 P0.main.body
noncomputable def sts_135 : List Stmt := part 15 7 P0.main.body
noncomputable def sts_179 : List Stmt := part 22 3 P0.main.body
noncomputable def sts_210 : List Stmt := part 25 6 P0.main.body
noncomputable def sts_268 : List Stmt := part 31 12 P0.main.body
noncomputable def sts_352 : List Stmt := part 43 2 P0.main.body
noncomputable def sts_375 : List Stmt := part 45 1 P0.main.body
noncomputable def sts_398 : List Stmt := part 46 4 P0.main.body
noncomputable def sts_450 : List Stmt := part 50 4 P0.main.body
-- 54 statements
noncomputable def heap_39 : Params → Frag := fun P => (nat_lit 2, boot_o_2 P) :: (nat_lit 3, o_450 P) :: (nat_lit 15, o_51 P) :: (nat_lit 17, o_53 P) :: (nat_lit 18, o_54 P) :: (nat_lit 20, o_56 P) :: (nat_lit 21, o_57 P) :: (nat_lit 22, o_58 P) :: (nat_lit 24, o_60 P) :: (nat_lit 25, o_61 P) :: (nat_lit 27, o_63 P) :: (nat_lit 28, o_64 P) :: (nat_lit 29, o_65 P) :: (nat_lit 31, o_67 P) :: (nat_lit 32, o_68 P) :: (nat_lit 34, o_70 P) :: (nat_lit 35, o_71 P) :: (nat_lit 36, o_72 P) :: (nat_lit 38, o_74 P) :: (nat_lit 39, o_75 P) :: (nat_lit 41, o_77 P) :: (nat_lit 42, o_78 P) :: (nat_lit 43, o_79 P) :: (nat_lit 45, o_81 P) :: (nat_lit 46, o_82 P) :: (nat_lit 48, o_84 P) :: (nat_lit 49, o_85 P) :: (nat_lit 50, o_86 P) :: (nat_lit 52, o_88 P) :: (nat_lit 53, o_89 P) :: (nat_lit 55, o_91 P) :: (nat_lit 56, o_92 P) :: (nat_lit 57, o_93 P) :: (nat_lit 59, o_95 P) :: (nat_lit 60, o_96 P) :: (nat_lit 62, o_98 P) :: (nat_lit 63, o_99 P) :: (nat_lit 64, o_100 P) :: (nat_lit 66, o_102 P) :: (nat_lit 67, o_103 P) :: (nat_lit 69, o_105 P) :: (nat_lit 70, o_106 P) :: (nat_lit 71, o_107 P) :: (nat_lit 73, o_109 P) :: (nat_lit 74, o_110 P) :: (nat_lit 76, o_112 P) :: (nat_lit 77, o_113 P) :: (nat_lit 78, o_114 P) :: (nat_lit 80, o_116 P) :: (nat_lit 81, o_117 P) :: (nat_lit 83, o_119 P) :: (nat_lit 84, o_120 P) :: (nat_lit 85, o_121 P) :: (nat_lit 87, o_123 P) :: (nat_lit 88, o_124 P) :: (nat_lit 90, o_126 P) :: (nat_lit 91, o_127 P) :: (nat_lit 92, o_128 P) :: (nat_lit 94, o_130 P) :: (nat_lit 95, o_131 P) :: (nat_lit 97, o_133 P) :: (nat_lit 98, o_134 P) :: (nat_lit 99, o_137 P) :: (nat_lit 101, o_139 P) :: (nat_lit 102, o_140 P) :: (nat_lit 104, o_142 P) :: (nat_lit 105, o_143 P) :: (nat_lit 106, o_144 P) :: (nat_lit 108, o_146 P) :: (nat_lit 109, o_147 P) :: (nat_lit 111, o_149 P) :: (nat_lit 112, o_150 P) :: (nat_lit 113, o_151 P) :: (nat_lit 115, o_153 P) :: (nat_lit 116, o_154 P) :: (nat_lit 118, o_156 P) :: (nat_lit 119, o_157 P) :: (nat_lit 120, o_158 P) :: (nat_lit 122, o_160 P) :: (nat_lit 123, o_161 P) :: (nat_lit 125, o_163 P) :: (nat_lit 126, o_164 P) :: (nat_lit 127, o_165 P) :: (nat_lit 129, o_167 P) :: (nat_lit 130, o_168 P) :: (nat_lit 132, o_170 P) :: (nat_lit 133, o_171 P) :: (nat_lit 134, o_172 P) :: (nat_lit 136, o_174 P) :: (nat_lit 137, o_175 P) :: (nat_lit 139, o_177 P) :: (nat_lit 140, o_178 P) :: (nat_lit 148, o_188 P) :: (nat_lit 149, o_189 P) :: (nat_lit 151, o_191 P) :: (nat_lit 152, o_192 P) :: (nat_lit 154, o_194 P) :: (nat_lit 155, o_195 P) :: (nat_lit 156, o_196 P) :: (nat_lit 157, o_197 P) :: (nat_lit 158, o_198 P) :: (nat_lit 159, o_199 P) :: (nat_lit 160, o_200 P) :: (nat_lit 163, o_203 P) :: (nat_lit 165, o_205 P) :: (nat_lit 166, o_206 P) :: (nat_lit 168, o_208 P) :: (nat_lit 169, o_209 P) :: (nat_lit 177, o_219 P) :: (nat_lit 179, o_221 P) :: (nat_lit 180, o_222 P) :: (nat_lit 182, o_224 P) :: (nat_lit 183, o_225 P) :: (nat_lit 184, o_226 P) :: (nat_lit 185, o_227 P) :: (nat_lit 186, o_228 P) :: (nat_lit 187, o_229 P) :: (nat_lit 188, o_230 P) :: (nat_lit 191, o_233 P) :: (nat_lit 193, o_235 P) :: (nat_lit 194, o_236 P) :: (nat_lit 196, o_238 P) :: (nat_lit 197, o_239 P) :: (nat_lit 198, o_240 P) :: (nat_lit 200, o_242 P) :: (nat_lit 201, o_243 P) :: (nat_lit 203, o_245 P) :: (nat_lit 204, o_246 P) :: (nat_lit 205, o_247 P) :: (nat_lit 207, o_249 P) :: (nat_lit 208, o_250 P) :: (nat_lit 210, o_252 P) :: (nat_lit 211, o_253 P) :: (nat_lit 212, o_254 P) :: (nat_lit 214, o_256 P) :: (nat_lit 215, o_257 P) :: (nat_lit 217, o_259 P) :: (nat_lit 218, o_260 P) :: (nat_lit 219, o_261 P) :: (nat_lit 221, o_263 P) :: (nat_lit 222, o_264 P) :: (nat_lit 224, o_266 P) :: (nat_lit 225, o_267 P) :: (nat_lit 226, o_270 P) :: (nat_lit 228, o_272 P) :: (nat_lit 229, o_273 P) :: (nat_lit 231, o_275 P) :: (nat_lit 232, o_276 P) :: (nat_lit 233, o_277 P) :: (nat_lit 235, o_279 P) :: (nat_lit 236, o_280 P) :: (nat_lit 238, o_282 P) :: (nat_lit 239, o_283 P) :: (nat_lit 240, o_284 P) :: (nat_lit 242, o_286 P) :: (nat_lit 243, o_287 P) :: (nat_lit 245, o_289 P) :: (nat_lit 246, o_290 P) :: (nat_lit 247, o_291 P) :: (nat_lit 250, o_294 P) :: (nat_lit 251, o_295 P) :: (nat_lit 252, o_296 P) :: (nat_lit 254, o_298 P) :: (nat_lit 255, o_299 P) :: (nat_lit 257, o_301 P) :: (nat_lit 258, o_302 P) :: (nat_lit 259, o_303 P) :: (nat_lit 261, o_305 P) :: (nat_lit 262, o_306 P) :: (nat_lit 264, o_308 P) :: (nat_lit 265, o_309 P) :: (nat_lit 266, o_310 P) :: (nat_lit 268, o_312 P) :: (nat_lit 269, o_313 P) :: (nat_lit 271, o_315 P) :: (nat_lit 272, o_316 P) :: (nat_lit 273, o_317 P) :: (nat_lit 275, o_319 P) :: (nat_lit 276, o_320 P) :: (nat_lit 278, o_322 P) :: (nat_lit 279, o_323 P) :: (nat_lit 280, o_324 P) :: (nat_lit 282, o_326 P) :: (nat_lit 283, o_327 P) :: (nat_lit 285, o_329 P) :: (nat_lit 286, o_330 P) :: (nat_lit 287, o_331 P) :: (nat_lit 289, o_333 P) :: (nat_lit 290, o_334 P) :: (nat_lit 292, o_336 P) :: (nat_lit 293, o_337 P) :: (nat_lit 294, o_338 P) :: (nat_lit 296, o_340 P) :: (nat_lit 297, o_341 P) :: (nat_lit 299, o_343 P) :: (nat_lit 300, o_344 P) :: (nat_lit 301, o_345 P) :: (nat_lit 303, o_347 P) :: (nat_lit 304, o_348 P) :: (nat_lit 306, o_350 P) :: (nat_lit 307, o_351 P) :: (nat_lit 315, o_361 P) :: (nat_lit 317, o_363 P) :: (nat_lit 318, o_364 P) :: (nat_lit 320, o_366 P) :: (nat_lit 321, o_367 P) :: (nat_lit 322, o_368 P) :: (nat_lit 323, o_369 P) :: (nat_lit 324, o_370 P) :: (nat_lit 325, o_371 P) :: (nat_lit 326, o_372 P) :: (nat_lit 336, o_384 P) :: (nat_lit 338, o_386 P) :: (nat_lit 339, o_387 P) :: (nat_lit 341, o_389 P) :: (nat_lit 342, o_390 P) :: (nat_lit 343, o_391 P) :: (nat_lit 344, o_392 P) :: (nat_lit 345, o_393 P) :: (nat_lit 346, o_394 P) :: (nat_lit 347, o_395 P) :: (nat_lit 357, o_407 P) :: (nat_lit 359, o_409 P) :: (nat_lit 360, o_410 P) :: (nat_lit 362, o_412 P) :: (nat_lit 363, o_413 P) :: (nat_lit 364, o_414 P) :: (nat_lit 365, o_415 P) :: (nat_lit 367, o_417 P) :: (nat_lit 368, o_418 P) :: (nat_lit 370, o_420 P) :: (nat_lit 371, o_421 P) :: (nat_lit 372, o_422 P) :: (nat_lit 374, o_424 P) :: (nat_lit 375, o_425 P) :: (nat_lit 377, o_427 P) :: (nat_lit 378, o_428 P) :: (nat_lit 379, o_429 P) :: (nat_lit 380, o_430 P) :: (nat_lit 381, o_431 P) :: (nat_lit 382, o_432 P) :: (nat_lit 383, o_433 P) :: (nat_lit 386, o_436 P) :: (nat_lit 388, o_438 P) :: (nat_lit 389, o_439 P) :: (nat_lit 391, o_441 P) :: (nat_lit 392, o_442 P) :: (nat_lit 393, o_443 P) :: (nat_lit 395, o_445 P) :: (nat_lit 396, o_446 P) :: (nat_lit 398, o_448 P) :: (nat_lit 399, o_449 P) :: (nat_lit 400, o_452 P) :: (nat_lit 402, o_454 P) :: (nat_lit 403, o_455 P) :: (nat_lit 405, o_457 P) :: (nat_lit 406, o_458 P) :: (nat_lit 407, o_459 P) :: (nat_lit 409, o_461 P) :: (nat_lit 410, o_462 P) :: (nat_lit 412, o_464 P) :: (nat_lit 413, o_465 P) :: (nat_lit 414, o_466 P) :: (nat_lit 416, o_468 P) :: (nat_lit 417, o_469 P) :: (nat_lit 419, o_471 P) :: (nat_lit 420, o_472 P) :: (nat_lit 421, o_473 P) :: (nat_lit 424, o_476 P) :: (nat_lit 425, o_477 P) :: []
noncomputable abbrev as_39 : List Addr := [nat_lit 2, nat_lit 3, nat_lit 15, nat_lit 17, nat_lit 18, nat_lit 20, nat_lit 21, nat_lit 22, nat_lit 24, nat_lit 25, nat_lit 27, nat_lit 28, nat_lit 29, nat_lit 31, nat_lit 32, nat_lit 34, nat_lit 35, nat_lit 36, nat_lit 38, nat_lit 39, nat_lit 41, nat_lit 42, nat_lit 43, nat_lit 45, nat_lit 46, nat_lit 48, nat_lit 49, nat_lit 50, nat_lit 52, nat_lit 53, nat_lit 55, nat_lit 56, nat_lit 57, nat_lit 59, nat_lit 60, nat_lit 62, nat_lit 63, nat_lit 64, nat_lit 66, nat_lit 67, nat_lit 69, nat_lit 70, nat_lit 71, nat_lit 73, nat_lit 74, nat_lit 76, nat_lit 77, nat_lit 78, nat_lit 80, nat_lit 81, nat_lit 83, nat_lit 84, nat_lit 85, nat_lit 87, nat_lit 88, nat_lit 90, nat_lit 91, nat_lit 92, nat_lit 94, nat_lit 95, nat_lit 97, nat_lit 98, nat_lit 99, nat_lit 101, nat_lit 102, nat_lit 104, nat_lit 105, nat_lit 106, nat_lit 108, nat_lit 109, nat_lit 111, nat_lit 112, nat_lit 113, nat_lit 115, nat_lit 116, nat_lit 118, nat_lit 119, nat_lit 120, nat_lit 122, nat_lit 123, nat_lit 125, nat_lit 126, nat_lit 127, nat_lit 129, nat_lit 130, nat_lit 132, nat_lit 133, nat_lit 134, nat_lit 136, nat_lit 137, nat_lit 139, nat_lit 140, nat_lit 148, nat_lit 149, nat_lit 151, nat_lit 152, nat_lit 154, nat_lit 155, nat_lit 156, nat_lit 157, nat_lit 158, nat_lit 159, nat_lit 160, nat_lit 163, nat_lit 165, nat_lit 166, nat_lit 168, nat_lit 169, nat_lit 177, nat_lit 179, nat_lit 180, nat_lit 182, nat_lit 183, nat_lit 184, nat_lit 185, nat_lit 186, nat_lit 187, nat_lit 188, nat_lit 191, nat_lit 193, nat_lit 194, nat_lit 196, nat_lit 197, nat_lit 198, nat_lit 200, nat_lit 201, nat_lit 203, nat_lit 204, nat_lit 205, nat_lit 207, nat_lit 208, nat_lit 210, nat_lit 211, nat_lit 212, nat_lit 214, nat_lit 215, nat_lit 217, nat_lit 218, nat_lit 219, nat_lit 221, nat_lit 222, nat_lit 224, nat_lit 225, nat_lit 226, nat_lit 228, nat_lit 229, nat_lit 231, nat_lit 232, nat_lit 233, nat_lit 235, nat_lit 236, nat_lit 238, nat_lit 239, nat_lit 240, nat_lit 242, nat_lit 243, nat_lit 245, nat_lit 246, nat_lit 247, nat_lit 250, nat_lit 251, nat_lit 252, nat_lit 254, nat_lit 255, nat_lit 257, nat_lit 258, nat_lit 259, nat_lit 261, nat_lit 262, nat_lit 264, nat_lit 265, nat_lit 266, nat_lit 268, nat_lit 269, nat_lit 271, nat_lit 272, nat_lit 273, nat_lit 275, nat_lit 276, nat_lit 278, nat_lit 279, nat_lit 280, nat_lit 282, nat_lit 283, nat_lit 285, nat_lit 286, nat_lit 287, nat_lit 289, nat_lit 290, nat_lit 292, nat_lit 293, nat_lit 294, nat_lit 296, nat_lit 297, nat_lit 299, nat_lit 300, nat_lit 301, nat_lit 303, nat_lit 304, nat_lit 306, nat_lit 307, nat_lit 315, nat_lit 317, nat_lit 318, nat_lit 320, nat_lit 321, nat_lit 322, nat_lit 323, nat_lit 324, nat_lit 325, nat_lit 326, nat_lit 336, nat_lit 338, nat_lit 339, nat_lit 341, nat_lit 342, nat_lit 343, nat_lit 344, nat_lit 345, nat_lit 346, nat_lit 347, nat_lit 357, nat_lit 359, nat_lit 360, nat_lit 362, nat_lit 363, nat_lit 364, nat_lit 365, nat_lit 367, nat_lit 368, nat_lit 370, nat_lit 371, nat_lit 372, nat_lit 374, nat_lit 375, nat_lit 377, nat_lit 378, nat_lit 379, nat_lit 380, nat_lit 381, nat_lit 382, nat_lit 383, nat_lit 386, nat_lit 388, nat_lit 389, nat_lit 391, nat_lit 392, nat_lit 393, nat_lit 395, nat_lit 396, nat_lit 398, nat_lit 399, nat_lit 400, nat_lit 402, nat_lit 403, nat_lit 405, nat_lit 406, nat_lit 407, nat_lit 409, nat_lit 410, nat_lit 412, nat_lit 413, nat_lit 414, nat_lit 416, nat_lit 417, nat_lit 419, nat_lit 420, nat_lit 421, nat_lit 424, nat_lit 425]
noncomputable def view_39 : Program := view P0 [1, 2, 3, 4, 5, 6, 7, 8, 9, 10, 11, 12, 13, 14, 15, 16, 17, 18, 19, 20, 22, 23, 25, 26, 27, 28, 29, 30, 31, 32, 33, 34, 35, 36, 37, 38, 39, 40, 41, 42, 44, 45, 46, 48, 49, 50, 51, 52, 53]

noncomputable abbrev cd0 : Code := Code.body (behindTheImports P0) env_41
noncomputable abbrev sT (t : Params → BT) (n k : Nat) (w : World) (os : OsState) : SharedT := ⟨t w.params, n, {}, Array.mk [], ⟨0, 0, 0, 0⟩, k, os⟩
noncomputable abbrev s9 (w : World) (os : OsState) : Shared := ⟨heap_478 w.params, Array.mk [], ⟨0, 0, 0, 0⟩, 821, os⟩
theorem q47 : ∀ w : World, (Eq (fun os => (topGo treeTable P0 w 11 (some (.ref 6)) 12 ⟨(boot_heap w.params), (Array.mk []), boot_drawn, boot_toks, os⟩ (topStub P0))) (fun os => (some (⟨(heap_46 w.params), (Array.mk []), ⟨0, 0, 0, 0⟩, 187, os⟩, ⟨(denote treeTable cd0), cd0, ⟨0, 0, 0, 0⟩, [tf0]⟩)))) := by rw [PySem.W.Fast.te15667345088766844465, PySem.W.Fast.te14364793385576792824, PySem.W.Fast.te11892475500146522536]; intro w; kernel_rfl
theorem q49 : ∀ w : World, (Eq (fun os => (segRun treeTable P0 w 11 (some (.ref 6)) 1 1 ⟨(heap_46 w.params), (Array.mk []), ⟨0, 0, 0, 0⟩, 187, os⟩ (blockOf (behindTheImports P0) env_41 cd0 ⟨0, 0, 0, 0⟩ [tf0]))) (fun os => (some (Flow.next, ((SharedT.abs (sT tree_47 15 187 w os)), (cd0, ⟨0, 0, 0, 0⟩)))))) := by rw [PySem.W.Fast.te14374325043358763698, PySem.W.Fast.te14364793385576792824]; intro w; kernel_rfl
theorem q135 : ∀ w : World, (Eq (fun os => (segRunT treeTable P0 w 11 (some (.ref 6)) 1 395 (sT tree_47 15 187 w os) (piecesOf sts_49 env_41 cd0 ⟨0, 0, 0, 0⟩ [tf0]))) (fun os => (some (Flow.next, ((sT tree_134 99 292 w os), (cd0, ⟨49, 0, 50, 45⟩)))))) := by rw [PySem.W.Fast.te10110043849684766642, PySem.W.Fast.te14364793385576792824]; intro w; kernel_rfl
theorem q179 : ∀ w : World, (Eq (fun os => (segRunT treeTable P0 w 11 (some (.ref 6)) 1 199 (sT tree_134 99 292 w os) (piecesOf sts_135 env_41 cd0 ⟨49, 0, 50, 45⟩ [tf0]))) (fun os => (some (Flow.next, ((sT tree_178 141 351 w os), (cd0, ⟨91, 0, 91, 8⟩)))))) := by rw [PySem.W.Fast.te10110043849684766642, PySem.W.Fast.te14364793385576792824]; intro w; kernel_rfl
theorem q210 : ∀ w : World, (Eq (fun os => (segRunT treeTable P0 w 11 (some (.ref 6)) 1 275 (sT tree_178 141 351 w os) (piecesOf sts_179 env_41 cd0 ⟨91, 0, 91, 8⟩ [tf0]))) (fun os => (some (Flow.next, ((sT tree_209 170 402 w os), (cd0, ⟨113, 0, 113, 8⟩)))))) := by rw [PySem.W.Fast.te10110043849684766642, PySem.W.Fast.te14364793385576792824]; intro w; kernel_rfl
theorem q268 : ∀ w : World, (Eq (fun os => (segRunT treeTable P0 w 11 (some (.ref 6)) 1 380 (sT tree_209 170 402 w os) (piecesOf sts_210 env_41 cd0 ⟨113, 0, 113, 8⟩ [tf0]))) (fun os => (some (Flow.next, ((sT tree_267 226 478 w os), (cd0, ⟨143, 0, 144, 51⟩)))))) := by rw [PySem.W.Fast.te10110043849684766642, PySem.W.Fast.te14364793385576792824]; intro w; kernel_rfl
theorem q352 : ∀ w : World, (Eq (fun os => (segRunT treeTable P0 w 11 (some (.ref 6)) 1 395 (sT tree_267 226 478 w os) (piecesOf sts_268 env_41 cd0 ⟨143, 0, 144, 51⟩ [tf0]))) (fun os => (some (Flow.next, ((sT tree_351 308 610 w os), (cd0, ⟨251, 0, 252, 54⟩)))))) := by rw [PySem.W.Fast.te10110043849684766642, PySem.W.Fast.te14364793385576792824]; intro w; kernel_rfl
theorem q375 : ∀ w : World, (Eq (fun os => (segRunT treeTable P0 w 11 (some (.ref 6)) 1 245 (sT tree_351 308 610 w os) (piecesOf sts_352 env_41 cd0 ⟨251, 0, 252, 54⟩ [tf0]))) (fun os => (some (Flow.next, ((sT tree_374 329 654 w os), (cd0, ⟨254, 0, 268, 21⟩)))))) := by rw [PySem.W.Fast.te10110043849684766642, PySem.W.Fast.te14364793385576792824]; intro w; kernel_rfl
theorem q398 : ∀ w : World, (Eq (fun os => (segRunT treeTable P0 w 11 (some (.ref 6)) 1 239 (sT tree_374 329 654 w os) (piecesOf sts_375 env_41 cd0 ⟨254, 0, 268, 21⟩ [tf0]))) (fun os => (some (Flow.next, ((sT tree_397 350 699 w os), (cd0, ⟨269, 0, 285, 28⟩)))))) := by rw [PySem.W.Fast.te10110043849684766642, PySem.W.Fast.te14364793385576792824]; intro w; kernel_rfl
theorem q450 : ∀ w : World, (Eq (fun os => (segRunT treeTable P0 w 11 (some (.ref 6)) 1 376 (sT tree_397 350 699 w os) (piecesOf sts_398 env_41 cd0 ⟨269, 0, 285, 28⟩ [tf0]))) (fun os => (some (Flow.next, ((sT tree_449 400 781 w os), (cd0, ⟨320, 0, 327, 15⟩)))))) := by rw [PySem.W.Fast.te10110043849684766642, PySem.W.Fast.te14364793385576792824]; intro w; kernel_rfl
theorem q478 : ∀ w : World, (Eq (fun os => (segRunT treeTable P0 w 11 (some (.ref 6)) 1 127 (sT tree_449 400 781 w os) (piecesOf sts_450 env_41 cd0 ⟨320, 0, 327, 15⟩ [tf0]))) (fun os => (some (Flow.next, ((sT tree_477 426 821 w os), (cd0, ⟨357, 0, 389, 60⟩)))))) := by rw [PySem.W.Fast.te10110043849684766642, PySem.W.Fast.te14364793385576792824]; intro w; kernel_rfl
theorem q480 : ∀ w : World, (Eq (fun os => (topRun treeTable P0 w 11 (some (.ref 6)) 2 (SharedT.abs (sT tree_477 426 821 w os)) ⟨(doneF Flow.next), cd0, ⟨357, 0, 389, 60⟩, [tf0]⟩)) (fun os => (some (s9 w os)))) := by rw [PySem.W.Fast.te14082659384304107361, PySem.W.Fast.te14364793385576792824]; intro w; kernel_rfl
theorem q483 : ∀ w : World, (Eq ((Bool.and (Heap.isNs (boot_heap w.params) mainGlobals) ((Array.mk ([] : List GenState)).size == 0)), ((Array.size (boot_heap w.params).objs), (Heap.nsMap (boot_heap w.params) mainGlobals (Str.ofString "__annotations__")))) (true, (11, (some (.ref 6))))) := by rw [PySem.W.Fast.te8920871248978507458]; intro w; kernel_rfl
theorem q485 : ∀ w : World, (Eq (fun os => (Bool.and (Bool.and (Bool.and (staticsOk (importedModules P0.main.body) (boot_heap w.params) (heap_478 w.params)) (namesBound P0 (heap_478 w.params))) (gensDone (s9 w os))) (laidKept (boot_heap w.params) (heap_478 w.params)))) (fun _ => true)) := by rw [PySem.W.Fast.te5923862056798008813]; intro w; kernel_rfl
theorem q487 : ∀ w : World, (Eq (fun os => (PyProof.Rows.seen (List.map (fun x2 => x2.name) (PyProof.Rows.recsOf view_39)) (PyProof.Rows.ownsOf view_39) [] ⟨(s9 w os).heap, #[], (s9 w os).drawn, (s9 w os).toks, (s9 w os).os⟩)) (fun _ => (PyProof.Rows.expectedOf view_39))) := by rw [PySem.W.Fast.te5160383126252970620, PySem.W.Fast.te3399658132070893891, PySem.W.Fast.te5991557255702980513]; intro w; kernel_rfl
theorem q489 : ∀ w : World, (Eq (fun os => (Heap.bltView (s9 w os).heap)) (fun _ => bltViewBooted)) := by intro w; kernel_rfl
theorem q491 : ∀ w : World, (Eq (fun os => (Bool.and (Bool.and (Bool.and (Bool.and (Bool.and (Bool.and (Heap.keysOk (s9 w os).heap (looseW view_39 []) (List.map (fun x2 => x2.name) (PyProof.Rows.recsOf view_39)) (List.map (fun x2 => x2.1) (PyProof.Rows.litsOf view_39)) (List.map (fun x2 => x2.name) (PyProof.Rows.clssOf view_39 (looseW view_39 [])))) (Heap.accountedOkI (s9 w os).heap (importedModules P0.main.body))) (Heap.isNs (s9 w os).heap mainGlobals)) (Heap.isNs (s9 w os).heap builtinsNs)) (PyProof.Rows.tablesOk view_39 (s9 w os).heap)) ((fun x2 => (Bool.and (xlAt view_39 [] x2) (recOk R0.records x2))) (s9 w os))) (ite (Eq true true) (BEq.beq (Array.size (s9 w os).gens) 0) (Bool.not (leftWithCleanup (s9 w os).gens))))) (fun _ => true)) := by rw [PySem.W.Fast.te10880121769531294198, PySem.W.Fast.te821141287760084731, PySem.W.Fast.te3399658132070893891, PySem.W.Fast.te7409074990110511671, PySem.W.Fast.te13664370479719496447, PySem.W.Fast.te14722251495701143533, PySem.W.Fast.te5923862056798008813, PySem.W.Fast.te10994771534591457954]; intro w; kernel_rfl
theorem q493 : ∀ w : World, (Eq (fun os => (PyProof.Rows.tabsOk view_39 (s9 w os))) (fun _ => true)) := by rw [PySem.W.Fast.te479339242167458305]; intro w; kernel_rfl
theorem q495 : ∀ w : World, (Eq (fun os => (pinSeenD view_39 (PyProof.Rows.drecsOf view_39) (s9 w os))) (fun _ => (pinGoodD (PyProof.Rows.drecsOf view_39)))) := by rw [PySem.W.Fast.te16090120013241838585, PySem.W.Fast.te3247288618530077131]; intro w; kernel_rfl
theorem q497 : ∀ w : World, (Eq (fun os => (PyProof.Rows.plainSeenE view_39 (looseW view_39 []) (s9 w os))) (fun _ => (PyProof.Rows.plainGoodE view_39 (looseW view_39 [])))) := by rw [PySem.W.Fast.te2386780881361962483, PySem.W.Fast.te821141287760084731]; intro w; kernel_rfl
theorem q499 : ∀ w : World, (Eq (fun os => (PyProof.Rows.plainSeenD view_39 [] (s9 w os))) (fun _ => (PyProof.Rows.plainGoodD view_39 []))) := by rw [PySem.W.Fast.te11698064438423848299]; intro w; kernel_rfl
theorem q501 : ∀ w : World, (Eq (fun os => (wideSeen view_39 (s9 w os))) (fun _ => (wideGood view_39))) := by rw [PySem.W.Fast.te7317090234206586261]; intro w; kernel_rfl
theorem q503 : ∀ w : World, (Eq (fun os => (clsSeenW view_39 [] (s9 w os))) (fun _ => (clsGoodW view_39 []))) := by rw [PySem.W.Fast.te7369524293546568484]; intro w; kernel_rfl
theorem body_eq : behindTheImports P0 = sts_49 ++ (sts_135 ++ (sts_179 ++ (sts_210 ++ (sts_268 ++ (sts_352 ++ (sts_375 ++ (sts_398 ++ (sts_450 ++ ([]))))))))) := by kernel_rfl
theorem run0 (w : World) (os : OsState) : topRun treeTable P0 w 11 (some (.ref 6)) (12 + (1 + (395 + (199 + (275 + (380 + (395 + (245 + (239 + (376 + (127 + (2)))))))))))) ⟨boot_heap w.params, Array.mk [], boot_drawn, boot_toks, os⟩ (topStub P0) = some (s9 w os) := by
  refine go_top (congrFun (q47 w) os) ?_
  refine piece_block (congrFun (q49 w) os) ?_
  refine Eq.mpr (congrArg (fun b => topRun treeTable P0 w 11 (some (.ref 6)) _ _ (restOf b env_41 cd0 ⟨0, 0, 0, 0⟩ [tf0]) = some (s9 w os)) body_eq) ?_
  refine piece_app (segRun_of (congrFun (q135 w) os)) ?_
  refine piece_app (segRun_of (congrFun (q179 w) os)) ?_
  refine piece_app (segRun_of (congrFun (q210 w) os)) ?_
  refine piece_app (segRun_of (congrFun (q268 w) os)) ?_
  refine piece_app (segRun_of (congrFun (q352 w) os)) ?_
  refine piece_app (segRun_of (congrFun (q375 w) os)) ?_
  refine piece_app (segRun_of (congrFun (q398 w) os)) ?_
  refine piece_app (segRun_of (congrFun (q450 w) os)) ?_
  refine piece_app (segRun_of (congrFun (q478 w) os)) ?_
  exact congrFun (q480 w) os
theorem kE : ∀ P, as_39 = (heap_39 P).map (·.1) := by intro P; kernel_rfl
noncomputable abbrev H0 : Hook := kHook heap_39 as_39 kE
theorem seen0 (w : World) (os : OsState) : openSeen view_39 [] (importedModules P0.main.body) (fun s => xlAt view_39 [] s && recOk (RowW.records R0) s) true (s9 w os) = openGood view_39 [] :=
  looks_pair (congrFun (q487 w) os) (looks_pair (congrFun (q489 w) os) (looks_pair (congrFun (q491 w) os) (looks_pair (congrFun (q493 w) os) (looks_pair (congrFun (q495 w) os) (looks_pair (congrFun (q497 w) os) (looks_pair (congrFun (q499 w) os) (looks_pair (congrFun (q501 w) os) (congrFun (q503 w) os))))))))
theorem obs0 : ∀ (w : World) (os : OsState), as_39.map (s9 w os).heap.get? = (heap_39 w.params).map fun p => some p.2 := by intro w os; kernel_rfl
theorem plain0 : opening P0 = plainProg P0.main.scope.names := by kernel_rfl
theorem fence0 : ∀ s, fenceModules? P0 s = some s := by intro s; kernel_rfl
theorem left0 : LeftO P0 view_39 [] (fun s => xlAt view_39 [] s && recOk (RowW.records R0) s) (Hook.obs H0) (Hook.val H0) 5370 :=
  LeftO.of_pieces (H₀ := boot_heap) (H₁ := heap_478) (gs₀ := Array.mk []) (gs₁ := Array.mk []) (d₀ := boot_drawn) (d₁ := ⟨0, 0, 0, 0⟩) (k₀ := boot_toks) (k₁ := 821) (m₀ := 11) (ann := some (.ref 6))
    (boot_open plain0 rfl fence0) q483 run0 rfl (fun w => funext fun os => looks_pair (congrFun (q485 w) os) (looks_pair (seen0 w os) (obs0 w os)))
end
end hd
theorem hd.said : PySem.Challenge.rw_rr0072_01.wellSaid = true := by rw [PySem.W.Fast.te9446332074065402090]; kernel_rfl
theorem hd.opens : (chainsOk hd.view_39 && opensWell PySem.Challenge.rw_rr0072_01.row.prog && (frees hd.R0 && PySem.Challenge.rw_rr0072_01.row.within.isEmpty)) = true := by kernel_rfl
theorem hd.def0 : defOf hd.view_39 PySem.Challenge.rw_rr0072_01.row.name = some (⟨Str.ofString "law", hd.f_law.1.p, hd.f_law.1.b, hd.f_law.1.s, ⟨357, 0, 389, 60⟩⟩, []) := by kernel_rfl
theorem hd.def1 : PySem.Challenge.rw_rr0072_01.row.prog.theDef PySem.Challenge.rw_rr0072_01.row.name = some (hd.f_law.1.p, hd.f_law.1.b, hd.f_law.1.s) := by kernel_rfl
theorem hd.bare0 : PySem.Challenge.rw_rr0072_01.row.prog.bare := ⟨rfl, rfl, rfl, rfl, rfl, by decide +kernel⟩
theorem hd.wit0 : PySem.Challenge.rw_rr0072_01.row.toRowW.promised := by w_witness2
theorem hd (call : WalkO hd.view_39 [] (XL hd.view_39 []) (Hook.says hd.H0) hd.R0 ⟨Str.ofString "law", hd.f_law.1.p, hd.f_law.1.b, hd.f_law.1.s, ⟨357, 0, 389, 60⟩⟩ [] fun f vs => PySem.call f vs) : PySem.Challenge.rw_rr0072_01.Holds := by
  w_on
  refine holds_law hd.said fun said => ?_
  refine holds_open (q := hd.view_39) (loose := []) (Xt := fun s => xlAt hd.view_39 [] s && recOk (RowW.records hd.R0) s) (XP := XL hd.view_39 []) (Yf := Hook.obs hd.H0) (Ya := Hook.val hd.H0) (YP := Hook.says hd.H0) (N := 5370) hd.left0 (Hook.of hd.H0) (Hook.keeps hd.H0)
    (fun s e => xl_of s (Bool.and_eq_true_iff.mp e).1) XL.keeps hd.def0 hd.def1 rfl (fun s e => recFacts_of (Bool.and_eq_true_iff.mp e).2) (by rfl) said hd.opens hd.bare0 hd.wit0 call
abbrev PG : Program := PySem.Challenge.rw_rr0072_01.row.prog
abbrev Led := List (Addr × Obj)
noncomputable def Hold (P : Prop) : Prop := P
theorem hold {P : Prop} (h : Hold P) : P := h
theorem unhold {P : Prop} (h : P) : Hold P := h
theorem warm : PySem.Challenge.rw_rr0072_01.Holds → ∀ (P : Params) (h : Heap), (hd.heap_39 P).In h → True := by
  w_top off
  k_fill
  intros
  trivial

/-- p stands behind all of news, or within it -/
noncomputable def NewIn (news l : Led) : Prop := ∀ p ∈ l, p ∈ news ∨ ∀ q ∈ news, q.1 < p.1

/-- what a call gives back, said over the ledger; it stays so when the ledger grows -/
structure Pst where
  P : Led → Value → Prop
  mono : ∀ {l l' : Led} {v : Value}, P l v → (∀ p ∈ l, p ∈ l') → P l' v

/-- a call of the def at f with these arguments, from any frame whose ledger is news: it gives back by Post, the ledger grows at its end -/
noncomputable def Gives (w : World) (f : Addr) (vs : List Value) (news : Led) (need : Nat) (Post : Pst) : Prop :=
  ∀ (loose : List Str) (mean : ExcName → Option Value) (mg mb : Str → Option Value)
    (dp un : Nat) (gd : Option (List Code)) (cn : Str) (cs : Scope) (a : Addr) (ccd : Value) (cl : List (Str × Addr)) (outer : List Env) (A₀ : Around) (base h₀ : Heap) (L : Addr) (m : Str → Option Value) (s : Shared)
    (Q E : Value → Shared → Prop),
    Below A₀ base outer h₀ → Fr h₀ L s.heap m → (hd.heap_39 w.params).In h₀ → News h₀ L s.heap news → Top hd.view_39 loose mean mg mb h₀ → cs.kind = .function → dp + need < recursionLimit → un + 8 * need < cLine →
    (∀ r l h' tk', Fr h₀ L h' m → News h₀ L h' l → (∀ p ∈ news, p ∈ l) → NewIn news l → Post.P l r → Q r { s with heap := h', toks := tk' }) →
    wpAny (model PG w) (ktrTop dp un gd cn cs L a ccd cl outer) (call (.ref f) vs) Q E s

theorem gives_use {w : World} {f : Addr} {vs : List Value} {news : Led} {need : Nat} {Post : Pst}
    {loose : List Str} {mean : ExcName → Option Value} {mg mb : Str → Option Value}
    {dp un : Nat} {gd : Option (List Code)} {cn : Str} {cs : Scope} {a : Addr} {ccd : Value} {cl : List (Str × Addr)} {outer : List Env} {A₀ : Around} {base h₀ : Heap} {L : Addr} {m : Str → Option Value} {s : Shared}
    {Q E : Value → Shared → Prop}
    (C : Gives w f vs news need Post)
    (B : Below A₀ base outer h₀) (F : Fr h₀ L s.heap m) (X : (hd.heap_39 w.params).In h₀) (N : News h₀ L s.heap news) (T : Top hd.view_39 loose mean mg mb h₀) (hk : cs.kind = .function) (hd : dp + need < recursionLimit) (hu : un + 8 * need < cLine)
    (ret : ∀ r tl h' tk', Fr h₀ L h' m → News h₀ L h' (news ++ tl) → (∀ q ∈ news, ∀ p ∈ tl, q.1 < p.1) → Post.P (news ++ tl) r → Q r { s with heap := h', toks := tk' }) :
    wpAny (model PG w) (ktrTop dp un gd cn cs L a ccd cl outer) (call (.ref f) vs) Q E s := by
  refine C _ _ _ _ _ _ _ _ _ _ _ _ _ _ _ _ _ _ _ _ _ B F X N T hk hd hu fun r l h' tk' F' N' hs hn hp => ?_
  refine ret r (l.filter fun p => news.all fun q => decide (@LT.lt Nat _ q.1 p.1)) h' tk' F' (fun p hp => ?_) (fun q hq p hp => ?_) (Post.mono hp fun p hp => ?_)
  · rcases List.mem_append.mp hp with h | h
    · exact N' p (hs p h)
    · exact N' p ((List.mem_filter.mp h).1)
  · exact of_decide_eq_true (List.all_eq_true.mp (List.mem_filter.mp hp).2 q hq)
  · rcases hn p hp with h | h
    · exact List.mem_append_left _ h
    · exact List.mem_append_right _ (List.mem_filter.mpr ⟨hp, List.all_eq_true.mpr fun q hq => decide_eq_true (h q hq)⟩)

theorem newIn_refl {news : Led} : NewIn news news := fun _ h => .inl h
theorem newIn_cons {news l : Led} {p : Addr × Obj} (h : ∀ q ∈ news, q.1 < p.1) (r : NewIn news l) : NewIn news (p :: l) := fun q hq => by
  rcases List.mem_cons.mp hq with rfl | hq
  · exact .inr h
  · exact r q hq
theorem newIn_app {news l t : Led} (r : NewIn news l) (h : ∀ q ∈ news, ∀ p ∈ t, q.1 < p.1) : NewIn news (l ++ t) := fun q hq => by
  rcases List.mem_append.mp hq with hq | hq
  · exact r q hq
  · exact .inr fun p hp => h p hp q hq
theorem ltAll_of {d : Addr} : ∀ {l : Led}, AllLt d l → ∀ q ∈ l, q.1 < d
  | [], _, _, h => nomatch h
  | p :: r, h, q, hq => by
    rcases List.mem_cons.mp hq with rfl | hq
    · exact h.1
    · exact ltAll_of h.2 q hq
theorem ltAll_left {d : Addr} {l r : Led} (h : ∀ q ∈ l ++ r, q.1 < d) : ∀ q ∈ l, q.1 < d := fun q hq => h q (List.mem_append_left _ hq)
theorem ltAll_tail {d : Addr} {p : Addr × Obj} {r : Led} (h : ∀ q ∈ p :: r, q.1 < d) : ∀ q ∈ r, q.1 < d := fun q hq => h q (.tail _ hq)
theorem ord_tail {p : Addr × Obj} {r t : Led} (h : ∀ q ∈ p :: r, ∀ x ∈ t, q.1 < x.1) : ∀ q ∈ r, ∀ x ∈ t, q.1 < x.1 := fun q hq => h q (.tail _ hq)
theorem ord_left {l r t : Led} (h : ∀ q ∈ l ++ r, ∀ x ∈ t, q.1 < x.1) : ∀ q ∈ l, ∀ x ∈ t, q.1 < x.1 := fun q hq => h q (List.mem_append_left _ hq)
theorem ord_sub {l l' t : Led} (h : ∀ q ∈ l', ∀ x ∈ t, q.1 < x.1) (hs : ∀ q ∈ l, q ∈ l') : ∀ q ∈ l, ∀ x ∈ t, q.1 < x.1 := fun q hq => h q (hs q hq)
theorem ord_app {l t u : Led} (h : ∀ q ∈ l, ∀ x ∈ t, q.1 < x.1) (k : ∀ q ∈ l, ∀ x ∈ u, q.1 < x.1) : ∀ q ∈ l, ∀ x ∈ t ++ u, q.1 < x.1 := fun q hq x hx => by
  rcases List.mem_append.mp hx with hx | hx
  · exact h q hq x hx
  · exact k q hq x hx
theorem ord_ne {d : Addr} {o : Obj} {l t : Led} (h : ∀ q ∈ l, ∀ x ∈ t, q.1 < x.1) (hm : (d, o) ∈ l) : ∀ x ∈ t, x.1 ≠ d := fun x hx => Nat.ne_of_gt (h _ hm x hx)
theorem ne_app {d : Addr} {l r : Led} (h : ∀ p ∈ l, p.1 ≠ d) (k : ∀ p ∈ r, p.1 ≠ d) : ∀ p ∈ l ++ r, p.1 ≠ d := fun p hp => (List.mem_append.mp hp).elim (h p) (k p)
theorem sub_cons {l l' : Led} {p : Addr × Obj} (h : ∀ q ∈ l, q ∈ l') : ∀ q ∈ l, q ∈ p :: l' := fun q hq => .tail _ (h q hq)
theorem sub_app {l l' t : Led} (h : ∀ q ∈ l, q ∈ l') : ∀ q ∈ l, q ∈ l' ++ t := fun q hq => List.mem_append_left _ (h q hq)

abbrev tupObj (vs : List Value) (n : Nat) : Obj := { cls := .type "tuple", data := .seq vs.toArray n }

/-- an interval: a tuple of two ints -/
inductive IvAt (news : Led) : Value → Int → Int → Prop
  | mk {a : Addr} {lo hi : Int} {t u : Tok} {n : Nat} : (a, (tupObj [.int lo t, .int hi u] n)) ∈ news → IvAt news (.ref a) lo hi
theorem IvAt.mono {news news' : Led} {v : Value} {lo hi : Int} (h : IvAt news v lo hi) (hs : ∀ p ∈ news, p ∈ news') : IvAt news' v lo hi := by
  cases h with | mk h => exact .mk (hs _ h)
inductive OIvAt (news : Led) : Value → Option (Int × Int) → Prop
  | none : OIvAt news .none none
  | some {a : Addr} {lo hi : Int} : IvAt news (.ref a) lo hi → OIvAt news (.ref a) (some (lo, hi))
theorem OIvAt.mono {news news' : Led} {v : Value} {o : Option (Int × Int)} (h : OIvAt news v o) (hs : ∀ p ∈ news, p ∈ news') : OIvAt news' v o := by
  cases h with
  | none => exact .none
  | some h => exact .some (h.mono hs)

/-- an interval or None -/
noncomputable def pOIv (x : Option (Int × Int)) : Pst := ⟨fun l v => ∃ o, x = o ∧ OIvAt l v o, fun ⟨o, e, h⟩ hs => ⟨o, e, h.mono hs⟩⟩
/-- an interval -/
noncomputable def pIv (x : Int × Int) : Pst := ⟨fun l v => ∃ p a b, v = .ref p ∧ x = (a, b) ∧ IvAt l (.ref p) a b, fun ⟨p, a, b, q, e, h⟩ hs => ⟨p, a, b, q, e, h.mono hs⟩⟩
/-- a written text -/
noncomputable def pStr (x : Str) : Pst := ⟨fun _ v => ∃ t, v = .str x t, fun h _ => h⟩
noncomputable def pInt (x : Int) : Pst := ⟨fun _ v => ∃ t, v = .int x t, fun h _ => h⟩
noncomputable def pVal (x : Value) : Pst := ⟨fun _ v => v = x, fun h _ => h⟩
theorem sub_appR {l l' t : Led} (h : ∀ q ∈ l, q ∈ l') : ∀ q ∈ l, q ∈ t ++ l' := fun q hq => List.mem_append_right _ (h q hq)
theorem sub_consL {l l' : Led} {x : Addr × Obj} (hx : x ∈ l') (h : ∀ q ∈ l, q ∈ l') : ∀ q ∈ x :: l, q ∈ l' := fun q hq => by
  rcases List.mem_cons.mp hq with rfl | hq
  · exact hx
  · exact h q hq
theorem sub_appL {l r l' : Led} (h : ∀ q ∈ l, q ∈ l') (k : ∀ q ∈ r, q ∈ l') : ∀ q ∈ l ++ r, q ∈ l' := fun q hq => (List.mem_append.mp hq).elim (h q) (k q)
theorem ne_sub {d : Addr} {l l' : Led} (h : ∀ p ∈ l, p.1 ≠ d) (hs : ∀ p ∈ l', p ∈ l) : ∀ p ∈ l', p.1 ≠ d := fun p hp => h p (hs p hp)
theorem ne_consM {d : Addr} {l r : Led} {x : Addr × Obj} (h : ∀ p ∈ l, p.1 ≠ d) (hm : x ∈ l) (k : ∀ p ∈ r, p.1 ≠ d) : ∀ p ∈ x :: r, p.1 ≠ d := fun p hp => by
  rcases List.mem_cons.mp hp with rfl | hp
  · exact h _ hm
  · exact k p hp
theorem off3_mk {I C D : Addr} {l : Led} (h : ∀ p ∈ l, p.1 ≠ I) (k : ∀ p ∈ l, p.1 ≠ C) (i : ∀ p ∈ l, p.1 ≠ D) : LCg.Off3 I C D l := LCg.Off3.of fun p hp => ⟨h p hp, k p hp, i p hp⟩
theorem off3_I {I C D : Addr} {l : Led} (h : LCg.Off3 I C D l) : ∀ p ∈ l, p.1 ≠ I := fun p hp => (h.mem p hp).1
theorem off3_C {I C D : Addr} {l : Led} (h : LCg.Off3 I C D l) : ∀ p ∈ l, p.1 ≠ C := fun p hp => (h.mem p hp).2.1
theorem off3_D {I C D : Addr} {l : Led} (h : LCg.Off3 I C D l) : ∀ p ∈ l, p.1 ≠ D := fun p hp => (h.mem p hp).2.2
theorem srcAt_mem {h₀ : Heap} {ax : Addr} {its : Array Value} {n : Nat} {l : Led} (h : (ax, listOf its n) ∈ l) : LCg.SrcAt h₀ ax its l := .inr ⟨_, h, rfl, _, rfl⟩
theorem sub_via {l l' l'' : Led} (h : ∀ q ∈ l', q ∈ l'') (k : ∀ q ∈ l, q ∈ l') : ∀ q ∈ l, q ∈ l'' := fun q hq => h q (k q hq)
theorem mem_sub {l l' : Led} {x : Addr × Obj} (h : x ∈ l) (hs : ∀ p ∈ l, p ∈ l') : x ∈ l' := hs x h
theorem exR {α : Type} {x : α} {R : α → Prop} {o : α} (r : R o) (e : x = o) : ∃ o, x = o ∧ R o := ⟨o, e, r⟩

section
variable {w : World} {f : Addr} {vs : List Value} {news : Led} {need : Nat} {loose : List Str} {mean : ExcName → Option Value} {mg mb : Str → Option Value} {dp un : Nat} {gd : Option (List Code)} {cn : Str} {cs : Scope} {a : Addr} {ccd : Value} {cl : List (Str × Addr)} {outer : List Env} {A₀ : Around} {base h₀ : Heap} {L : Addr} {m : Str → Option Value} {s : Shared} {Q E : Value → Shared → Prop}
theorem use_oiv {x : Option (Int × Int)} (C : Gives w f vs news need (pOIv x)) (B : Below A₀ base outer h₀) (F : Fr h₀ L s.heap m) (X : (hd.heap_39 w.params).In h₀) (N : News h₀ L s.heap news) (T : Top hd.view_39 loose mean mg mb h₀) (hk : cs.kind = .function) (hd : dp + need < recursionLimit) (hu : un + 8 * need < cLine) (ret : (∀ tl h' tk', Fr h₀ L h' m → News h₀ L h' (news ++ tl) → (∀ q ∈ news, ∀ p ∈ tl, q.1 < p.1) → x = none → Q .none { s with heap := h', toks := tk' }) ∧ (∀ (p : Addr) (lo hi : Int) tl h' tk', Fr h₀ L h' m → News h₀ L h' (news ++ tl) → (∀ q ∈ news, ∀ p ∈ tl, q.1 < p.1) → x = some (lo, hi) → IvAt (news ++ tl) (.ref p) lo hi → Q (.ref p) { s with heap := h', toks := tk' })) : wpAny (model PG w) (ktrTop dp un gd cn cs L a ccd cl outer) (call (.ref f) vs) Q E s := gives_use C B F X N T hk hd hu fun r tl h' tk' F' N' ho hp => by
  obtain ⟨o, e, hp⟩ := hp
  cases hp with
  | none => exact ret.1 _ _ _ F' N' ho e
  | some hp => exact ret.2 _ _ _ _ _ _ F' N' ho e hp
theorem use_oivK {x : Option (Int × Int)} (C : Gives w f vs news need (pOIv x)) (B : Below A₀ base outer h₀) (F : Fr h₀ L s.heap m) (X : (hd.heap_39 w.params).In h₀) (N : News h₀ L s.heap news) (T : Top hd.view_39 loose mean mg mb h₀) (hk : cs.kind = .function) (hd : dp + need < recursionLimit) (hu : un + 8 * need < cLine) (ret : ∀ (r : Value) (o : Option (Int × Int)) tl h' tk', Fr h₀ L h' m → News h₀ L h' (news ++ tl) → (∀ q ∈ news, ∀ p ∈ tl, q.1 < p.1) → x = o → OIvAt (news ++ tl) r o → Q r { s with heap := h', toks := tk' }) : wpAny (model PG w) (ktrTop dp un gd cn cs L a ccd cl outer) (call (.ref f) vs) Q E s := gives_use C B F X N T hk hd hu fun r tl h' tk' F' N' ho hp => by
  obtain ⟨o, e, hp⟩ := hp
  exact ret _ _ _ _ _ F' N' ho e hp
theorem use_iv {x : Int × Int} (C : Gives w f vs news need (pIv x)) (B : Below A₀ base outer h₀) (F : Fr h₀ L s.heap m) (X : (hd.heap_39 w.params).In h₀) (N : News h₀ L s.heap news) (T : Top hd.view_39 loose mean mg mb h₀) (hk : cs.kind = .function) (hd : dp + need < recursionLimit) (hu : un + 8 * need < cLine) (ret : ∀ (p : Addr) (lo hi : Int) tl h' tk', Fr h₀ L h' m → News h₀ L h' (news ++ tl) → (∀ q ∈ news, ∀ p ∈ tl, q.1 < p.1) → x = (lo, hi) → IvAt (news ++ tl) (.ref p) lo hi → Q (.ref p) { s with heap := h', toks := tk' }) : wpAny (model PG w) (ktrTop dp un gd cn cs L a ccd cl outer) (call (.ref f) vs) Q E s := gives_use C B F X N T hk hd hu fun r tl h' tk' F' N' ho hp => by
  obtain ⟨p, lo, hi, q, e, hp⟩ := hp
  subst q
  exact ret _ _ _ _ _ _ F' N' ho e hp
theorem use_str {x : Str} (C : Gives w f vs news need (pStr x)) (B : Below A₀ base outer h₀) (F : Fr h₀ L s.heap m) (X : (hd.heap_39 w.params).In h₀) (N : News h₀ L s.heap news) (T : Top hd.view_39 loose mean mg mb h₀) (hk : cs.kind = .function) (hd : dp + need < recursionLimit) (hu : un + 8 * need < cLine) (ret : ∀ (t : Tok) tl h' tk', Fr h₀ L h' m → News h₀ L h' (news ++ tl) → (∀ q ∈ news, ∀ p ∈ tl, q.1 < p.1) → Q (.str x t) { s with heap := h', toks := tk' }) : wpAny (model PG w) (ktrTop dp un gd cn cs L a ccd cl outer) (call (.ref f) vs) Q E s := gives_use C B F X N T hk hd hu fun r tl h' tk' F' N' ho hp => by
  obtain ⟨t, q⟩ := hp
  subst q
  exact ret _ _ _ _ F' N' ho
theorem use_int {x : Int} (C : Gives w f vs news need (pInt x)) (B : Below A₀ base outer h₀) (F : Fr h₀ L s.heap m) (X : (hd.heap_39 w.params).In h₀) (N : News h₀ L s.heap news) (T : Top hd.view_39 loose mean mg mb h₀) (hk : cs.kind = .function) (hd : dp + need < recursionLimit) (hu : un + 8 * need < cLine) (ret : ∀ (t : Tok) tl h' tk', Fr h₀ L h' m → News h₀ L h' (news ++ tl) → (∀ q ∈ news, ∀ p ∈ tl, q.1 < p.1) → Q (.int x t) { s with heap := h', toks := tk' }) : wpAny (model PG w) (ktrTop dp un gd cn cs L a ccd cl outer) (call (.ref f) vs) Q E s := gives_use C B F X N T hk hd hu fun r tl h' tk' F' N' ho hp => by
  obtain ⟨t, q⟩ := hp
  subst q
  exact ret _ _ _ _ F' N' ho
theorem use_val {x : Value} (C : Gives w f vs news need (pVal x)) (B : Below A₀ base outer h₀) (F : Fr h₀ L s.heap m) (X : (hd.heap_39 w.params).In h₀) (N : News h₀ L s.heap news) (T : Top hd.view_39 loose mean mg mb h₀) (hk : cs.kind = .function) (hd : dp + need < recursionLimit) (hu : un + 8 * need < cLine) (ret : ∀ tl h' tk', Fr h₀ L h' m → News h₀ L h' (news ++ tl) → (∀ q ∈ news, ∀ p ∈ tl, q.1 < p.1) → Q x { s with heap := h', toks := tk' }) : wpAny (model PG w) (ktrTop dp un gd cn cs L a ccd cl outer) (call (.ref f) vs) Q E s := gives_use C B F X N T hk hd hu fun r tl h' tk' F' N' ho hp => by
  have q : r = x := hp
  subst q
  exact ret _ _ _ F' N' ho
end
theorem room3 {a p q b c : Nat} (h : a + b < c) (k : Nat.ble (p + q) b = true) : a + p + q < c := by have := Nat.le_of_ble_eq_true k; omega
theorem units3 {a p q b c : Nat} (h : a + 8 * b < c) (k : Nat.ble (p + 8 * q) (8 * b) = true) : a + p + 8 * q < c := by have := Nat.le_of_ble_eq_true k; omega
theorem room2 {a p b c : Nat} (h : a + b < c) (k : Nat.ble p b = true) : a + p < c := by have := Nat.le_of_ble_eq_true k; omega
theorem room1 {a b c : Nat} (h : a + b < c) : a < c := Nat.lt_of_le_of_lt (Nat.le_add_right a b) h
theorem room4 {a p r q b c : Nat} (h : a + b < c) (k : Nat.ble (p + r + q) b = true) : a + p + r + q < c := by have := Nat.le_of_ble_eq_true k; omega
theorem units4 {a p r q b c : Nat} (h : a + 8 * b < c) (k : Nat.ble (p + r + 8 * q) (8 * b) = true) : a + p + r + 8 * q < c := by have := Nat.le_of_ble_eq_true k; omega
theorem units5 {a p q b c : Nat} (h : a + 8 * b < c) (k : Nat.ble (p + q) (8 * b) = true) : a + p + q < c := by have := Nat.le_of_ble_eq_true k; omega
theorem lt_ble {a c : Nat} (h : Nat.ble (a + 1) c = true) : a < c := Nat.le_of_ble_eq_true h
/-- a room that is told ahead of the walk -/
noncomputable def Room (x c : Nat) : Prop := x < c
theorem roomOf {x c : Nat} (h : Room x c) : x < c := h
section
variable {a u b x y z c d : Nat}
theorem needs1y (p q r : Nat) (hd : a + (x + z) < c) (hu : u + 8 * (x + z) < d) (k1 : Nat.ble (p + q) z = true) (k2 : Nat.ble (r + 8 * q) (8 * z) = true) : a + z < c ∧ u + 8 * z < d ∧ Room (a + p + (x + q)) c ∧ Room (u + r + 8 * (x + q)) d := by
  have e1 : a + p + (x + q) = a + (x + (p + q)) := by omega
  have e2 : u + r + 8 * (x + q) = u + (8 * x + (r + 8 * q)) := by omega
  have e3 : 8 * (x + z) = 8 * x + 8 * z := Nat.mul_add 8 x z
  refine ⟨Nat.lt_of_le_of_lt (Nat.add_le_add_left (Nat.le_add_left z x) a) hd, Nat.lt_of_le_of_lt (Nat.add_le_add_left (Nat.mul_le_mul_left 8 (Nat.le_add_left z x)) u) hu, Nat.lt_of_le_of_lt (Nat.le_trans (Nat.le_of_eq e1) (Nat.add_le_add_left (Nat.add_le_add_left (Nat.le_of_ble_eq_true k1) x) a)) hd, ?_⟩
  rw [e3] at hu
  exact Nat.lt_of_le_of_lt (Nat.le_trans (Nat.le_of_eq e2) (Nat.add_le_add_left (Nat.add_le_add_left (Nat.le_of_ble_eq_true k2) (8 * x)) u)) hu
theorem needs1 (p q : Nat) (hd : a + (b + x) < c) (hu : u + 8 * (b + x) < d) (k1 : Nat.ble p b = true) (k2 : Nat.ble q (8 * b) = true) : a + b < c ∧ u + 8 * b < d ∧ Room (a + p + x) c ∧ Room (u + q + 8 * x) d := by
  rw [Nat.add_comm b x] at hd hu
  exact needs1y p 0 q hd hu k1 k2
theorem needs1z (p q r : Nat) (hd : a + (b + x + z) < c) (hu : u + 8 * (b + x + z) < d) (k1 : Nat.ble (p + q) (b + z) = true) (k2 : Nat.ble (r + 8 * q) (8 * (b + z)) = true) : a + (b + z) < c ∧ u + 8 * (b + z) < d ∧ Room (a + p + (x + q)) c ∧ Room (u + r + 8 * (x + q)) d := by
  rw [Nat.add_comm b x, Nat.add_assoc] at hd hu
  exact needs1y p q r hd hu k1 k2
theorem needs2 (p q : Nat) (hd : a + (b + max x y) < c) (hu : u + 8 * (b + max x y) < d) (k1 : Nat.ble p b = true) (k2 : Nat.ble q (8 * b) = true) : a + b < c ∧ u + 8 * b < d ∧ Room (a + p + x) c ∧ Room (u + q + 8 * x) d ∧ Room (a + p + y) c ∧ Room (u + q + 8 * y) d := by
  have l := Nat.add_le_add_left (Nat.le_max_left x y) b
  have r := Nat.add_le_add_left (Nat.le_max_right x y) b
  obtain ⟨h1, h2, h3, h4⟩ := needs1 p q (Nat.lt_of_le_of_lt (Nat.add_le_add_left l a) hd) (Nat.lt_of_le_of_lt (Nat.add_le_add_left (Nat.mul_le_mul_left 8 l) u) hu) k1 k2
  obtain ⟨_, _, h5, h6⟩ := needs1 p q (Nat.lt_of_le_of_lt (Nat.add_le_add_left r a) hd) (Nat.lt_of_le_of_lt (Nat.add_le_add_left (Nat.mul_le_mul_left 8 r) u) hu) k1 k2
  exact ⟨h1, h2, h3, h4, h5, h6⟩
theorem needs2z (p q r : Nat) (hd : a + (b + max x y + z) < c) (hu : u + 8 * (b + max x y + z) < d) (k1 : Nat.ble (p + q) (b + z) = true) (k2 : Nat.ble (r + 8 * q) (8 * (b + z)) = true) : a + (b + z) < c ∧ u + 8 * (b + z) < d ∧ Room (a + p + (x + q)) c ∧ Room (u + r + 8 * (x + q)) d ∧ Room (a + p + (y + q)) c ∧ Room (u + r + 8 * (y + q)) d := by
  have l := Nat.add_le_add_right (Nat.add_le_add_left (Nat.le_max_left x y) b) z
  have g := Nat.add_le_add_right (Nat.add_le_add_left (Nat.le_max_right x y) b) z
  obtain ⟨h1, h2, h3, h4⟩ := needs1z p q r (Nat.lt_of_le_of_lt (Nat.add_le_add_left l a) hd) (Nat.lt_of_le_of_lt (Nat.add_le_add_left (Nat.mul_le_mul_left 8 l) u) hu) k1 k2
  obtain ⟨_, _, h5, h6⟩ := needs1z p q r (Nat.lt_of_le_of_lt (Nat.add_le_add_left g a) hd) (Nat.lt_of_le_of_lt (Nat.add_le_add_left (Nat.mul_le_mul_left 8 g) u) hu) k1 k2
  exact ⟨h1, h2, h3, h4, h5, h6⟩
end
theorem lt_at {d a : Addr} {o : Obj} {X : Led} (h : ∀ q ∈ X, q.1 < a) (hm : (d, o) ∈ X) : @LT.lt Nat _ d a := h _ hm
theorem ne_at {d a : Addr} {o : Obj} {X : Led} (h : ∀ q ∈ X, q.1 < a) (hm : (d, o) ∈ X) : a ≠ d := Nat.ne_of_gt (h _ hm)
theorem ltAll_sub {a : Addr} {X l : Led} (h : ∀ q ∈ X, q.1 < a) (hs : ∀ q ∈ l, q ∈ X) : ∀ q ∈ l, q.1 < a := fun q hq => h q (hs q hq)
theorem ne_lt {d : Addr} {l : Led} (h : ∀ q ∈ l, q.1 < d) : ∀ q ∈ l, q.1 ≠ d := fun q hq => Nat.ne_of_lt (h q hq)
-- kct_strs: x ∈ ledger · kp_flats: a ledger within another · kba_ints: all lie before a new one · kas_types: all lie before a call's · kat_tups: NewIn · ktr_rel: a relation over the ledger
local macro_rules | `(tactic| kbo_bools) => `(tactic| first
  | with_reducible assumption
  | with_reducible exact List.mem_cons_self
  | (with_reducible refine' List.mem_cons_of_mem _ ?_; kbo_bools)
  | (with_reducible refine' List.mem_append_left _ ?_; kbo_bools)
  | (with_reducible refine' List.mem_append_right _ ?_; kbo_bools))
local macro_rules | `(tactic| kct_strs) => `(tactic| first
  | kbo_bools
  | (with_reducible refine' mem_sub ?h ?s; (case h => with_reducible assumption); (case s => kp_flats)))
local macro_rules | `(tactic| k_mem) => `(tactic| kct_strs)
local macro_rules | `(tactic| kts_caught) => `(tactic| first
  | with_reducible exact fun _ h => h
  | with_reducible assumption
  | (with_reducible refine sub_cons ?_; kts_caught)
  | (with_reducible refine sub_app ?_; kts_caught)
  | (with_reducible refine sub_appR ?_; kts_caught)
  | (with_reducible refine' sub_via ?h ?s; (case h => with_reducible assumption); (case s => kp_flats)))
local macro_rules | `(tactic| kp_flats) => `(tactic| first
  | with_reducible exact fun _ h => h
  | with_reducible assumption
  | (with_reducible refine sub_consL ?_ ?_; (focus kct_strs); kp_flats)
  | (with_reducible refine sub_appL ?_ ?_ <;> kp_flats)
  | ((fail_if_success (with_reducible refine sub_consL ?_ ?_)); (fail_if_success (with_reducible refine sub_appL ?_ ?_)); kts_caught))
local macro_rules | `(tactic| k_all) => `(tactic| first
  | with_reducible assumption
  | (with_reducible refine ne_lt ?_; kba_ints)
  | (with_reducible refine ne_sub (by with_reducible assumption) ?_; kp_flats)
  | (with_reducible refine' ord_ne (by with_reducible assumption) ?hm; (case hm => kct_strs))
  | (with_reducible refine ne_app ?_ ?_ <;> k_all)
  | (with_reducible refine ne_consM (by with_reducible assumption) ?_ ?_; (focus kct_strs); k_all))
local macro_rules | `(tactic| ktr_room) => `(tactic| first | exact room3 (by with_reducible assumption) (by rfl) | exact room2 (by with_reducible assumption) (by rfl) | exact room4 (by with_reducible assumption) (by rfl) | exact roomOf (by assumption) | exact lt_ble (by rfl) | exact room1 (by with_reducible assumption) | ((simp only [depth_under_make, depth_under_kw, depth_in1, depth_deeper, depth_caller]); (try dsimp only [ktrTop]); omega))
local macro_rules | `(tactic| ktr_units) => `(tactic| first | exact units3 (by with_reducible assumption) (by rfl) | exact units4 (by with_reducible assumption) (by rfl) | exact roomOf (by assumption) | exact lt_ble (by rfl) | exact units5 (by with_reducible assumption) (by rfl) | ((simp only [units_in1, units_deeper, Around.mark_units, units_caller]); (try dsimp only [ktrTop]); omega))
local macro_rules | `(tactic| size_fits) => `(tactic| k_dflt (exact Nat.le_of_ble_eq_true rfl))
local macro_rules | `(tactic| k_ne) => `(tactic| first
  | with_reducible assumption
  | with_reducible exact Ne.symm (by with_reducible assumption)
  | with_reducible exact Nat.ne_of_gt (by with_reducible assumption)
  | with_reducible exact Nat.ne_of_lt (by with_reducible assumption)
  | (with_reducible refine' ne_at ?h ?m; (case h => with_reducible assumption); (case m => kct_strs))
  | (with_reducible refine' Ne.symm (ne_at ?h ?m); (case h => with_reducible assumption); (case m => kct_strs))
  | fail)
local macro_rules | `(tactic| kba_ints) => `(tactic| first | with_reducible assumption | (with_reducible refine' ltAll_sub ?h ?s; (case h => with_reducible assumption); (case s => kp_flats)) | fail)
local macro_rules | `(tactic| k_lt $h) => `(tactic| skip)
local macro_rules | `(tactic| kas_types) => `(tactic| first | with_reducible assumption | (with_reducible refine ord_app ?_ ?_ <;> kas_types) | (with_reducible refine ord_sub (by with_reducible assumption) ?_; kp_flats))
local macro_rules | `(tactic| kat_tups) => `(tactic| first | with_reducible exact newIn_refl | (with_reducible refine newIn_cons ?_ ?_; (focus kba_ints); kat_tups) | (with_reducible refine newIn_app ?_ ?_; rotate_left; (focus kas_types); kat_tups))
local macro_rules | `(tactic| ktr_rel) => `(tactic| first
  | with_reducible assumption
  | with_reducible exact OIvAt.none
  | (with_reducible refine' IvAt.mono ?h ?s; (case h => with_reducible assumption); (case s => kp_flats))
  | (with_reducible refine' IvAt.mk ?q; (case q => kct_strs))
  | (with_reducible refine' OIvAt.some ?q; (case q => ktr_rel))
  | (with_reducible refine' OIvAt.mono ?h ?s; (case h => with_reducible assumption); (case s => kp_flats)))
local macro_rules | `(tactic| keq_rows) => `(tactic| ((with_reducible show (_ : Prop)); first | with_reducible assumption | ktr_rel | rfl))
local macro_rules | `(tactic| ktf_call $t) => `(tactic| (refine' $t ?k1 ?k2 ?k3 ?k4 ?k5 ?kK ?kd ?ku (hold ?_); (case k1 => k_asm); (case k2 => k_asm); (case k3 => k_asm); (case k4 => k_asm); (case k5 => k_asm); (case kK => first | exact rfl | assumption); (all_goals (try (keq_rows; done))); (try (case kd => ktr_room)); (try (case ku => ktr_units)); (all_goals (with_reducible show Hold _)); (refine unhold ?_); (repeat' (refine And.intro ?_ ?_)); (all_goals (intros; (with_reducible rename News _ _ _ _ => N9); (try simp only [List.nil_append, List.cons_append, List.append_nil, List.append_assoc] at N9); (try dsimp only); (try k_fold)))))
local macro_rules | `(tactic| k_caught0) => `(tactic| row_timed "" (fail))
local macro_rules | `(tactic| row_timed "" ($t)) => `(tactic| repeat' (first | (k_unfold; (try dsimp only)) | with_reducible ($t) | walk1 | (dsimp only; with_reducible ($t)) | (dsimp only; walk1)))
local macro_rules | `(tactic| k_caughtN0) => `(tactic| (refine code_def (by k_asm) (by k_asm) (by k_asm) (by k_asm) (by k_asm) (by exact rfl) (by exact rfl) (by first | exact rfl | assumption) (by k_is) (by k_is) (by ktr_room) (by first | exact BindsTo.of_eq rfl | exact binds_K (by k_in) rfl (by k_is) rfl rfl rfl) (by exact locs rfl) ?_ (by exact rfl) (by exact rfl) (by exact rfl) (by decide); k_whole; intro g' L' h' FG' F' N' B' X' T'; (try dsimp only); (try k_fold)))
noncomputable def maxI (a c : Int) : Int := if c > a then c else a
noncomputable def minI (b d : Int) : Int := if d < b then d else b
noncomputable def meetI (a b c d : Int) : Option (Int × Int) := if maxI a c > minI b d then none else some (maxI a c, minI b d)

theorem meet_gives {w : World} {vx vy : Value} {a b c d : Int} {news : Led} (hx : IvAt news vx a b) (hy : IvAt news vy c d) :
    Gives w 105 [vx, vy] news 1 (pOIv (meetI a b c d)) := by
  unfold Gives
  intro loose mean mg mb dp un gd cn cs aa ccd cl outer A₀ base h₀ L m s Q E B F X N T hk hd hu hret
  cases hx with | mk hx =>
  cases hy with | mk hy =>
  refine wpAny_call ?_
  k_dflt ktr_enter
  k_caught0
  · refine hret _ _ _ _ (by assumption) (by assumption) (fun _ h => h) newIn_refl ⟨_, ?_, .none⟩
    exact if_pos (by assumption)
  · refine hret _ _ _ _ (by assumption) (by assumption) (fun _ h => .tail _ h) (newIn_cons (by assumption) newIn_refl) ⟨_, ?_, .some (.mk (.head _))⟩
    exact if_neg (by assumption)
noncomputable def belowI (a b c d g : Int) : Option ((Int × Int) × (Int × Int)) :=
  if d - g < -2147483648 ∨ a + g > 2147483647 then none else
    match meetI a b (-2147483648) (d - g), meetI c d (a + g) 2147483647 with
    | some l, some r => some (l, r)
    | _, _ => none
/-- a pair of intervals, or None -/
inductive OPrAt (news : Led) : Value → Option ((Int × Int) × (Int × Int)) → Prop
  | none : OPrAt news .none none
  | some {p u v : Addr} {a b c d : Int} {n : Nat} : (p, tupObj [.ref u, .ref v] n) ∈ news → IvAt news (.ref u) a b → IvAt news (.ref v) c d → OPrAt news (.ref p) (some ((a, b), (c, d)))
theorem OPrAt.mono {news news' : Led} {v : Value} {o : Option ((Int × Int) × (Int × Int))} (h : OPrAt news v o) (hs : ∀ p ∈ news, p ∈ news') : OPrAt news' v o := by
  cases h with
  | none => exact .none
  | some h k l => exact .some (hs _ h) (k.mono hs) (l.mono hs)
noncomputable def pOPr (x : Option ((Int × Int) × (Int × Int))) : Pst := ⟨fun l v => ∃ o, x = o ∧ OPrAt l v o, fun ⟨o, e, h⟩ hs => ⟨o, e, h.mono hs⟩⟩

local macro_rules | `(tactic| ktr_rel) => `(tactic| first
  | with_reducible exact OPrAt.none
  | (with_reducible refine' OPrAt.some ?q ?r ?t; (case q => kct_strs); (case r => ktr_rel); (case t => ktr_rel)))

section
variable {w : World} {f : Addr} {vs : List Value} {news : Led} {need : Nat} {loose : List Str} {mean : ExcName → Option Value} {mg mb : Str → Option Value} {dp un : Nat} {gd : Option (List Code)} {cn : Str} {cs : Scope} {a : Addr} {ccd : Value} {cl : List (Str × Addr)} {outer : List Env} {A₀ : Around} {base h₀ : Heap} {L : Addr} {m : Str → Option Value} {s : Shared} {Q E : Value → Shared → Prop}
theorem use_opr {x : Option ((Int × Int) × (Int × Int))} (C : Gives w f vs news need (pOPr x)) (B : Below A₀ base outer h₀) (F : Fr h₀ L s.heap m) (X : (hd.heap_39 w.params).In h₀) (N : News h₀ L s.heap news) (T : Top hd.view_39 loose mean mg mb h₀) (hk : cs.kind = .function) (hd : dp + need < recursionLimit) (hu : un + 8 * need < cLine) (ret : (∀ tl h' tk', Fr h₀ L h' m → News h₀ L h' (news ++ tl) → (∀ q ∈ news, ∀ p ∈ tl, q.1 < p.1) → x = none → Q .none { s with heap := h', toks := tk' }) ∧ (∀ (p u v : Addr) (a b c d : Int) (n : Nat) tl h' tk', Fr h₀ L h' m → News h₀ L h' (news ++ tl) → (∀ q ∈ news, ∀ p ∈ tl, q.1 < p.1) → x = some ((a, b), (c, d)) → (p, tupObj [.ref u, .ref v] n) ∈ news ++ tl → IvAt (news ++ tl) (.ref u) a b → IvAt (news ++ tl) (.ref v) c d → Q (.ref p) { s with heap := h', toks := tk' })) : wpAny (model PG w) (ktrTop dp un gd cn cs L a ccd cl outer) (call (.ref f) vs) Q E s := gives_use C B F X N T hk hd hu fun r tl h' tk' F' N' ho hp => by
  obtain ⟨o, e, hp⟩ := hp
  cases hp with
  | none => exact ret.1 _ _ _ F' N' ho e
  | some h1 h2 h3 => exact ret.2 _ _ _ _ _ _ _ _ _ _ _ F' N' ho e h1 h2 h3
end
section
variable {a b c d g : Int} {l r : Int × Int}
theorem belowI_1 (h : d - g < -2147483648) : belowI a b c d g = none := if_pos (.inl h)
theorem belowI_2 (h : 2147483647 < a + g) : belowI a b c d g = none := if_pos (.inr h)
theorem belowI_3 (h : ¬ d - g < -2147483648) (k : ¬ 2147483647 < a + g) (e : meetI a b (-2147483648) (d - g) = none) : belowI a b c d g = none := by
  rw [belowI, if_neg (by omega), e]
theorem belowI_4 (h : ¬ d - g < -2147483648) (k : ¬ 2147483647 < a + g) (e : meetI c d (a + g) 2147483647 = none) : belowI a b c d g = none := by
  rw [belowI, if_neg (by omega), e]; cases meetI a b (-2147483648) (d - g) <;> rfl
theorem belowI_5 (h : ¬ d - g < -2147483648) (k : ¬ 2147483647 < a + g) (e : meetI a b (-2147483648) (d - g) = some l) (f : meetI c d (a + g) 2147483647 = some r) : belowI a b c d g = some (l, r) := by
  rw [belowI, if_neg (by omega), e, f]
end
theorem below_gives {w : World} {vx vy : Value} {a b c d g : Int} {t : Tok} {news : Led} (hx : IvAt news vx a b) (hy : IvAt news vy c d) :
    Gives w 112 [vx, vy, .int g t] news 2 (pOPr (belowI a b c d g)) := by
  unfold Gives
  intro loose mean mg mb dp un gd cn cs aa ccd cl outer A₀ base h₀ L m s Q E B F X N T hk hd hu hret
  cases hx with | mk hx =>
  cases hy with | mk hy =>
  refine wpAny_call ?_
  k_dflt ktr_enter
  row_timed "" (first | (guard_target = wpAny _ _ (call (Value.ref _) _) _ _ _; (k_here; k_dflt (ktf_call (use_oiv (meet_gives ?_ ?_))))))
  all_goals refine hret _ _ _ _ (by assumption) (by assumption) (by kp_flats) (by kat_tups) ?_
  all_goals refine exR (by ktr_rel) ?_
  all_goals first | exact belowI_1 (by assumption) | exact belowI_2 (by assumption) | exact belowI_3 (by assumption) (by assumption) (by assumption) | exact belowI_4 (by assumption) (by assumption) (by assumption) | exact belowI_5 (by assumption) (by assumption) (by assumption) (by assumption)
noncomputable def withoutI (a b n : Int) : Option (Int × Int) := if a = n ∧ b = n then none else if a = n then some (n + 1, b) else if b = n then some (a, n - 1) else some (a, b)
section
variable {a b n : Int}
theorem withoutI_1 (h : a = n) (k : b = n) : withoutI a b n = none := if_pos ⟨h, k⟩
theorem withoutI_2 (h : a = n) (k : ¬ b = n) : withoutI a b n = some (n + 1, b) := by rw [withoutI, if_neg (fun x => k x.2), if_pos h]
theorem withoutI_3 (h : ¬ a = n) (k : b = n) : withoutI a b n = some (a, n - 1) := by rw [withoutI, if_neg (fun x => h x.1), if_neg h, if_pos k]
theorem withoutI_4 (h : ¬ a = n) (k : ¬ b = n) : withoutI a b n = some (a, b) := by rw [withoutI, if_neg (fun x => h x.1), if_neg h, if_neg k]
end
theorem without_gives {w : World} {vx : Value} {a b n : Int} {t : Tok} {news : Led} (hx : IvAt news vx a b) :
    Gives w 119 [vx, .int n t] news 1 (pOIv (withoutI a b n)) := by
  unfold Gives
  intro loose mean mg mb dp un gd cn cs aa ccd cl outer A₀ base h₀ L m s Q E B F X N T hk hd hu hret
  cases hx with | mk hx =>
  refine wpAny_call ?_
  k_dflt ktr_enter
  k_caught0
  all_goals refine hret _ _ _ _ (by assumption) (by assumption) (by kp_flats) (by kat_tups) ?_
  all_goals refine exR (by ktr_rel) ?_
  all_goals first | contradiction | exact withoutI_1 (by assumption) (by assumption) | exact withoutI_2 (by assumption) (by assumption) | exact withoutI_3 (by assumption) (by assumption) | exact withoutI_4 (by assumption) (by assumption)

noncomputable def sideI (a b c d : Int) : Option (Int × Int) := if c = d then withoutI a b c else some (a, b)
noncomputable def apartI (a b c d : Int) : Option ((Int × Int) × (Int × Int)) := match sideI a b c d, sideI c d a b with
  | some l, some r => some (l, r)
  | _, _ => none
section
variable {a b c d : Int} {l r : Int × Int} {o : Option (Int × Int)}
theorem sideI_1 (h : c = d) (e : withoutI a b c = o) : sideI a b c d = o := by rw [sideI, if_pos h, e]
theorem sideI_2 (h : ¬ c = d) : sideI a b c d = some (a, b) := by rw [sideI, if_neg h]
theorem apartI_1 (h : sideI a b c d = none) : apartI a b c d = none := by rw [apartI, h]
theorem apartI_2 (h : sideI c d a b = none) : apartI a b c d = none := by rw [apartI, h]; cases sideI a b c d <;> rfl
theorem apartI_3 (h : sideI a b c d = some l) (k : sideI c d a b = some r) : apartI a b c d = some (l, r) := by rw [apartI, h, k]
end

theorem apart_gives {w : World} {vx vy : Value} {a b c d : Int} {news : Led} (hx : IvAt news vx a b) (hy : IvAt news vy c d) :
    Gives w 126 [vx, vy] news 2 (pOPr (apartI a b c d)) := by
  unfold Gives
  intro loose mean mg mb dp un gd cn cs aa ccd cl outer A₀ base h₀ L m s Q E B F X N T hk hd hu hret
  cases hx with | mk hx =>
  cases hy with | mk hy =>
  refine wpAny_call ?_
  k_dflt ktr_enter
  row_timed "" (first | (guard_target = wpAny _ _ (call (Value.ref _) _) _ _ _; (k_here; k_dflt (ktf_call (use_oiv (without_gives ?_))))))
  all_goals refine hret _ _ _ _ (by assumption) (by assumption) (by kp_flats) (by kat_tups) ?_
  all_goals refine exR (by ktr_rel) ?_
  all_goals first
    | exact apartI_1 (by first | exact sideI_1 (by assumption) (by assumption) | exact sideI_2 (by assumption))
    | exact apartI_2 (by first | exact sideI_1 (by assumption) (by assumption) | exact sideI_2 (by assumption))
    | exact apartI_3 (by first | exact sideI_1 (by assumption) (by assumption) | exact sideI_2 (by assumption)) (by first | exact sideI_1 (by assumption) (by assumption) | exact sideI_2 (by assumption))
noncomputable def joinI (a b c d : Int) : Int × Int := (if c < a then c else a, if d > b then d else b)
theorem exIv {l : Led} {p : Addr} {a b : Int} {x : Int × Int} (r : IvAt l (.ref p) a b) (e : x = (a, b)) : (pIv x).P l (.ref p) := ⟨p, a, b, rfl, e, r⟩
theorem join_gives {w : World} {vx vy : Value} {a b c d : Int} {news : Led} (hx : IvAt news vx a b) (hy : IvAt news vy c d) :
    Gives w 98 [vx, vy] news 1 (pIv (joinI a b c d)) := by
  unfold Gives
  intro loose mean mg mb dp un gd cn cs aa ccd cl outer A₀ base h₀ L m s Q E B F X N T hk hd hu hret
  cases hx with | mk hx =>
  cases hy with | mk hy =>
  refine wpAny_call ?_
  k_dflt ktr_enter
  k_caught0
  all_goals refine hret _ _ _ _ (by assumption) (by assumption) (by kp_flats) (by kat_tups) ?_
  all_goals exact exIv (by ktr_rel) rfl
theorem full_gives {w : World} {news : Led} : Gives w 21 [] news 1 (pIv (-2147483648, 2147483647)) := by
  unfold Gives
  intro loose mean mg mb dp un gd cn cs aa ccd cl outer A₀ base h₀ L m s Q E B F X N T hk hd hu hret
  refine wpAny_call ?_
  k_dflt ktr_enter
  k_caught0
  all_goals refine hret _ _ _ _ (by assumption) (by assumption) (by kp_flats) (by kat_tups) ?_
  all_goals exact exIv (by ktr_rel) rfl
theorem single_gives {w : World} {news : Led} {n : Int} {t : Tok} : Gives w 28 [.int n t] news 1 (pIv (n, n)) := by
  unfold Gives
  intro loose mean mg mb dp un gd cn cs aa ccd cl outer A₀ base h₀ L m s Q E B F X N T hk hd hu hret
  refine wpAny_call ?_
  k_dflt ktr_enter
  k_caught0
  all_goals refine hret _ _ _ _ (by assumption) (by assumption) (by kp_flats) (by kat_tups) ?_
  all_goals exact exIv (by ktr_rel) rfl

noncomputable def knownI : Option (Int × Int) → Int × Int
  | none => (-2147483648, 2147483647)
  | some x => x
theorem known_gives {w : World} {vx : Value} {o : Option (Int × Int)} {news : Led} (hx : OIvAt news vx o) : Gives w 225 [vx] news 2 (pIv (knownI o)) := by
  unfold Gives
  intro loose mean mg mb dp un gd cn cs aa ccd cl outer A₀ base h₀ L m s Q E B F X N T hk hd hu hret
  cases hx
  all_goals
    refine wpAny_call ?_
    k_dflt ktr_enter
    row_timed "" (first | (guard_target = wpAny _ _ (call (Value.ref _) _) _ _ _; (k_here; k_dflt (ktf_call (use_iv (full_gives))))))
  all_goals refine hret _ _ _ _ (by assumption) (by assumption) (by kp_flats) (by kat_tups) ?_
  all_goals first | exact exIv (by ktr_rel) rfl | exact exIv (by ktr_rel) (by assumption)
noncomputable def clipI (lo hi : Int) : Int × Int :=
  if maxI lo (-2147483648) > minI hi 2147483647 then (-2147483648, 2147483647) else (maxI lo (-2147483648), minI hi 2147483647)
/-- a pair of an interval and a bool -/
noncomputable def pIvB (x : Int × Int) : Pst := ⟨fun l v => ∃ q p t n a b, v = .ref q ∧ (q, tupObj [.ref p, .bool t] n) ∈ l ∧ x = (a, b) ∧ IvAt l (.ref p) a b, fun ⟨q, p, t, n, a, b, e, k, f, h⟩ hs => ⟨q, p, t, n, a, b, e, hs _ k, f, h.mono hs⟩⟩
theorem exIvB {l : Led} {q p : Addr} {t : Bool} {n : Nat} {a b : Int} {x : Int × Int} (k : (q, tupObj [.ref p, .bool t] n) ∈ l) (r : IvAt l (.ref p) a b) (e : x = (a, b)) : (pIvB x).P l (.ref q) := ⟨q, p, t, n, a, b, rfl, k, e, r⟩
section
variable {w : World} {f : Addr} {vs : List Value} {news : Led} {need : Nat} {loose : List Str} {mean : ExcName → Option Value} {mg mb : Str → Option Value} {dp un : Nat} {gd : Option (List Code)} {cn : Str} {cs : Scope} {a : Addr} {ccd : Value} {cl : List (Str × Addr)} {outer : List Env} {A₀ : Around} {base h₀ : Heap} {L : Addr} {m : Str → Option Value} {s : Shared} {Q E : Value → Shared → Prop}
theorem use_ivb {x : Int × Int} (C : Gives w f vs news need (pIvB x)) (B : Below A₀ base outer h₀) (F : Fr h₀ L s.heap m) (X : (hd.heap_39 w.params).In h₀) (N : News h₀ L s.heap news) (T : Top hd.view_39 loose mean mg mb h₀) (hk : cs.kind = .function) (hd : dp + need < recursionLimit) (hu : un + 8 * need < cLine) (ret : ∀ (q p : Addr) (t : Bool) (n : Nat) (lo hi : Int) tl h' tk', Fr h₀ L h' m → News h₀ L h' (news ++ tl) → (∀ q ∈ news, ∀ p ∈ tl, q.1 < p.1) → (q, tupObj [.ref p, .bool t] n) ∈ news ++ tl → x = (lo, hi) → IvAt (news ++ tl) (.ref p) lo hi → Q (.ref q) { s with heap := h', toks := tk' }) : wpAny (model PG w) (ktrTop dp un gd cn cs L a ccd cl outer) (call (.ref f) vs) Q E s := gives_use C B F X N T hk hd hu fun r tl h' tk' F' N' ho hp => by
  obtain ⟨q, p, t, n, lo, hi, z, k, e, hp⟩ := hp
  subst z
  exact ret _ _ _ _ _ _ _ _ _ F' N' ho k e hp
end
theorem clipped_gives {w : World} {lo hi : Int} {t u : Tok} {news : Led} : Gives w 35 [.int lo t, .int hi u] news 2 (pIvB (clipI lo hi)) := by
  unfold Gives
  intro loose mean mg mb dp un gd cn cs aa ccd cl outer A₀ base h₀ L m s Q E B F X N T hk hd hu hret
  refine wpAny_call ?_
  k_dflt ktr_enter
  row_timed "" (first | (guard_target = wpAny _ _ (call (Value.ref _) _) _ _ _; (k_here; k_dflt (ktf_call (use_iv (full_gives))))))
  all_goals refine hret _ _ _ _ (by assumption) (by assumption) (by kp_flats) (by kat_tups) ?_
  all_goals refine exIvB (by kct_strs) (by ktr_rel) ?_
  all_goals first | exact if_neg (by assumption) | (rw [clipI, if_pos (by assumption)]; first | rfl | assumption)

noncomputable def addI (a b c d : Int) : Int × Int := clipI (a + c) (b + d)
theorem add_gives {w : World} {vx vy : Value} {a b c d : Int} {news : Led} (hx : IvAt news vx a b) (hy : IvAt news vy c d) :
    Gives w 42 [vx, vy] news 3 (pIvB (addI a b c d)) := by
  unfold Gives
  intro loose mean mg mb dp un gd cn cs aa ccd cl outer A₀ base h₀ L m s Q E B F X N T hk hd hu hret
  cases hx with | mk hx =>
  cases hy with | mk hy =>
  refine wpAny_call ?_
  k_dflt ktr_enter
  row_timed "" (first | (guard_target = wpAny _ _ (call (Value.ref _) _) _ _ _; (k_here; k_dflt (ktf_call (use_ivb (clipped_gives))))))
  all_goals refine hret _ _ _ _ (by assumption) (by assumption) (by kp_flats) (by kat_tups) ?_
  all_goals exact exIvB (by kct_strs) (by ktr_rel) (by assumption)
inductive Rel where
  | eq | ne | lt | le | gt | ge
noncomputable def Rel.txt : Rel → Str
  | eq => Str.ofString "=" | ne => Str.ofString "#" | lt => Str.ofString "<" | le => Str.ofString "<=" | gt => Str.ofString ">" | ge => Str.ofString ">="
noncomputable def Rel.opp : Rel → Rel
  | eq => ne | ne => eq | lt => ge | ge => lt | gt => le | le => gt
theorem opposite_gives {w : World} {news : Led} (r : Rel) {t : Tok} : Gives w 140 [.str r.txt t] news 1 (pStr r.opp.txt) := by
  unfold Gives
  intro loose mean mg mb dp un gd cn cs aa ccd cl outer A₀ base h₀ L m s Q E B F X N T hk hd hu hret
  refine wpAny_call ?_
  k_dflt ktr_enter
  row_timed "" (first | (guard_target = wpAny _ _ (eval (Expr.Dict ..) _) _ _ _; (k_here; k_dflt (refine kdn_str (by rfl) (by k_asm) (by first | k_asm | exact News.nil) (by exact Top.nolimit (by k_asm)) (by rfl) (by rfl) (by exact List.cons_ne_nil _ _) (by exact Nat.le_of_ble_eq_true rfl) ?_); intro d'z h'z o'z F'z N'z l1z lo'z hd'z; (try k_lt l1z))) | (guard_target = wpAny _ _ (evalPairs _) _ _ _; ((try dsimp only); first | refine pairTrees_cons_walk ?_ | refine pairTrees_nil_walk ?_)))
  all_goals first
    | (rename r.txt = _ => h9; cases r <;> first | exact absurd h9 (by decide) | (refine hret _ _ _ _ (by assumption) (by assumption) (by kp_flats) (by kat_tups) ?_; exact ⟨_, rfl⟩))
    | (exfalso; cases r <;> first | exact (‹¬Rel.txt .eq = Str.ofString "="› rfl).elim | exact (‹¬Rel.txt .ne = Str.ofString "#"› rfl).elim | exact (‹¬Rel.txt .lt = Str.ofString "<"› rfl).elim | exact (‹¬Rel.txt .le = Str.ofString "<="› rfl).elim | exact (‹¬Rel.txt .gt = Str.ofString ">"› rfl).elim | exact (‹¬Rel.txt .ge = Str.ofString ">="› rfl).elim)
noncomputable def swapP : Option ((Int × Int) × (Int × Int)) → Option ((Int × Int) × (Int × Int))
  | none => none
  | some (x, y) => some (y, x)
noncomputable def narrowI : Rel → Int → Int → Int → Int → Option ((Int × Int) × (Int × Int))
  | .eq, a, b, c, d => (meetI a b c d).map fun m => (m, m)
  | .ne, a, b, c, d => apartI a b c d
  | .lt, a, b, c, d => belowI a b c d 1
  | .le, a, b, c, d => belowI a b c d 0
  | .gt, a, b, c, d => swapP (belowI c d a b 1)
  | .ge, a, b, c, d => swapP (belowI c d a b 0)
theorem map_1 {o : Option (Int × Int)} (h : o = none) : (o.map fun m => (m, m)) = none := by rw [h]; rfl
theorem map_2 {o : Option (Int × Int)} {x : Int × Int} (h : o = some x) : (o.map fun m => (m, m)) = some (x, x) := by rw [h]; rfl
theorem swapP_1 {o : Option ((Int × Int) × (Int × Int))} (h : o = none) : swapP o = none := by rw [h]; rfl
theorem swapP_2 {o : Option ((Int × Int) × (Int × Int))} {x y : Int × Int} (h : o = some (x, y)) : swapP o = some (y, x) := by rw [h]; rfl
theorem narrow_gives {w : World} {vx vy : Value} {a b c d : Int} {news : Led} (r : Rel) {t : Tok} (hx : IvAt news vx a b) (hy : IvAt news vy c d) :
    Gives w 133 [.str r.txt t, vx, vy] news 4 (pOPr (narrowI r a b c d)) := by
  unfold Gives
  intro loose mean mg mb dp un gd cn cs aa ccd cl outer A₀ base h₀ L m s Q E B F X N T hk hd hu hret
  cases r
  all_goals
    simp only [Rel.txt, narrowI] at hret ⊢
    refine wpAny_call ?_
    k_dflt ktr_enter
    row_timed "" (first | (guard_target = wpAny _ _ (call (Value.ref _) _) _ _ _; (first | (k_here; k_dflt (first | ktf_call (use_oiv (without_gives ?_)) | ktf_call (use_opr (apart_gives ?_ ?_)))) | (k_here; k_dflt (ktf_call (use_opr (below_gives ?_ ?_)))) | (k_here; k_dflt (ktf_call (use_oiv (meet_gives ?_ ?_)))))))
  all_goals refine hret _ _ _ _ (by assumption) (by assumption) (by kp_flats) (by kat_tups) ?_
  all_goals refine exR (by ktr_rel) ?_
  all_goals first | assumption | exact map_1 (by assumption) | exact map_2 (by assumption) | exact swapP_1 (by assumption) | exact swapP_2 (by assumption)
noncomputable def sl : Bool → Int
  | false => 0
  | true => 1
/-- an object that the law or the callee turns: the law's state, the ranges' own dict -/
noncomputable def Mut (o : Obj) : Bool := match o.data with
  | .dict es _ => es.toList.any fun e => e.key.isStr (Str.ofString "marking")
  | .seq xs _ => o.cls == .type "list" && (match xs.toList with | [_, .int _ _] => true | _ => false)
  | .fields _ => true
  | _ => false
theorem mut_inst {C dx : Addr} : Mut (instObj C dx) = false := rfl
theorem mut_tup {vs : List Value} {n : Nat} : Mut (tupObj vs n) = false := by
  have e : (Value.type "tuple" == Value.type "list") = false := by decide
  unfold Mut tupObj
  dsimp only
  rw [e, Bool.false_and]
theorem mut_intDict {w : World} {o : Obj} {kvs : List (Int × Value)} (h : o.IsDictOf (intKind PG w) kvs) : Mut o = false := by
  obtain ⟨es, ep, _, hd, hk, _⟩ := h
  unfold Mut
  rw [hd]
  dsimp only
  rw [List.any_eq_false]
  intro e he
  obtain ⟨k, hk, _⟩ := hk e (by simpa using he)
  obtain ⟨t, hv⟩ := Value.isInt_shape hk
  rw [hv]
  exact Bool.false_ne_true
theorem drop_mut {I : Addr} {it : Obj} {l : Led} (h : Mut it = true) : ∀ p ∈ (I, it) :: l, Mut p.2 = false → p ∈ l := fun p hp hm => by
  rcases List.mem_cons.mp hp with rfl | hp
  · rw [h] at hm; cases hm
  · exact hp
theorem IvAt.stay {news news' : Led} {v : Value} {lo hi : Int} (h : IvAt news v lo hi) (hs : ∀ p ∈ news, Mut p.2 = false → p ∈ news') : IvAt news' v lo hi := by
  cases h with | mk h => exact .mk (hs _ h mut_tup)
theorem OIvAt.stay {news news' : Led} {v : Value} {o : Option (Int × Int)} (h : OIvAt news v o) (hs : ∀ p ∈ news, Mut p.2 = false → p ∈ news') : OIvAt news' v o := by
  cases h with
  | none => exact .none
  | some h => exact .some (h.stay hs)
/-- a type of the program's, its form -/
inductive TyAt (news : Led) : Addr → Str → Prop
  | mk {x dx : Addr} {es : List DictEntry} {n : Nat} {f : Str} {t : Tok} : (x, instObj 324 dx) ∈ news → (dx, dictOf es n) ∈ news → getL (Str.ofString "form") es = some (some (.str f t)) → Mut (dictOf es n) = false → TyAt news x f
theorem TyAt.mono {news news' : Led} {v : Addr} {f : Str} (h : TyAt news v f) (hs : ∀ p ∈ news, p ∈ news') : TyAt news' v f := by
  cases h with | mk a b c d => exact .mk (hs _ a) (hs _ b) c d
theorem TyAt.stay {news news' : Led} {v : Addr} {f : Str} (h : TyAt news v f) (hs : ∀ p ∈ news, Mut p.2 = false → p ∈ news') : TyAt news' v f := by
  cases h with | mk a b c d => exact .mk (hs _ a rfl) (hs _ b d) c d
/-- a variable's object: level 1, its slot -/
inductive ObjAt (news : Led) : Addr → Bool → Prop
  | mk {x dx : Addr} {es : List DictEntry} {n : Nat} {b : Bool} {t u : Tok} : (x, instObj 345 dx) ∈ news → (dx, dictOf es n) ∈ news → getL (Str.ofString "level") es = some (some (.int 1 t)) → getL (Str.ofString "slot") es = some (some (.int (sl b) u)) → Mut (dictOf es n) = false → ObjAt news x b
theorem ObjAt.mono {news news' : Led} {v : Addr} {f : Bool} (h : ObjAt news v f) (hs : ∀ p ∈ news, p ∈ news') : ObjAt news' v f := by
  cases h with | mk a b c d e => exact .mk (hs _ a) (hs _ b) c d e
theorem ObjAt.stay {news news' : Led} {v : Addr} {f : Bool} (h : ObjAt news v f) (hs : ∀ p ∈ news, Mut p.2 = false → p ∈ news') : ObjAt news' v f := by
  cases h with | mk a b c d e => exact .mk (hs _ a rfl) (hs _ b e) c d e
/-- a node: its op, type, kids and value; it is not marked -/
inductive NodeAt (news : Led) : Addr → Str → Addr → List Value → Value → Prop
  | mk {x dx k ty : Addr} {es : List DictEntry} {n kn : Nat} {op : Str} {kids : List Value} {value : Value} {t : Tok} : (x, instObj 158 dx) ∈ news → (dx, dictOf es n) ∈ news → (k, listOf kids.toArray kn) ∈ news →
      getL (Str.ofString "op") es = some (some (.str op t)) → getL (Str.ofString "type") es = some (some (.ref ty)) → getL (Str.ofString "kids") es = some (some (.ref k)) → getL (Str.ofString "value") es = some (some value) →
      getL (Str.ofString "sure") es = some (some (.bool false)) → Mut (dictOf es n) = false → Mut (listOf kids.toArray kn) = false → NodeAt news x op ty kids value
theorem NodeAt.mono {news news' : Led} {x ty : Addr} {op : Str} {kids : List Value} {value : Value} (h : NodeAt news x op ty kids value) (hs : ∀ p ∈ news, p ∈ news') : NodeAt news' x op ty kids value := by
  cases h with | mk a b c d e f g i j k => exact .mk (hs _ a) (hs _ b) (hs _ c) d e f g i j k
theorem NodeAt.stay {news news' : Led} {x ty : Addr} {op : Str} {kids : List Value} {value : Value} (h : NodeAt news x op ty kids value) (hs : ∀ p ∈ news, Mut p.2 = false → p ∈ news') : NodeAt news' x op ty kids value := by
  cases h with | mk a b c d e f g i j k => exact .mk (hs _ a rfl) (hs _ b j) (hs _ c k) d e f g i j k
inductive Ex where
  | con (n : Int) | var (s : Bool) | plus (l r : Ex) | ord (e : Ex) | rel (r : Rel) (x y : Ex) | nt (e : Ex) | land (x y : Ex) | lor (x y : Ex)
/-- the node's type is the boolean -/
inductive BoolAt (news : Led) : Addr → Prop
  | mk {x dx ty : Addr} {es : List DictEntry} {n : Nat} : (x, instObj 158 dx) ∈ news → (dx, dictOf es n) ∈ news → getL (Str.ofString "type") es = some (some (.ref ty)) → TyAt news ty (Str.ofString "boolean") → Mut (dictOf es n) = false → BoolAt news x
theorem BoolAt.mono {news news' : Led} {x : Addr} (h : BoolAt news x) (hs : ∀ p ∈ news, p ∈ news') : BoolAt news' x := by
  cases h with | mk a b c d e => exact .mk (hs _ a) (hs _ b) c (d.mono hs) e
theorem BoolAt.stay {news news' : Led} {x : Addr} (h : BoolAt news x) (hs : ∀ p ∈ news, Mut p.2 = false → p ∈ news') : BoolAt news' x := by
  cases h with | mk a b c d e => exact .mk (hs _ a rfl) (hs _ b e) c (d.stay hs) e
/-- the ledger bears the tree at this address -/
inductive ExAt (news : Led) : Addr → Ex → Prop
  | con {v ty : Addr} {n : Int} {t : Tok} : NodeAt news v (Str.ofString "const") ty [] (.int n t) → TyAt news ty (Str.ofString "integer") → ExAt news v (.con n)
  | var {v ty ob : Addr} {s : Bool} : NodeAt news v (Str.ofString "var") ty [] (.ref ob) → TyAt news ty (Str.ofString "integer") → ObjAt news ob s → ExAt news v (.var s)
  | plus {v ty a b : Addr} {l r : Ex} : NodeAt news v (Str.ofString "+") ty [.ref a, .ref b] .none → TyAt news ty (Str.ofString "integer") → ExAt news a l → ExAt news b r → ExAt news v (.plus l r)
  | ord {v ty a : Addr} {e : Ex} {t : Tok} : NodeAt news v (Str.ofString "std") ty [.ref a] (.str (Str.ofString "ORD") t) → TyAt news ty (Str.ofString "integer") → ExAt news a e → BoolAt news a → ExAt news v (.ord e)
  | rel {v ty a b : Addr} {o : Rel} {l r : Ex} : NodeAt news v o.txt ty [.ref a, .ref b] .none → TyAt news ty (Str.ofString "boolean") → ExAt news a l → ExAt news b r → ExAt news v (.rel o l r)
  | nt {v ty a : Addr} {e : Ex} : NodeAt news v (Str.ofString "not") ty [.ref a] .none → TyAt news ty (Str.ofString "boolean") → ExAt news a e → ExAt news v (.nt e)
  | land {v ty a b : Addr} {l r : Ex} : NodeAt news v (Str.ofString "&") ty [.ref a, .ref b] .none → TyAt news ty (Str.ofString "boolean") → ExAt news a l → ExAt news b r → ExAt news v (.land l r)
  | lor {v ty a b : Addr} {l r : Ex} : NodeAt news v (Str.ofString "OR") ty [.ref a, .ref b] .none → TyAt news ty (Str.ofString "boolean") → ExAt news a l → ExAt news b r → ExAt news v (.lor l r)
theorem ExAt.mono {news news' : Led} {v : Addr} {e : Ex} (h : ExAt news v e) (hs : ∀ p ∈ news, p ∈ news') : ExAt news' v e := by
  induction h with
  | con a b => exact .con (a.mono hs) (b.mono hs)
  | var a b c => exact .var (a.mono hs) (b.mono hs) (c.mono hs)
  | plus a b _ _ c d => exact .plus (a.mono hs) (b.mono hs) c d
  | ord a b _ d c => exact .ord (a.mono hs) (b.mono hs) c (d.mono hs)
  | rel a b _ _ c d => exact .rel (a.mono hs) (b.mono hs) c d
  | nt a b _ c => exact .nt (a.mono hs) (b.mono hs) c
  | land a b _ _ c d => exact .land (a.mono hs) (b.mono hs) c d
  | lor a b _ _ c d => exact .lor (a.mono hs) (b.mono hs) c d
theorem ExAt.stay {news news' : Led} {v : Addr} {e : Ex} (h : ExAt news v e) (hs : ∀ p ∈ news, Mut p.2 = false → p ∈ news') : ExAt news' v e := by
  induction h with
  | con a b => exact .con (a.stay hs) (b.stay hs)
  | var a b c => exact .var (a.stay hs) (b.stay hs) (c.stay hs)
  | plus a b _ _ c d => exact .plus (a.stay hs) (b.stay hs) c d
  | ord a b _ d c => exact .ord (a.stay hs) (b.stay hs) c (d.stay hs)
  | rel a b _ _ c d => exact .rel (a.stay hs) (b.stay hs) c d
  | nt a b _ c => exact .nt (a.stay hs) (b.stay hs) c
  | land a b _ _ c d => exact .land (a.stay hs) (b.stay hs) c d
  | lor a b _ _ c d => exact .lor (a.stay hs) (b.stay hs) c d
/-- the two variables' ranges -/
structure En where
  a : Int
  b : Int
  c : Int
  d : Int
noncomputable def En.get (e : En) : Bool → Int × Int
  | false => (e.a, e.b)
  | true => (e.c, e.d)
inductive EnvAt (w : World) (news : Led) : Addr → En → Prop
  | mk {x p q : Addr} {o : Obj} {a b c d : Int} : (x, o) ∈ news → o.IsDictOf (intKind PG w) [(0, .ref p), (1, .ref q)] → (x == sysModules) = false → IvAt news (.ref p) a b → IvAt news (.ref q) c d → EnvAt w news x ⟨a, b, c, d⟩
theorem EnvAt.mono {w : World} {news news' : Led} {x : Addr} {e : En} (h : EnvAt w news x e) (hs : ∀ p ∈ news, p ∈ news') : EnvAt w news' x e := by
  cases h with | mk a b c d e => exact .mk (hs _ a) b c (d.mono hs) (e.mono hs)
theorem EnvAt.stay {w : World} {news news' : Led} {x : Addr} {e : En} (h : EnvAt w news x e) (hs : ∀ p ∈ news, Mut p.2 = false → p ∈ news') : EnvAt w news' x e := by
  cases h with | mk a b c d e => exact .mk (hs _ a (mut_intDict b)) b c (d.stay hs) (e.stay hs)
abbrev stDict (h1 h2 h3 h4 h5 : Int) (t1 t2 t3 t4 t5 u1 u4 : Tok) (slots written : Addr) (b : Bool) : Obj :=
  dictOf [⟨h1, .str (Str.ofString "level") t1, .int 1 u1⟩, ⟨h2, .str (Str.ofString "slots") t2, .ref slots⟩, ⟨h3, .str (Str.ofString "marking") t3, .bool b⟩, ⟨h4, .str (Str.ofString "loops") t4, .int 0 u4⟩, ⟨h5, .str (Str.ofString "written") t5, .ref written⟩] 5
inductive StAt (w : World) (news : Led) : Addr → Bool → Prop
  | mk {x dx slots written : Addr} {h1 h2 h3 h4 h5 : Int} {t1 t2 t3 t4 t5 u1 u4 : Tok} {b : Bool} {o : Obj} : (x, instObj 186 dx) ∈ news → (dx, stDict h1 h2 h3 h4 h5 t1 t2 t3 t4 t5 u1 u4 slots written b) ∈ news →
      (slots, o) ∈ news → o.IsDictOf (intKind PG w) [(0, .bool true), (1, .bool true)] → (slots == sysModules) = false → StAt w news x b
theorem StAt.mono {w : World} {news news' : Led} {x : Addr} {b : Bool} (h : StAt w news x b) (hs : ∀ p ∈ news, p ∈ news') : StAt w news' x b := by
  cases h with | mk a b c d e => exact .mk (hs _ a) (hs _ b) (hs _ c) d e
local macro_rules | `(tactic| ktr_rel) => `(tactic| first
  | (with_reducible refine' TyAt.mono ?h ?s; (case h => with_reducible assumption); (case s => kp_flats))
  | (with_reducible refine' ObjAt.mono ?h ?s; (case h => with_reducible assumption); (case s => kp_flats))
  | (with_reducible refine' NodeAt.mono ?h ?s; (case h => with_reducible assumption); (case s => kp_flats))
  | (with_reducible refine' BoolAt.mono ?h ?s; (case h => with_reducible assumption); (case s => kp_flats))
  | (with_reducible refine' ExAt.mono ?h ?s; (case h => with_reducible assumption); (case s => kp_flats))
  | (with_reducible refine' EnvAt.mono ?h ?s; (case h => with_reducible assumption); (case s => kp_flats))
  | (with_reducible refine' StAt.mono ?h ?s; (case h => with_reducible assumption); (case s => kp_flats))
  | (with_reducible refine' TyAt.mk ?a ?b ?c ?d; (case a => kct_strs); (case b => kct_strs); (case c => with_reducible assumption); (case d => with_reducible assumption))
  | (with_reducible refine' EnvAt.mk ?a ?b ?c ?d ?e; (case a => kct_strs); (case b => with_reducible assumption); (case c => with_reducible assumption); (case d => ktr_rel); (case e => ktr_rel))
  | (with_reducible refine' StAt.mk ?a ?b ?c ?d ?e; (case a => kct_strs); (case b => kct_strs); (case c => kct_strs); (case d => with_reducible assumption); (case e => with_reducible assumption)))
local macro_rules | `(tactic| walk_at "getAttr ref") => `(tactic| (k_here; k_dflt (refine get_own (by k_asm) (by k_asm) (by k_inst) (by k_is) (by k_is) (by k_is) (by k_is) (by with_reducible assumption) (by k_handed) ?_; k_whole)))
noncomputable def trI (f : Str) : Option (Int × Int) := if f = Str.ofString "integer" then some (-2147483648, 2147483647) else none
theorem type_range_int {w : World} {x : Addr} {news : Led} (hx : TyAt news x (Str.ofString "integer")) : Gives w 218 [.ref x] news 2 (pIv (-2147483648, 2147483647)) := by
  unfold Gives
  intro loose mean mg mb dp un gd cn cs aa ccd cl outer A₀ base h₀ L m s Q E B F X N T hk hd hu hret
  cases hx
  refine wpAny_call ?_
  k_dflt ktr_enter
  row_timed "" (first | (guard_target = wpAny _ _ (call (Value.ref _) _) _ _ _; (k_here; k_dflt (first | ktf_call (use_iv (full_gives)) | ktf_call (use_ivb (clipped_gives))))))
  all_goals refine hret _ _ _ _ (by assumption) (by assumption) (by kp_flats) (by kat_tups) ?_
  all_goals exact exIv (by ktr_rel) (by assumption)
theorem type_range_bool {w : World} {x : Addr} {news : Led} (hx : TyAt news x (Str.ofString "boolean")) : Gives w 218 [.ref x] news 2 (pVal .none) := by
  unfold Gives
  intro loose mean mg mb dp un gd cn cs aa ccd cl outer A₀ base h₀ L m s Q E B F X N T hk hd hu hret
  cases hx
  refine wpAny_call ?_
  k_dflt ktr_enter
  k_caught0
  all_goals refine hret _ _ _ _ (by assumption) (by assumption) (by kp_flats) (by kat_tups) ?_
  all_goals exact rfl
theorem followed_var {w : World} {st v ty ob : Addr} {b m : Bool} {news : Led} (hs : StAt w news st m) (hn : NodeAt news v (Str.ofString "var") ty [] (.ref ob)) (ho : ObjAt news ob b) : Gives w 211 [.ref st, .ref v] news 2 (pInt (sl b)) := by
  unfold Gives
  intro loose mean mg mb dp un gd cn cs aa ccd cl outer A₀ base h₀ L m s Q E B F X N T hk hd hu hret
  cases hs; cases hn; cases ho
  cases b
  all_goals
    simp only [sl] at *
    refine wpAny_call ?_
    k_dflt ktr_enter
    row_timed "" (first | (guard_target = wpAny _ _ (compareOp CmpOp.In (Value.int _ _) (Value.ref _)) _ _ _; (k_here; k_dflt (first | (refine kda_in (knd := PySem.intKind _ _) (by k_asm) (by kct_strs) (by with_reducible assumption) (by with_reducible assumption) (intKind_is _ _ _ _) true (by rfl) ?_; k_whole) | (refine kda_in (knd := PySem.intKind _ _) (by k_asm) (by kct_strs) (by with_reducible assumption) (by with_reducible assumption) (intKind_is _ _ _ _) false (by rfl) ?_; k_whole)); (try dsimp only))))
  all_goals refine hret _ _ _ _ (by assumption) (by assumption) (by kp_flats) (by kat_tups) ?_
  all_goals exact ⟨_, rfl⟩
theorem followed_not {w : World} {st v ty : Addr} {op : Str} {kids : List Value} {value : Value} {news : Led} (hn : NodeAt news v op ty kids value) (ho : (op == Str.ofString "var") = false) : Gives w 211 [.ref st, .ref v] news 2 (pInt (-1)) := by
  unfold Gives
  intro loose mean mg mb dp un gd cn cs aa ccd cl outer A₀ base h₀ L m s Q E B F X N T hk hd hu hret
  cases hn
  refine wpAny_call ?_
  k_dflt ktr_enter
  k_caught0
  all_goals (try exact absurd (ho.symm.trans (by with_reducible assumption)) (by decide))
  all_goals refine hret _ _ _ _ (by assumption) (by assumption) (by kp_flats) (by kat_tups) ?_
  all_goals exact ⟨_, rfl⟩
noncomputable def Ex.need : Ex → Nat
  | con _ => 7 | var _ => 7 | plus l r => 7 + max l.need r.need | ord e => 7 + e.need | rel _ l r => 7 + max l.need r.need | nt e => 7 + e.need | land l r => 7 + max l.need r.need | lor l r => 7 + max l.need r.need
noncomputable def Ex.eager : Ex → Bool
  | con _ => true | var _ => true | plus l r => l.eager && r.eager | ord e => e.eager | rel _ l r => l.eager && r.eager | nt e => e.eager | land _ _ => false | lor _ _ => false
noncomputable def lookE (en : En) : Ex → Option (Int × Int)
  | .con n => some (n, n)
  | .var s => some (en.get s)
  | .plus l r => some (addI (knownI (lookE en l)).1 (knownI (lookE en l)).2 (knownI (lookE en r)).1 (knownI (lookE en r)).2)
  | .ord _ => some (0, 1)
  | _ => none
noncomputable def LookOk (w : World) (e : Ex) : Prop := ∀ (news : Led) (st env v : Addr) (en : En), ExAt news v e → EnvAt w news env en → StAt w news st false → Gives w 265 [.ref st, .ref env, .ref v] news e.need (pOIv (lookE en e))
theorem look_call {w : World} {e : Ex} {news : Led} {st env v : Addr} {en : En} (x : ExAt news v e) (i : LookOk w e) (y : EnvAt w news env en) (z : StAt w news st false) : Gives w 265 [.ref st, .ref env, .ref v] news e.need (pOIv (lookE en e)) := i _ _ _ _ _ x y z

theorem mark_gives {w : World} {st v : Addr} {t : Bool} {news : Led} (hs : StAt w news st false) : Gives w 232 [.ref st, .ref v, .bool t] news 1 (pVal .none) := by
  unfold Gives
  intro loose mean mg mb dp un gd cn cs aa ccd cl outer A₀ base h₀ L m s Q E B F X N T hk hd hu hret
  cases hs
  refine wpAny_call ?_
  k_dflt ktr_enter
  k_caught0
  all_goals refine hret _ _ _ _ (by assumption) (by assumption) (by kp_flats) (by kat_tups) ?_
  all_goals exact rfl
theorem look_con {w : World} {n : Int} : LookOk w (.con n) := by
  intro news st env v en hx hy hz
  unfold Gives
  intro loose mean mg mb dp un gd cn cs aa ccd cl outer A₀ base h₀ L m s Q E B F X N T hk hd hu hret
  cases hx with | con hn ht =>
  simp only [Ex.need] at hd hu
  have hn' := hn
  cases hn
  refine wpAny_call ?_
  k_dflt ktr_enter
  row_timed "" (first | (guard_target = wpAny _ _ (call (Value.ref _) _) _ _ _; (k_here; k_dflt (first | ktf_call (use_iv (type_range_int ?_)) | ktf_call (use_val (type_range_bool ?_)) | ktf_call (use_int (followed_var ?_ ?_ ?_)) | ktf_call (use_int (followed_not ?_ ?_)) | ktf_call (use_iv (single_gives)) | ktf_call (use_iv (known_gives ?_)) | ktf_call (use_ivb (add_gives ?_ ?_))))))
  all_goals refine hret _ _ _ _ (by assumption) (by assumption) (by kp_flats) (by kat_tups) ?_
  all_goals refine exR (by ktr_rel) ?_
  all_goals exact congrArg some (by assumption)
theorem look_var {w : World} {b : Bool} : LookOk w (.var b) := by
  intro news st env v en hx hy hz
  unfold Gives
  intro loose mean mg mb dp un gd cn cs aa ccd cl outer A₀ base h₀ L m s Q E B F X N T hk hd hu hret
  cases hx with | var hn ht ho =>
  simp only [Ex.need] at hd hu
  have hn' := hn
  cases hn
  cases b
  all_goals
    cases hy
    refine wpAny_call ?_
    k_dflt ktr_enter
    row_timed "" (first | (guard_target = wpAny _ _ (call (Value.ref _) _) _ _ _; (k_here; k_dflt (first | ktf_call (use_iv (type_range_int ?_)) | ktf_call (use_val (type_range_bool ?_)) | ktf_call (use_int (followed_var ?_ ?_ ?_)) | ktf_call (use_int (followed_not ?_ ?_)) | ktf_call (use_iv (single_gives)) | ktf_call (use_iv (known_gives ?_)) | ktf_call (use_ivb (add_gives ?_ ?_))))) | (k_here; (with_reducible show wpAny _ _ (subscriptTail _ _ (Value.ref _) (Value.int _ _)) _ _ _); k_dflt (refine kda_item (knd := PySem.intKind _ _) (by k_asm) (by kct_strs) (by with_reducible assumption) (intKind_is _ _ _ _) (by rfl) ?_; k_whole); (try dsimp only)))
  all_goals refine hret _ _ _ _ (by assumption) (by assumption) (by kp_flats) (by kat_tups) ?_
  all_goals refine exR (by ktr_rel) ?_
  all_goals rfl
theorem look_plus_eq {en : En} {l r : Ex} {o1 o2 : Option (Int × Int)} {a b c d lo hi : Int} (h1 : lookE en l = o1) (h2 : knownI o1 = (a, b)) (h3 : lookE en r = o2) (h4 : knownI o2 = (c, d)) (h5 : addI a b c d = (lo, hi)) : lookE en (.plus l r) = some (lo, hi) := by
  rw [lookE, h1, h2, h3, h4, h5]
theorem look_plus {w : World} {l r : Ex} (hl : LookOk w l) (hr : LookOk w r) : LookOk w (.plus l r) := by
  intro news st env v en hx hy hz
  unfold Gives
  intro loose mean mg mb dp un gd cn cs aa ccd cl outer A₀ base h₀ L m s Q E B F X N T hk hd hu hret
  cases hx with | plus hn ht ha hb =>
  simp only [Ex.need] at hd hu
  obtain ⟨hd9, hu9, rm1, rm2, rm3, rm4⟩ := needs2 2 6 hd hu rfl rfl
  clear hd hu
  have hn' := hn
  cases hn
  refine wpAny_call ?_
  k_dflt ktr_enter
  row_timed "" (first | (guard_target = wpAny _ _ (eval (Expr.Dict ..) _) _ _ _; (k_here; k_dflt (refine kdn_str (by rfl) (by k_asm) (by first | k_asm | exact News.nil) (by exact Top.nolimit (by k_asm)) (by rfl) (by rfl) (by exact List.cons_ne_nil _ _) (by exact Nat.le_of_ble_eq_true rfl) ?_); intro d'z h'z o'z F'z N'z l1z lo'z hd'z; (try k_lt l1z))) | (guard_target = wpAny _ _ (call (Value.ref _) _) _ _ _; (first | (k_here; k_dflt (ktf_call (use_val (mark_gives ?_)))) | (k_here; k_dflt (ktf_call (use_oivK (look_call ?_ ?_ ?_ ?_)))) | (k_here; k_dflt (first | ktf_call (use_iv (type_range_int ?_)) | ktf_call (use_val (type_range_bool ?_)) | ktf_call (use_int (followed_var ?_ ?_ ?_)) | ktf_call (use_int (followed_not ?_ ?_)) | ktf_call (use_iv (single_gives)) | ktf_call (use_iv (known_gives ?_)) | ktf_call (use_ivb (add_gives ?_ ?_)))))) | (guard_target = wpAny _ _ (evalPairs _) _ _ _; ((try dsimp only); first | refine pairTrees_cons_walk ?_ | refine pairTrees_nil_walk ?_)) | (first | (k_here; (with_reducible show wpAny _ _ (subscriptTail _ _ (Value.ref _) (Value.int _ _)) _ _ _); k_dflt ((refine item_litK (by refine News.isList (by k_asm) (by kct_strs)) (by decide) (by decide) (by rfl) ?_ (by with_unfolding_all rfl); k_whole); (try dsimp only))) | (k_here; (with_reducible show wpAny _ _ (subscriptTail _ _ (Value.ref _) (Value.str _ _)) _ _ _); k_dflt (refine kda_item (knd := PySem.strKind _ _) (by k_asm) (by k_mem) (by with_reducible assumption) (strKind_is _ _ _ _) (by rfl) ?_; k_whole); (try dsimp only))) | (guard_target = wpAny _ _ (call (Value.ref _) _) _ _ _; (k_here; k_dflt (refine wpAny_call ?_; (refine code_def (by k_asm) (by k_asm) (by k_asm) (by k_asm) (by k_asm) (by exact rfl) (by exact rfl) (by first | exact rfl | assumption) (by k_is) (by k_is) (by ktr_room) (by exact BindsTo.of_eq rfl) (by exact locs rfl) ?_ (by exact rfl) (by exact rfl) (by exact rfl) (by decide); k_whole; intro g' L' h'z FG' F'z N'z B' X' T'; (try dsimp only); (try k_fold))))))
  all_goals refine hret _ _ _ _ (by assumption) (by assumption) (by kp_flats) (by kat_tups) ?_
  all_goals refine exR (by ktr_rel) ?_
  all_goals exact look_plus_eq (by assumption) (by assumption) (by assumption) (by assumption) (by assumption)
theorem news_sub {h₀ h : Heap} {L : Addr} {l l' : Led} (N : News h₀ L h l) (hs : ∀ p ∈ l', p ∈ l) : News h₀ L h l' := fun p hp => N p (hs p hp)
theorem look_ord {w : World} {e : Ex} (he : LookOk w e) : LookOk w (.ord e) := by
  intro news st env v en hx hy hz
  unfold Gives
  intro loose mean mg mb dp un gd cn cs aa ccd cl outer A₀ base h₀ L m s Q E B F X N T hk hd hu hret
  cases hx with | ord hn ht ha hb =>
  simp only [Ex.need] at hd hu
  obtain ⟨hd9, hu9, rm1, rm2⟩ := needs1 2 6 hd hu rfl rfl
  clear hd hu
  have hn' := hn
  cases hn
  cases hb with | mk b1 b2 b3 b4 b5 =>
  cases b4
  refine wpAny_call ?_
  k_dflt ktr_enter
  row_timed "" (first | (guard_target = wpAny _ _ (call (Value.ref _) _) _ _ _; (first | (k_here; k_dflt (first | ktf_call (use_oivK (look_call ?_ ?_ ?_ ?_)) | ktf_call (use_val (mark_gives ?_)))) | (k_here; k_dflt (first | ktf_call (use_iv (type_range_int ?_)) | ktf_call (use_val (type_range_bool ?_)) | ktf_call (use_int (followed_var ?_ ?_ ?_)) | ktf_call (use_int (followed_not ?_ ?_)) | ktf_call (use_iv (single_gives)) | ktf_call (use_iv (known_gives ?_)) | ktf_call (use_ivb (add_gives ?_ ?_)))))) | (guard_target = LCg.CompRest ..; (k_dflt (refine LCg.CompRest.succ ?_; intro v'z I'z oI'z C'z oC'z D'z m' h'z tk'z E'z hv'z hC'z hx'z F'z N'z off'z ne'z; lcg_open hv'z; (have offIz := off3_I off'z); (have offCz := off3_C off'z); (have offDz := off3_D off'z); clear off'z))) | (guard_target = LCg.CompEnd ..; (k_dflt (refine LCg.CompEnd.intro (by k_asm) (by k_asm) _ (fun _ h => h) (off3_mk (by k_all) (by k_all) (by k_all)) (srcAt_mem (by kct_strs)) ?_))) | (k_here; (with_reducible show wpAny _ _ (subscriptTail _ _ (Value.ref _) (Value.int _ _)) _ _ _); k_dflt ((refine item_litK (by refine News.isList (by k_asm) (by kct_strs)) (by decide) (by decide) (by rfl) ?_ (by with_unfolding_all rfl); k_whole); (try dsimp only))) | (guard_target = wpAny _ _ (call (Value.ref _) _) _ _ _; (k_here; k_dflt (refine wpAny_call ?_; (refine code_defC (by k_asm) (by k_asm) (by k_asm) (by k_asm) (by k_asm) (by exact rfl) (by exact rfl) (by first | exact rfl | assumption) (by k_is) (by k_is) (by ktr_room) (by exact BindsTo.of_eq rfl) (by exact rfl) (by decide +kernel) ?_ (by exact rfl) (by exact rfl) (by exact rfl); k_whole; intro g' L' h'z tk'z cells' FG' F'z N'z Y' B' X' T' l1z; (try k_lt l1z); k_cells Y'; (try simp only [List.cons_append, List.nil_append] at N'z); (try dsimp only); (try k_fold))))))
  refine' hret _ (_ :: news) _ _ (by assumption) (news_sub (by assumption) ?s) (sub_cons (fun _ h => h)) (newIn_cons ?lt newIn_refl) (exR (.some (.mk List.mem_cons_self)) ?e)
  case s => kp_flats
  case lt => kba_ints
  case e => rfl

theorem ite_false_of {b : Bool} {X Y : Prop} (h : b = false) (k : Y) : if b = true then X else Y := by rw [if_neg (by rw [h]; exact Bool.false_ne_true)]; exact k
theorem ite_true_of {b : Bool} {X Y : Prop} (h : b = true) (k : X) : if b = true then X else Y := by rw [if_pos h]; exact k
theorem txt_look (o : Rel) : (o.txt == Str.ofString "const") = false ∧ (o.txt == Str.ofString "var") = false ∧ ([Str.ofString "+", Str.ofString "-", Str.ofString "*", Str.ofString "neg", Str.ofString "DIV", Str.ofString "MOD"].any fun x => x == o.txt) = false ∧ (o.txt == Str.ofString "index") = false ∧ (o.txt == Str.ofString "std") = false ∧ (o.txt == Str.ofString "&") = false ∧ (o.txt == Str.ofString "OR") = false := by
  cases o <;> decide
theorem look_rel {w : World} {o : Rel} {l r : Ex} (hl : LookOk w l) (hr : LookOk w r) : LookOk w (.rel o l r) := by
  intro news st env v en hx hy hz
  unfold Gives
  intro loose mean mg mb dp un gd cn cs aa ccd cl outer A₀ base h₀ L m s Q E B F X N T hk hd hu hret
  cases hx with | rel hn ht ha hb =>
  simp only [Ex.need] at hd hu
  obtain ⟨hd9, hu9, rm1, rm2, rm3, rm4⟩ := needs2 1 3 hd hu rfl rfl
  clear hd hu
  have hn' := hn
  cases hn
  obtain ⟨n1, n2, n3, n4, n5, n6, n7⟩ := txt_look o
  refine wpAny_call ?_
  k_dflt ktr_enter
  row_timed "" (first | (guard_target = wpAny _ _ (pyIter (Value.ref _)) _ _ _; ((with_reducible show wpAny _ _ (pyIter (Value.ref _)) (fun it s₂ => LoopAtV _ _ _ _ _ _ _ _ _ it s₂) _ _); k_dflt (refine iter_listUnr (lo := listOf (List.toArray _) _) rfl (by k_asm) (by k_asm) (by kct_strs) rfl rfl ?_; k_whole; intro i'z l1z; (have l2z := fun p hp => Nat.ne_of_lt (l1z p hp)); (try k_lt l1z)))) | (guard_target = wpAny _ _ (call (Value.ref _) _) _ _ _; (first | (k_here; k_dflt (first | ktf_call (use_oivK (look_call ?_ ?_ ?_ ?_)) | ktf_call (use_val (mark_gives ?_)))) | (k_here; k_dflt (first | ktf_call (use_iv (type_range_int ?_)) | ktf_call (use_val (type_range_bool ?_)) | ktf_call (use_int (followed_var ?_ ?_ ?_)) | ktf_call (use_int (followed_not ?_ ?_)) | ktf_call (use_iv (single_gives)) | ktf_call (use_iv (known_gives ?_)) | ktf_call (use_ivb (add_gives ?_ ?_)))))) | (guard_target = UnrEnd ..; (k_dflt (refine UnrEnd.intro (by k_asm) (by k_asm) _ (fun _ h => h) (by k_all) ⟨(by kct_strs), ?_⟩))) | (first | (with_reducible refine' ite_false_of ?h ?_; (case h => with_reducible assumption)) | (with_reducible refine' ite_true_of ?h ?_; (case h => with_reducible assumption))))
  refine hret _ news _ _ (by assumption) (news_sub (by assumption) (by kp_flats)) (fun _ h => h) newIn_refl ?_
  exact exR .none rfl
theorem look_nt {w : World} {e : Ex} (he : LookOk w e) : LookOk w (.nt e) := by
  intro news st env v en hx hy hz
  unfold Gives
  intro loose mean mg mb dp un gd cn cs aa ccd cl outer A₀ base h₀ L m s Q E B F X N T hk hd hu hret
  cases hx with | nt hn ht ha =>
  simp only [Ex.need] at hd hu
  obtain ⟨hd9, hu9, rm1, rm2⟩ := needs1 1 3 hd hu rfl rfl
  clear hd hu
  have hn' := hn
  cases hn
  refine wpAny_call ?_
  k_dflt ktr_enter
  row_timed "" (first | (guard_target = wpAny _ _ (pyIter (Value.ref _)) _ _ _; ((with_reducible show wpAny _ _ (pyIter (Value.ref _)) (fun it s₂ => LoopAtV _ _ _ _ _ _ _ _ _ it s₂) _ _); k_dflt (refine iter_listUnr (lo := listOf (List.toArray _) _) rfl (by k_asm) (by k_asm) (by kct_strs) rfl rfl ?_; k_whole; intro i'z l1z; (have l2z := fun p hp => Nat.ne_of_lt (l1z p hp)); (try k_lt l1z)))) | (guard_target = wpAny _ _ (call (Value.ref _) _) _ _ _; (first | (k_here; k_dflt (first | ktf_call (use_oivK (look_call ?_ ?_ ?_ ?_)) | ktf_call (use_val (mark_gives ?_)))) | (k_here; k_dflt (first | ktf_call (use_iv (type_range_int ?_)) | ktf_call (use_val (type_range_bool ?_)) | ktf_call (use_int (followed_var ?_ ?_ ?_)) | ktf_call (use_int (followed_not ?_ ?_)) | ktf_call (use_iv (single_gives)) | ktf_call (use_iv (known_gives ?_)) | ktf_call (use_ivb (add_gives ?_ ?_)))))) | (guard_target = UnrEnd ..; (k_dflt (refine UnrEnd.intro (by k_asm) (by k_asm) _ (fun _ h => h) (by k_all) ⟨(by kct_strs), ?_⟩))))
  all_goals refine hret _ news _ _ (by assumption) (news_sub (by assumption) (by kp_flats)) (fun _ h => h) newIn_refl ?_
  all_goals exact exR .none rfl
theorem look_all {w : World} : ∀ (e : Ex), e.eager = true → LookOk w e
  | .con _, _ => look_con
  | .var _, _ => look_var
  | .plus l r, h => look_plus (look_all l (Bool.and_eq_true_iff.mp h).1) (look_all r (Bool.and_eq_true_iff.mp h).2)
  | .ord e, h => look_ord (look_all e h)
  | .rel _ l r, h => look_rel (look_all l (Bool.and_eq_true_iff.mp h).1) (look_all r (Bool.and_eq_true_iff.mp h).2)
  | .nt e, h => look_nt (look_all e h)
  | .land _ _, h => nomatch h
  | .lor _ _, h => nomatch h
/-- one entry ahead, the rest without it -/
theorem focus_of {h₀ h : Heap} {L d : Addr} {o : Obj} {news : Led} (N : News h₀ L h news) (hm : (d, o) ∈ news) :
    ∃ rest : Led, News h₀ L h ((d, o) :: rest) ∧ (∀ p ∈ rest, p.1 ≠ d) ∧ (∀ p ∈ rest, p ∈ news) ∧ (∀ p ∈ news, p.1 ≠ d → p ∈ rest) ∧ ∀ p ∈ news, p.1 = d → p.2 = o := by
  have fn : ∀ p ∈ news, p.1 = d → p.2 = o := fun p hp e => Option.some.inj ((N p hp).1.symm.trans (e ▸ (N _ hm).1))
  refine ⟨news.filter fun p => decide (p.1 ≠ d), fun p hp => ?_, fun p hp => of_decide_eq_true (List.mem_filter.mp hp).2, fun p hp => (List.mem_filter.mp hp).1, fun p hp hne => List.mem_filter.mpr ⟨hp, decide_eq_true hne⟩, fn⟩
  rcases List.mem_cons.mp hp with rfl | hp
  · exact N _ hm
  · exact N _ (List.mem_filter.mp hp).1
theorem mut_stDict {h1 h2 h3 h4 h5 : Int} {t1 t2 t3 t4 t5 u1 u4 : Tok} {slots written : Addr} {b : Bool} : Mut (stDict h1 h2 h3 h4 h5 t1 t2 t3 t4 t5 u1 u4 slots written b) = true := rfl
theorem stay_focus {d : Addr} {o o' : Obj} {news rest : Led} (hmut : Mut o = true) (fn : ∀ p ∈ news, p.1 = d → p.2 = o) (hr : ∀ p ∈ news, p.1 ≠ d → p ∈ rest) : ∀ p ∈ news, Mut p.2 = false → p ∈ (d, o') :: rest := fun p hp hm => by
  by_cases e : p.1 = d
  · rw [fn p hp e, hmut] at hm; cases hm
  · exact .tail _ (hr p hp e)
theorem rest_of {d : Addr} {o : Obj} {news rest : Led} (hmut : Mut o = true) (fn : ∀ p ∈ news, p.1 = d → p.2 = o) (hr : ∀ p ∈ news, p.1 ≠ d → p ∈ rest) : ∀ p ∈ news, Mut p.2 = false → p ∈ rest := fun p hp hm => by
  by_cases e : p.1 = d
  · rw [fn p hp e, hmut] at hm; cases hm
  · exact hr p hp e
theorem back_focus {d : Addr} {o : Obj} {news rest : Led} (fn : ∀ p ∈ news, p.1 = d → p.2 = o) (hr : ∀ p ∈ news, p.1 ≠ d → p ∈ rest) : ∀ p ∈ news, p ∈ (d, o) :: rest := fun p hp => by
  by_cases e : p.1 = d
  · have : p = (d, o) := Prod.ext e (fn p hp e)
    rw [this]; exact .head _
  · exact .tail _ (hr p hp e)
theorem stay_of {d : Addr} {o o' : Obj} {l : Led} (hmut : Mut o = true) : ∀ p ∈ (d, o) :: l, Mut p.2 = false → p ∈ (d, o') :: l := fun p hp hm => by
  rcases List.mem_cons.mp hp with rfl | hp
  · rw [hmut] at hm; cases hm
  · exact .tail _ hp
theorem newIn_focus {d : Addr} {o o' : Obj} {news rest tl : Led} (hm : (d, o) ∈ news) (hsub : ∀ p ∈ rest, p ∈ news) (hr : ∀ p ∈ news, p.1 ≠ d → p ∈ rest) (hl : ∀ q ∈ (d, o') :: rest, ∀ p ∈ tl, q.1 < p.1) : NewIn news ((d, o) :: (rest ++ tl)) := fun p hp => by
  rcases List.mem_cons.mp hp with rfl | hp
  · exact .inl hm
  · rcases List.mem_append.mp hp with hp | hp
    · exact .inl (hsub p hp)
    · refine .inr fun q hq => ?_
      by_cases e : q.1 = d
      · rw [e]; exact hl _ (.head _) p hp
      · exact hl q (.tail _ (hr q hq e)) p hp
theorem back_focus2 {d : Addr} {o : Obj} {news rest tl : Led} (fn : ∀ p ∈ news, p.1 = d → p.2 = o) (hr : ∀ p ∈ news, p.1 ≠ d → p ∈ rest) : ∀ p ∈ news, p ∈ (d, o) :: (rest ++ tl) := fun p hp => by
  rcases List.mem_cons.mp (back_focus fn hr p hp) with rfl | hp
  · exact .head _
  · exact .tail _ (List.mem_append_left _ hp)
theorem quiet_gives {w : World} {e : Ex} {news : Led} {st env v : Addr} {en : En} (he : e.eager = true) (hx : ExAt news v e) (hy : EnvAt w news env en) (hz : StAt w news st true) : Gives w 272 [.ref st, .ref env, .ref v] news (e.need + 2) (pOIv (lookE en e)) := by
  have hlook := look_all (w := w) e he
  unfold Gives
  intro loose mean mg mb dp un gd cn cs aa ccd cl outer A₀ base h₀ L m s Q E B F X N T hk hd hu hret
  cases hz with | mk z1 z2 z3 z4 z5 =>
  obtain ⟨rest, N1, hne, hsub, hin, fn⟩ := focus_of N z2
  have hx2 := hx.stay (rest_of mut_stDict fn hin)
  have hy2 := hy.stay (rest_of mut_stDict fn hin)
  have q1 := rest_of mut_stDict fn hin _ z1 mut_inst
  have q3 := rest_of mut_stDict fn hin _ z3 (mut_intDict z4)
  clear N
  obtain ⟨hd9, hu9, rm1, rm2⟩ := needs1y 1 0 3 hd hu rfl rfl
  clear hd hu
  refine wpAny_call ?_
  k_dflt ktr_enter
  row_timed "" (first | (guard_target = wpAny _ _ (call (Value.ref _) _) _ _ _; (k_here; k_dflt (first | ktf_call (use_oivK (look_call ?_ ?_ ?_ ?_)) | ktf_call (use_val (mark_gives ?_))))))
  refine hret _ _ _ _ (by assumption) (by assumption) (back_focus2 fn hin) (newIn_focus z2 hsub hin (by assumption)) ?_
  exact exR (OIvAt.stay (by assumption) (stay_of mut_stDict)) (by assumption)
theorem quiet_call {w : World} {e : Ex} {news : Led} {st env v : Addr} {en : En} (hx : ExAt news v e) (hy : EnvAt w news env en) (hz : StAt w news st true) (he : e.eager = true) : Gives w 272 [.ref st, .ref env, .ref v] news (e.need + 2) (pOIv (lookE en e)) := quiet_gives he hx hy hz
noncomputable def Ex.subs : Ex → List Ex
  | .con n => [.con n]
  | .var s => [.var s]
  | .plus l r => .plus l r :: (l.subs ++ r.subs)
  | .ord e => .ord e :: e.subs
  | .rel o l r => .rel o l r :: (l.subs ++ r.subs)
  | .nt e => .nt e :: e.subs
  | .land l r => .land l r :: (l.subs ++ r.subs)
  | .lor l r => .lor l r :: (l.subs ++ r.subs)
noncomputable def Ex.isLazy : Ex → Bool
  | .land _ _ => true
  | .lor _ _ => true
  | _ => false
theorem eager_subs : ∀ e : Ex, e.eager = e.subs.all fun x => !x.isLazy
  | .con _ => rfl
  | .var _ => rfl
  | .plus l r => by simp [Ex.subs, Ex.eager, Ex.isLazy, eager_subs l, eager_subs r, List.all_append]
  | .ord e => by simp [Ex.subs, Ex.eager, Ex.isLazy, eager_subs e]
  | .rel _ l r => by simp [Ex.subs, Ex.eager, Ex.isLazy, eager_subs l, eager_subs r, List.all_append]
  | .nt e => by simp [Ex.subs, Ex.eager, Ex.isLazy, eager_subs e]
  | .land l r => by simp [Ex.subs, Ex.eager, Ex.isLazy]
  | .lor l r => by simp [Ex.subs, Ex.eager, Ex.isLazy]
/-- these are the addresses of these trees -/
inductive NodesAt (l : Led) : List Value → List Ex → Prop
  | nil : NodesAt l [] []
  | cons {x : Addr} {e : Ex} {vs : List Value} {es : List Ex} : ExAt l x e → NodesAt l vs es → NodesAt l (.ref x :: vs) (e :: es)
theorem NodesAt.mono {l l' : Led} {vs : List Value} {es : List Ex} (h : NodesAt l vs es) (hs : ∀ p ∈ l, p ∈ l') : NodesAt l' vs es := by
  induction h with
  | nil => exact .nil
  | cons a _ c => exact .cons (a.mono hs) c
noncomputable def pNodes (e : Ex) : Pst where
  P := fun l v => ∃ (a : Addr) (vs : List Value) (n : Nat), v = .ref a ∧ (a, listOf vs.toArray n) ∈ l ∧ NodesAt l vs e.subs
  mono := fun h hs => by
    obtain ⟨a, vs, n, h, k, i⟩ := h
    exact ⟨a, vs, n, h, hs _ k, i.mono hs⟩
noncomputable def pBool (b : Bool) : Pst := ⟨fun _ v => v = .bool b, fun h _ => h⟩

section
variable {w : World} {f : Addr} {vs : List Value} {news : Led} {need : Nat} {loose : List Str} {mean : ExcName → Option Value} {mg mb : Str → Option Value} {dp un : Nat} {gd : Option (List Code)} {cn : Str} {cs : Scope} {a : Addr} {ccd : Value} {cl : List (Str × Addr)} {outer : List Env} {A₀ : Around} {base h₀ : Heap} {L : Addr} {m : Str → Option Value} {s : Shared} {Q E : Value → Shared → Prop}
theorem use_nodes {e : Ex} (C : Gives w f vs news need (pNodes e)) (B : Below A₀ base outer h₀) (F : Fr h₀ L s.heap m) (X : (hd.heap_39 w.params).In h₀) (N : News h₀ L s.heap news) (T : Top hd.view_39 loose mean mg mb h₀) (hk : cs.kind = .function) (hd : dp + need < recursionLimit) (hu : un + 8 * need < cLine) (ret : ∀ (q : Addr) (us : List Value) (n : Nat) tl h' tk', Fr h₀ L h' m → News h₀ L h' (news ++ tl) → (∀ q ∈ news, ∀ p ∈ tl, q.1 < p.1) → (q, listOf us.toArray n) ∈ news ++ tl → NodesAt (news ++ tl) us e.subs → Q (.ref q) { s with heap := h', toks := tk' }) : wpAny (model PG w) (ktrTop dp un gd cn cs L a ccd cl outer) (call (.ref f) vs) Q E s := gives_use C B F X N T hk hd hu fun r tl h' tk' F' N' ho hp => by
  obtain ⟨q, us, n, z, k, hp⟩ := hp
  subst z
  exact ret _ _ _ _ _ _ F' N' ho k hp
theorem use_bool {b : Bool} (C : Gives w f vs news need (pBool b)) (B : Below A₀ base outer h₀) (F : Fr h₀ L s.heap m) (X : (hd.heap_39 w.params).In h₀) (N : News h₀ L s.heap news) (T : Top hd.view_39 loose mean mg mb h₀) (hk : cs.kind = .function) (hd : dp + need < recursionLimit) (hu : un + 8 * need < cLine) (ret : ∀ tl h' tk', Fr h₀ L h' m → News h₀ L h' (news ++ tl) → (∀ q ∈ news, ∀ p ∈ tl, q.1 < p.1) → Q (.bool b) { s with heap := h', toks := tk' }) : wpAny (model PG w) (ktrTop dp un gd cn cs L a ccd cl outer) (call (.ref f) vs) Q E s := gives_use C B F X N T hk hd hu fun r tl h' tk' F' N' ho hp => by
  have q : r = .bool b := hp
  subst q
  exact ret _ _ _ F' N' ho
end

noncomputable def stackSubs (es : List Ex) : List Ex := es.reverse.flatMap Ex.subs
theorem stackSubs_snoc (es : List Ex) (e : Ex) : stackSubs (es ++ [e]) = e.subs ++ stackSubs es := by simp [stackSubs]
theorem nodesAt_snoc {l : Led} : ∀ {vs : List Value} {es : List Ex} {v : Value}, NodesAt l (vs ++ [v]) es → ∃ es' e x, es = es' ++ [e] ∧ NodesAt l vs es' ∧ v = .ref x ∧ ExAt l x e
  | [], _, _, h => by
    cases h with | cons a b =>
    cases b
    exact ⟨[], _, _, rfl, .nil, rfl, a⟩
  | u :: r, _, v, h => by
    cases h with | cons a b =>
    obtain ⟨es', e, x, e1, e2, e3, e4⟩ := nodesAt_snoc b
    exact ⟨_ :: es', e, x, by rw [e1]; rfl, .cons a e2, e3, e4⟩
theorem NodesAt.app {l : Led} {vs us : List Value} {es gs : List Ex} (h : NodesAt l vs es) (k : NodesAt l us gs) : NodesAt l (vs ++ us) (es ++ gs) := by
  induction h with
  | nil => exact k
  | cons a _ ih => exact .cons a ih
theorem NodesAt.len {l : Led} {vs : List Value} {es : List Ex} (h : NodesAt l vs es) : vs.length = es.length := by
  induction h with
  | nil => rfl
  | cons _ _ ih => rw [List.length_cons, List.length_cons, ih]
theorem subs_pos (e : Ex) : 1 ≤ e.subs.length := by cases e <;> simp [Ex.subs]
theorem stack_len : ∀ es : List Ex, es.length ≤ (stackSubs es).length := by
  intro es
  unfold stackSubs
  rw [← List.length_reverse]
  induction es.reverse with
  | nil => exact Nat.le_refl _
  | cons e r ih => rw [List.flatMap_cons, List.length_append, List.length_cons]; have := subs_pos e; omega
noncomputable def NodesEnd (h₀ : Heap) (L : Addr) (W Fd : Addr) (e : Ex) (news : Led) (m₀ : Str → Option Value) (es : List Ex) (s s₂ : Shared) : Prop :=
  ∃ (vs' fs' : List Value) (es' gs' : List Ex) (nv' nf' : Nat) (h' : Heap) (tk' : Nat) (m' : Str → Option Value) (l' : Led), s₂ = { s with heap := h', toks := tk' } ∧ Fr h₀ L h' m' ∧ News h₀ L h' l' ∧
    (∀ p ∈ (Fd, listOf fs'.toArray nf') :: (W, listOf vs'.toArray nv') :: news, p ∈ l') ∧ NodesAt news vs' es' ∧ NodesAt news fs' gs' ∧ gs' ++ stackSubs es' = e.subs ∧ (stackSubs es').length < (stackSubs es).length ∧
    ∀ z, ([Str.ofString "one", Str.ofString "kid"].contains z) = false → m' z = m₀ z
theorem nodesEnd {h₀ h' : Heap} {L W Fd : Addr} {e : Ex} {news l' : Led} {m₀ m' : Str → Option Value} {es : List Ex} {s : Shared} {nv' nf' tk' : Nat} (vs' fs' : List Value) (es' gs' : List Ex)
    (F : Fr h₀ L h' m') (N : News h₀ L h' l') (hs : ∀ p ∈ (Fd, listOf fs'.toArray nf') :: (W, listOf vs'.toArray nv') :: news, p ∈ l') (hv : NodesAt news vs' es') (hf : NodesAt news fs' gs') (hc : gs' ++ stackSubs es' = e.subs)
    (hl : (stackSubs es').length < (stackSubs es).length) (hm : ∀ z, ([Str.ofString "one", Str.ofString "kid"].contains z) = false → m' z = m₀ z) : NodesEnd h₀ L W Fd e news m₀ es s { s with heap := h', toks := tk' } :=
  ⟨vs', fs', es', gs', nv', nf', h', tk', m', l', rfl, F, N, hs, hv, hf, hc, hl, hm⟩
theorem nodes_while {w : World} {A : Around} {E : Value → Shared → Prop} {Q : Flow → Shared → Prop} {s : Shared} {env : Env} {h₀ : Heap} {L W Fd x : Addr} {m₀ : Str → Option Value} {nv nf : Nat} {e : Ex} {news : Led} {test : PySem.Expr} {body : List Stmt} {pos : Pos}
    (F : Fr h₀ L s.heap m₀) (N : News h₀ L s.heap ((W, listOf (#[].push (.ref x)) nv) :: (Fd, listOf #[] nf) :: news)) (hx : ExAt news x e)
    (turn : ∀ (vs fs : List Value) (es gs : List Ex) (nv nf : Nat) (u : Str → Option Value) h tk, NodesAt news vs es → NodesAt news fs gs → gs ++ stackSubs es = e.subs →
      Fr h₀ L h (fun z => if [Str.ofString "one", Str.ofString "kid"].contains z then u z else m₀ z) → News h₀ L h ((Fd, listOf fs.toArray nf) :: (W, listOf vs.toArray nv) :: news) →
      wpAny (model PG w) A (isTrue test env (eval test env)) (fun b s₂ =>
        if b = true then wpAny (model PG w) A (execs body env) (fun f s₃ => match f with
          | .ret v => Q (.ret v) s₃
          | .brk => Q .next s₃
          | _ => NodesEnd h₀ L W Fd e news m₀ es { s with heap := h, toks := tk } s₃) E s₂ else Q .next s₂) E { s with heap := h, toks := tk })
    (hE : PassesOwn (model PG w) A env E := by passes_own) :
    wpAny (model PG w) A (exec (.While test body [] pos) env) Q E s := by
  refine While_inv2 (fun n m nx => ∃ (vs fs : List Value) (es gs : List Ex) (nv nf : Nat), (∀ p ∈ (Fd, listOf fs.toArray nf) :: (W, listOf vs.toArray nv) :: news, p ∈ nx) ∧ (stackSubs es).length = n ∧ NodesAt news vs es ∧ NodesAt news fs gs ∧ gs ++ stackSubs es = e.subs ∧
      ∀ z, ([Str.ofString "one", Str.ofString "kid"].contains z) = false → m z = m₀ z) F N ⟨[.ref x], [], [e], [], nv, nf, ?_, rfl, .cons hx .nil, .nil, by simp [stackSubs], fun _ _ => rfl⟩ ?_ hE
  · intro p hp
    rcases List.mem_cons.mp hp with rfl | hp
    · exact .tail _ (.head _)
    · rcases List.mem_cons.mp hp with rfl | hp
      · exact .head _
      · exact .tail _ (.tail _ hp)
  · rintro n m₁ nx h tk F₁ N₁ ⟨vs, fs, es, gs, nv, nf, hsub, hsz, hv, hf, hc, hm⟩
    have em : (fun z => if [Str.ofString "one", Str.ofString "kid"].contains z then m₁ z else m₀ z) = m₁ := by
      funext z
      cases h9 : [Str.ofString "one", Str.ofString "kid"].contains z with
      | true => simp
      | false => simp only [Bool.false_eq_true, if_false]; exact (hm z h9).symm
    refine wpAny_mono (turn vs fs es gs nv nf m₁ h tk hv hf hc (by rw [em]; exact F₁) (fun p hp => N₁ p (hsub p hp))) (fun b s₂ p => ?_) fun _ _ x => x
    cases b with
    | false => simpa using p
    | true =>
      simp only [if_true] at p ⊢
      refine wpAny_mono p (fun f s₃ q => ?_) fun _ _ x => x
      cases f with
      | ret v => exact q
      | brk => exact q
      | next =>
        obtain ⟨vs', fs', es', gs', nv', nf', h', tk', m', l', rfl, F', N', hs', hv', hf', hc', hl', hm'⟩ := q
        exact ⟨h', tk', m', l', (stackSubs es').length, rfl, F', N', by rw [← hsz]; exact hl', vs', fs', es', gs', nv', nf', hs', rfl, hv', hf', hc', hm'⟩
      | cont =>
        obtain ⟨vs', fs', es', gs', nv', nf', h', tk', m', l', rfl, F', N', hs', hv', hf', hc', hl', hm'⟩ := q
        exact ⟨h', tk', m', l', (stackSubs es').length, rfl, F', N', by rw [← hsz]; exact hl', vs', fs', es', gs', nv', nf', hs', rfl, hv', hf', hc', hm'⟩

theorem kids_of {l : Led} {x : Addr} {e : Ex} (h : ExAt l x e) : ∃ op ty kids value kes, NodeAt l x op ty kids value ∧ NodesAt l kids kes ∧ e.subs = e :: kes.flatMap Ex.subs ∧
    (kids = [] ∨ (∃ a, kids = [.ref a]) ∨ ∃ a b, kids = [.ref a, .ref b]) := by
  cases h with
  | con a _ => exact ⟨_, _, _, _, [], a, .nil, rfl, .inl rfl⟩
  | var a _ _ => exact ⟨_, _, _, _, [], a, .nil, rfl, .inl rfl⟩
  | plus a _ c d => exact ⟨_, _, _, _, _, a, .cons c (.cons d .nil), by simp [Ex.subs], .inr (.inr ⟨_, _, rfl⟩)⟩
  | ord a _ c _ => exact ⟨_, _, _, _, _, a, .cons c .nil, by simp [Ex.subs], .inr (.inl ⟨_, rfl⟩)⟩
  | rel a _ c d => exact ⟨_, _, _, _, _, a, .cons c (.cons d .nil), by simp [Ex.subs], .inr (.inr ⟨_, _, rfl⟩)⟩
  | nt a _ c => exact ⟨_, _, _, _, _, a, .cons c .nil, by simp [Ex.subs], .inr (.inl ⟨_, rfl⟩)⟩
  | land a _ c d => exact ⟨_, _, _, _, _, a, .cons c (.cons d .nil), by simp [Ex.subs], .inr (.inr ⟨_, _, rfl⟩)⟩
  | lor a _ c d => exact ⟨_, _, _, _, _, a, .cons c (.cons d .nil), by simp [Ex.subs], .inr (.inr ⟨_, _, rfl⟩)⟩
section
variable {w : World} {A : Around} {E : Value → Shared → Prop} {s : Shared} {h₀ : Heap} {L D : Addr} {m : Str → Option Value} {news news' : Led} {n : Nat} {vs : List Value} {y : Value} {Q : Value → Shared → Prop}
theorem len_snoc (N : News h₀ L s.heap news) (hm : (D, listOf (vs ++ [y]).toArray n) ∈ news) (hz : vs.length ≤ 100000) (h : Q (.int ((vs.length : Int) + 1) (s.toks + 1)) { s with toks := s.toks + 1 + 1 }) :
    wpAny (model PG w) A (call (.builtin "len") [.ref D]) Q E s := by
  refine len_list (News.isList N hm) (by simp; omega) ?_
  have e : (((vs ++ [y]).toArray.size : Nat) : Int) = (vs.length : Int) + 1 := by simp
  rw [e]; exact h
theorem pop_snoc (F : Fr h₀ L s.heap m) (N : News h₀ L s.heap news) (U : Upd D (listOf (vs ++ [y]).toArray n) (listOf vs.toArray (n + 1)) news news') (hz : vs.length ≤ 100000)
    (h : ∀ h', Fr h₀ L h' m → News h₀ L h' news' → Q y { s with heap := h' }) : wpAny (model PG w) A (call (.builtin "list.pop") [.ref D]) Q E s :=
  kl_pop F N (p := vs) (y := y) (by simpa using kpa_last y vs) U (by simp [sizeLine_eq]; omega) h
end
theorem offI_of {I : Addr} {it : Obj} : ∀ {l : Led}, (∀ p ∈ l, p.1 ≠ I) → OffI I it l
  | [], _ => trivial
  | p :: r, h => ⟨.inl (h p (.head _)), offI_of fun q hq => h q (.tail _ hq)⟩
section
variable {w : World} {A : Around} {E : Value → Shared → Prop} {s : Shared} {env : Env} {h₀ : Heap} {x : Str} {body : List Stmt} {Q : Flow → Shared → Prop} {ax I : Addr} {a b : Value} {n : Nat} {m₀ : Str → Option Value} {news : Led}
theorem iter_rev0 (hh : A.handled = none) (F : Fr h₀ env.locals s.heap m₀) (N : News h₀ env.locals s.heap ((I, revObj ax ((([] : List Value).length : Int) - 1)) :: news)) (ho : ∀ p ∈ news, p.1 ≠ I) (hm : (ax, listOf (List.toArray []) n) ∈ news)
    (rest : RevRest PG w A E h₀ env x body Q s I (ax, listOf (List.toArray []) n) [] m₀ news) : wpAny (model PG w) A (pyIter (.ref I)) (fun it s₂ => LoopAtV PG w A h₀ env x body Q E it s₂) E s := iter_revUnr hh F N (offI_of ho) hm rfl rfl rest
theorem iter_rev1 (hh : A.handled = none) (F : Fr h₀ env.locals s.heap m₀) (N : News h₀ env.locals s.heap ((I, revObj ax ((([a] : List Value).length : Int) - 1)) :: news)) (ho : ∀ p ∈ news, p.1 ≠ I) (hm : (ax, listOf (List.toArray [a]) n) ∈ news)
    (rest : RevRest PG w A E h₀ env x body Q s I (ax, listOf (List.toArray [a]) n) [a] m₀ news) : wpAny (model PG w) A (pyIter (.ref I)) (fun it s₂ => LoopAtV PG w A h₀ env x body Q E it s₂) E s := iter_revUnr hh F N (offI_of ho) hm rfl rfl rest
theorem iter_rev2 (hh : A.handled = none) (F : Fr h₀ env.locals s.heap m₀) (N : News h₀ env.locals s.heap ((I, revObj ax ((([a, b] : List Value).length : Int) - 1)) :: news)) (ho : ∀ p ∈ news, p.1 ≠ I) (hm : (ax, listOf (List.toArray [a, b]) n) ∈ news)
    (rest : RevRest PG w A E h₀ env x body Q s I (ax, listOf (List.toArray [a, b]) n) [b, a] m₀ news) : wpAny (model PG w) A (pyIter (.ref I)) (fun it s₂ => LoopAtV PG w A h₀ env x body Q E it s₂) E s := iter_revUnr hh F N (offI_of ho) hm rfl rfl rest
end
theorem off_ne {z : Str} (hz : ([Str.ofString "one", Str.ofString "kid"].contains z) = false) : z ≠ Str.ofString "one" ∧ z ≠ Str.ofString "kid" := by simpa using hz
theorem nodes_gives {w : World} {e : Ex} {v : Addr} {news : Led} (hx : ExAt news v e) (hz : e.subs.length ≤ 100000) : Gives w 169 [.ref v] news 2 (pNodes e) := by
  unfold Gives
  intro loose mean mg mb dp un gd cn cs aa ccd cl outer A₀ base h₀ L m s Q E B F X N T hk hd hu hret
  refine wpAny_call ?_
  k_dflt ktr_enter
  row_timed "" (first | (guard_target = UnrEnd ..; k_dflt (refine' UnrEnd.intro (by k_asm) (by k_asm) _ (fun _ h => h) ?az ⟨?bz, ?_⟩; (case az => k_all); (case bz => kct_strs))) | (guard_target = wpAny _ _ (call (Value.type "reversed") _) _ _ _; (k_here; k_dflt ((refine' krv_reversed ?F ?N ?l ?_; (case F => k_asm); (case N => k_asm); (case l => refine' News.isList ?N2 ?m; (case N2 => k_asm); (case m => kct_strs)); k_whole); intro D'z h'z F'z N'z l1z; (have l2z := fun p hp => Nat.ne_of_lt (l1z p hp)); (try k_lt l1z)))) | (guard_target = wpAny _ _ (pyIter (Value.ref _)) _ _ _; ((with_reducible show wpAny _ _ (pyIter (Value.ref _)) (fun it s₂ => LoopAtV _ _ _ _ _ _ _ _ _ it s₂) _ _); k_dflt (first | (refine' iter_rev0 rfl ?F ?N ?o ?m ?_; (case N => k_asm); (case F => k_asm); (case m => kct_strs); (case o => k_all)) | (refine' iter_rev1 rfl ?F ?N ?o ?m ?_; (case N => k_asm); (case F => k_asm); (case m => kct_strs); (case o => k_all)) | (refine' iter_rev2 rfl ?F ?N ?o ?m ?_; (case N => k_asm); (case F => k_asm); (case m => kct_strs); (case o => k_all))))) | (guard_target = wpAny _ _ (call (Value.builtin "len") _) _ _ _; (k_dflt (refine' len_snoc ?N ?m ?z ?_; (case N => k_asm); (case m => kct_strs); (case z => omega); k_whole))) | (guard_target = wpAny _ _ (call (Value.builtin "list.pop") _) _ _ _; (k_dflt (refine' pop_snoc ?F ?N ?U ?z ?_; (case F => k_asm); (case N => k_asm); (case U => k_upd); (case z => omega); k_whole; intro h'z F'z N'z))) | (guard_target = wpAny _ _ (exec (Stmt.While ..) _) _ _ _; (k_dflt (refine nodes_while (by k_asm) (by k_asm) (by with_reducible assumption) (hold ?_)))) | (guard_target = RevRest ..; (k_dflt (first | (refine RevRest.succ (fun it'z h'z tk'z hit'z F'z N'z => ?_)) | (refine RevRest.zero (fun h'z tk'z F'z N'z => ?_))))))
  unfold Hold
  intro vs fs es gs nv nf u h tk hv hf hc F' N'
  have hlen : fs.length + vs.length ≤ 100000 := by
    have h1 := stack_len es
    have h2 := congrArg List.length hc
    rw [List.length_append] at h2
    have h3 := hv.len
    have h4 := hf.len
    omega
  rcases List.eq_nil_or_concat vs with rfl | ⟨vs', v', hvv⟩
  · cases hv
    row_timed "" (first | (guard_target = UnrEnd ..; k_dflt (refine' UnrEnd.intro (by k_asm) (by k_asm) _ (fun _ h => h) ?az ⟨?bz, ?_⟩; (case az => k_all); (case bz => kct_strs))) | (guard_target = wpAny _ _ (call (Value.type "reversed") _) _ _ _; (k_here; k_dflt ((refine' krv_reversed ?F ?N ?l ?_; (case F => k_asm); (case N => k_asm); (case l => refine' News.isList ?N2 ?m; (case N2 => k_asm); (case m => kct_strs)); k_whole); intro D'z h'z F'z N'z l1z; (have l2z := fun p hp => Nat.ne_of_lt (l1z p hp)); (try k_lt l1z)))) | (guard_target = wpAny _ _ (pyIter (Value.ref _)) _ _ _; ((with_reducible show wpAny _ _ (pyIter (Value.ref _)) (fun it s₂ => LoopAtV _ _ _ _ _ _ _ _ _ it s₂) _ _); k_dflt (first | (refine' iter_rev0 rfl ?F ?N ?o ?m ?_; (case N => k_asm); (case F => k_asm); (case m => kct_strs); (case o => k_all)) | (refine' iter_rev1 rfl ?F ?N ?o ?m ?_; (case N => k_asm); (case F => k_asm); (case m => kct_strs); (case o => k_all)) | (refine' iter_rev2 rfl ?F ?N ?o ?m ?_; (case N => k_asm); (case F => k_asm); (case m => kct_strs); (case o => k_all))))) | (guard_target = wpAny _ _ (call (Value.builtin "len") _) _ _ _; (k_dflt (refine' len_snoc ?N ?m ?z ?_; (case N => k_asm); (case m => kct_strs); (case z => omega); k_whole))) | (guard_target = wpAny _ _ (call (Value.builtin "list.pop") _) _ _ _; (k_dflt (refine' pop_snoc ?F ?N ?U ?z ?_; (case F => k_asm); (case N => k_asm); (case U => k_upd); (case z => omega); k_whole; intro h'z F'z N'z))) | (guard_target = wpAny _ _ (exec (Stmt.While ..) _) _ _ _; (k_dflt (refine nodes_while (by k_asm) (by k_asm) (by with_reducible assumption) (hold ?_)))) | (guard_target = RevRest ..; (k_dflt (first | (refine RevRest.succ (fun it'z h'z tk'z hit'z F'z N'z => ?_)) | (refine RevRest.zero (fun h'z tk'z F'z N'z => ?_))))))
    refine hret _ _ _ _ (by assumption) (by assumption) (by kp_flats) (by kat_tups) ?_
    have hg : gs = e.subs := by simpa [stackSubs] using hc
    exact ⟨_, fs, nf, rfl, List.mem_cons_self, hg ▸ hf.mono (by kp_flats)⟩
  · rw [List.concat_eq_append] at hvv
    subst hvv
    rw [List.length_append, List.length_singleton] at hlen
    obtain ⟨es', e1, x1, rfl, hv', rfl, hx1⟩ := nodesAt_snoc hv
    obtain ⟨op, ty, kids, value, kes, hn, hk, hsubs, hshape⟩ := kids_of hx1
    cases hn
    rcases hshape with rfl | ⟨a, rfl⟩ | ⟨a, b, rfl⟩
    all_goals row_timed "" (first | (guard_target = UnrEnd ..; k_dflt (refine' UnrEnd.intro (by k_asm) (by k_asm) _ (fun _ h => h) ?az ⟨?bz, ?_⟩; (case az => k_all); (case bz => kct_strs))) | (guard_target = wpAny _ _ (call (Value.type "reversed") _) _ _ _; (k_here; k_dflt ((refine' krv_reversed ?F ?N ?l ?_; (case F => k_asm); (case N => k_asm); (case l => refine' News.isList ?N2 ?m; (case N2 => k_asm); (case m => kct_strs)); k_whole); intro D'z h'z F'z N'z l1z; (have l2z := fun p hp => Nat.ne_of_lt (l1z p hp)); (try k_lt l1z)))) | (guard_target = wpAny _ _ (pyIter (Value.ref _)) _ _ _; ((with_reducible show wpAny _ _ (pyIter (Value.ref _)) (fun it s₂ => LoopAtV _ _ _ _ _ _ _ _ _ it s₂) _ _); k_dflt (first | (refine' iter_rev0 rfl ?F ?N ?o ?m ?_; (case N => k_asm); (case F => k_asm); (case m => kct_strs); (case o => k_all)) | (refine' iter_rev1 rfl ?F ?N ?o ?m ?_; (case N => k_asm); (case F => k_asm); (case m => kct_strs); (case o => k_all)) | (refine' iter_rev2 rfl ?F ?N ?o ?m ?_; (case N => k_asm); (case F => k_asm); (case m => kct_strs); (case o => k_all))))) | (guard_target = wpAny _ _ (call (Value.builtin "len") _) _ _ _; (k_dflt (refine' len_snoc ?N ?m ?z ?_; (case N => k_asm); (case m => kct_strs); (case z => omega); k_whole))) | (guard_target = wpAny _ _ (call (Value.builtin "list.pop") _) _ _ _; (k_dflt (refine' pop_snoc ?F ?N ?U ?z ?_; (case F => k_asm); (case N => k_asm); (case U => k_upd); (case z => omega); k_whole; intro h'z F'z N'z))) | (guard_target = wpAny _ _ (exec (Stmt.While ..) _) _ _ _; (k_dflt (refine nodes_while (by k_asm) (by k_asm) (by with_reducible assumption) (hold ?_)))) | (guard_target = RevRest ..; (k_dflt (first | (refine RevRest.succ (fun it'z h'z tk'z hit'z F'z N'z => ?_)) | (refine RevRest.zero (fun h'z tk'z F'z N'z => ?_))))))
    all_goals try dsimp only
    · cases hk
      refine' nodesEnd vs' (fs ++ [.ref x1]) es' (gs ++ [e1]) (by assumption) (by assumption) ?hs0 hv' (hf.app (.cons hx1 .nil)) ?hc0 ?hl0 ?hm0
      case hs0 =>
        rw [← List.push_toArray]
        exact fun _ h => h
      case hc0 =>
        rw [stackSubs_snoc, hsubs] at hc; simpa using hc
      case hl0 =>
        rw [stackSubs_snoc, List.length_append]; have := subs_pos e1; omega
      case hm0 =>
        intro z hz; have h1 := off_ne hz; simp only [h1.1, h1.2, hz, if_false, Bool.false_eq_true]
    · cases hk with | cons ha hk =>
      cases hk
      refine' nodesEnd (vs' ++ [.ref a]) (fs ++ [.ref x1]) _ (gs ++ [e1]) (by assumption) (by assumption) ?hs1 (hv'.app (.cons ha .nil)) (hf.app (.cons hx1 .nil)) ?hc1 ?hl1 ?hm1
      case hs1 =>
        rw [← List.push_toArray, ← List.push_toArray]
        exact fun _ h => h
      case hc1 =>
        rw [stackSubs_snoc, hsubs] at hc; rw [stackSubs_snoc]; simpa using hc
      case hl1 =>
        rw [stackSubs_snoc, stackSubs_snoc, hsubs]; simp
      case hm1 =>
        intro z hz; have h1 := off_ne hz; simp only [h1.1, h1.2, hz, if_false, Bool.false_eq_true]
    · cases hk with | cons ha hk =>
      cases hk with | cons hb hk =>
      cases hk
      refine' nodesEnd ((vs' ++ [.ref b]) ++ [.ref a]) (fs ++ [.ref x1]) _ (gs ++ [e1]) (by assumption) (by assumption) ?hs2 ((hv'.app (.cons hb .nil)).app (.cons ha .nil)) (hf.app (.cons hx1 .nil)) ?hc2 ?hl2 ?hm2
      case hs2 =>
        rw [← List.push_toArray, ← List.push_toArray, ← List.push_toArray]
        exact fun _ h => h
      case hc2 =>
        rw [stackSubs_snoc, hsubs] at hc; rw [stackSubs_snoc, stackSubs_snoc]; simpa using hc
      case hl2 =>
        rw [stackSubs_snoc, stackSubs_snoc, stackSubs_snoc, hsubs]; simp
      case hm2 =>
        intro z hz; have h1 := off_ne hz; simp only [h1.1, h1.2, hz, if_false, Bool.false_eq_true]

theorem node_of {l : Led} {x : Addr} {e : Ex} (h : ExAt l x e) : ∃ op ty kids value, NodeAt l x op ty kids value ∧ ((op == Str.ofString "&") || (op == Str.ofString "OR")) = e.isLazy := by
  cases h with
  | con a _ => exact ⟨_, _, _, _, a, (by decide : (Str.ofString "const" == Str.ofString "&" || Str.ofString "const" == Str.ofString "OR") = false)⟩
  | var a _ _ => exact ⟨_, _, _, _, a, (by decide : (Str.ofString "var" == Str.ofString "&" || Str.ofString "var" == Str.ofString "OR") = false)⟩
  | plus a _ _ _ => exact ⟨_, _, _, _, a, (by decide : (Str.ofString "+" == Str.ofString "&" || Str.ofString "+" == Str.ofString "OR") = false)⟩
  | ord a _ _ _ => exact ⟨_, _, _, _, a, (by decide : (Str.ofString "std" == Str.ofString "&" || Str.ofString "std" == Str.ofString "OR") = false)⟩
  | @rel _ _ _ _ o _ _ a _ _ _ => 
    refine ⟨_, _, _, _, a, ?_⟩
    cases o <;> (show (_ || _) = false; decide)
  | nt a _ _ => exact ⟨_, _, _, _, a, (by decide : (Str.ofString "not" == Str.ofString "&" || Str.ofString "not" == Str.ofString "OR") = false)⟩
  | land a _ _ _ => exact ⟨_, _, _, _, a, (by decide : (Str.ofString "&" == Str.ofString "&" || Str.ofString "&" == Str.ofString "OR") = true)⟩
  | lor a _ _ _ => exact ⟨_, _, _, _, a, (by decide : (Str.ofString "OR" == Str.ofString "&" || Str.ofString "OR" == Str.ofString "OR") = true)⟩
noncomputable def RestEnd (h₀ : Heap) (L I : Addr) (it : Obj) (news : Led) (s : Shared) (R : List Value → Prop) (r : List Value) (s₂ : Shared) : Prop :=
  ∃ h' tk' m' l', s₂ = { s with heap := h', toks := tk' } ∧ Fr h₀ L h' m' ∧ News h₀ L h' l' ∧ (∀ p ∈ (I, it) :: news, p ∈ l') ∧ R r
theorem restEnd {h₀ h' : Heap} {L I : Addr} {it : Obj} {news l' : Led} {s : Shared} {R : List Value → Prop} {r : List Value} {tk' : Nat} {m' : Str → Option Value} (F : Fr h₀ L h' m') (N : News h₀ L h' l') (hs : ∀ p ∈ (I, it) :: news, p ∈ l') (hr : R r) :
    RestEnd h₀ L I it news s R r { s with heap := h', toks := tk' } := ⟨h', tk', m', l', rfl, F, N, hs, hr⟩
theorem listRest_ind {prog : Program} {w : World} {A : Around} {E : Value → Shared → Prop} {s : Shared} {env : Env} {h₀ : Heap} {x : Str} {body : List Stmt} {Q : Flow → Shared → Prop} {I : Addr} {lp : Addr × Obj} {news : Led} (R : List Value → Prop) (hmem : lp ∈ news) (off : ∀ p ∈ news, p.1 ≠ I)
    (nil : R [] → ∀ m h tk, Fr h₀ env.locals h m → News h₀ env.locals h news → Q .next { s with heap := h, toks := tk })
    (cons : ∀ v r (m : Str → Option Value) (it : Obj) h tk, R (v :: r) → Fr h₀ env.locals h (fun y => if y = x then some v else m y) → News h₀ env.locals h ((I, it) :: news) →
      wpAny (model prog w) A (execs body env) (fun f s₂ => match f with
        | .ret v => Q (.ret v) s₂
        | .brk => Q .next s₂
        | _ => RestEnd h₀ env.locals I it news { s with heap := h, toks := tk } R r s₂) E { s with heap := h, toks := tk }) :
    ∀ vs m, R vs → ListRest prog w A E h₀ env x body Q s I lp vs m news := by
  intro vs
  induction vs with
  | nil => intro m hR; exact fun h tk F N => nil hR m h tk F N
  | cons v r ih =>
    intro m hR it h tk _ F N
    refine wpAny_mono (cons v r m it h tk hR F N) (fun f s₂ p => ?_) fun _ _ e => e
    cases f with
    | ret v => exact p
    | brk => exact p
    | next =>
      obtain ⟨h', tk', m', l', rfl, F', N', hs, hR'⟩ := p
      exact ⟨h', tk', m', news, rfl, F', fun p hp => N' p (hs p hp), off, hmem, ih m' hR'⟩
    | cont =>
      obtain ⟨h', tk', m', l', rfl, F', N', hs, hR'⟩ := p
      exact ⟨h', tk', m', news, rfl, F', fun p hp => N' p (hs p hp), off, hmem, ih m' hR'⟩
theorem all_f {x : Ex} {es : List Ex} {b : Bool} (hl : x.isLazy = false) (ha : ((x :: es).all fun x => !x.isLazy) = b) : (es.all fun x => !x.isLazy) = b := by
  rw [List.all_cons, hl] at ha; simpa using ha
theorem all_t {x : Ex} {es : List Ex} {b : Bool} (hl : x.isLazy = true) (ha : ((x :: es).all fun x => !x.isLazy) = b) : b = false := by
  rw [List.all_cons, hl] at ha; simpa using ha.symm
theorem lazyF {a b c : Bool} (h : a = false) (k : b = false) (hl : (a || b) = c) : c = false := by rw [← hl, h, k]; rfl
theorem lazyT1 {a b c : Bool} (h : a = true) (hl : (a || b) = c) : c = true := by rw [← hl, h]; rfl
theorem lazyT2 {a b c : Bool} (h : b = true) (hl : (a || b) = c) : c = true := by rw [← hl, h, Bool.or_true]
theorem holds_gives {w : World} {e : Ex} {v : Addr} {news : Led} (hx : ExAt news v e) (hz : e.subs.length ≤ 100000) : Gives w 279 [.ref v] news 4 (pBool (!e.eager)) := by
  unfold Gives
  intro loose mean mg mb dp un gd cn cs aa ccd cl outer A₀ base h₀ L m s Q E B F X N T hk hd hu hret
  refine wpAny_call ?_
  k_dflt ktr_enter
  row_timed "" (first | (guard_target = wpAny _ _ (pyIter (Value.ref _)) _ _ _; ((with_reducible show wpAny _ _ (pyIter (Value.ref _)) (fun it s₂ => LoopAtV _ _ _ _ _ _ _ _ _ it s₂) _ _); k_dflt (refine iter_listUnr (lo := listOf (List.toArray _) _) rfl (by k_asm) (by k_asm) (by kct_strs) rfl rfl ?_; k_whole; intro i'z l1z; (have l2z := fun p hp => Nat.ne_of_lt (l1z p hp)); (try k_lt l1z)))) | (guard_target = wpAny _ _ (call (Value.ref _) _) _ _ _; (k_here; k_dflt (ktf_call (use_nodes (nodes_gives ?_ ?_))))))
  refine listRest_ind (fun vs => ∃ es, NodesAt _ vs es ∧ (es.all fun x => !x.isLazy) = e.eager) (by with_reducible assumption) (by with_reducible assumption) ?_ ?_ _ _ ⟨_, by with_reducible assumption, (eager_subs e).symm⟩
  · rintro ⟨es, hv, ha⟩ m h tk F' N'
    cases hv
    row_timed "" (first | (guard_target = wpAny _ _ (pyIter (Value.ref _)) _ _ _; ((with_reducible show wpAny _ _ (pyIter (Value.ref _)) (fun it s₂ => LoopAtV _ _ _ _ _ _ _ _ _ it s₂) _ _); k_dflt (refine iter_listUnr (lo := listOf (List.toArray _) _) rfl (by k_asm) (by k_asm) (by kct_strs) rfl rfl ?_; k_whole; intro i'z l1z; (have l2z := fun p hp => Nat.ne_of_lt (l1z p hp)); (try k_lt l1z)))) | (guard_target = wpAny _ _ (call (Value.ref _) _) _ _ _; (k_here; k_dflt (ktf_call (use_nodes (nodes_gives ?_ ?_))))))
    refine hret _ _ _ _ (by assumption) (by assumption) (by kp_flats) (by kat_tups) ?_
    show Value.bool false = .bool (!e.eager)
    rw [← ha]; rfl
  · rintro v r m it h tk ⟨es, hv, ha⟩ F' N'
    cases hv with | cons hx1 hr1 =>
    obtain ⟨op, ty, kids, value, hn, hl⟩ := node_of hx1
    cases hn
    row_timed "" (first | (guard_target = wpAny _ _ (pyIter (Value.ref _)) _ _ _; ((with_reducible show wpAny _ _ (pyIter (Value.ref _)) (fun it s₂ => LoopAtV _ _ _ _ _ _ _ _ _ it s₂) _ _); k_dflt (refine iter_listUnr (lo := listOf (List.toArray _) _) rfl (by k_asm) (by k_asm) (by kct_strs) rfl rfl ?_; k_whole; intro i'z l1z; (have l2z := fun p hp => Nat.ne_of_lt (l1z p hp)); (try k_lt l1z)))) | (guard_target = wpAny _ _ (call (Value.ref _) _) _ _ _; (k_here; k_dflt (ktf_call (use_nodes (nodes_gives ?_ ?_))))))
    rotate_left 2
    · refine restEnd (by assumption) (by assumption) (by kp_flats) ⟨_, hr1, ?_⟩
      exact all_f (lazyF (by assumption) (by assumption) hl) ha
    all_goals refine hret _ _ _ _ (by assumption) (news_sub (by assumption) (sub_cons (fun _ h => h))) (by kp_flats) (by kat_tups) ?_
    all_goals
      show Value.bool true = .bool (!e.eager)
      rw [all_t (by first | exact lazyT1 (by assumption) hl | exact lazyT2 (by assumption) hl) ha]
      rfl
theorem dict_of {w : World} {K : Type} [DecidableEq K] {knd : KeyKind PG w K} {A : Around} {E : Value → Shared → Prop} {s : Shared} {h₀ : Heap} {L src : Addr} {m : Str → Option Value} {news : Led} {o : Obj} {kvs : List (K × Value)} {Q : Value → Shared → Prop}
    (F : Fr h₀ L s.heap m) (N : News h₀ L s.heap news) (hbig : h₀.NoLimit) (hm : (src, o) ∈ news) (hd : o.IsDictOf knd kvs) (lo : (src == sysModules) = false) (hsz : kvs.length ≤ sizeLine)
    (k : ∀ d h' o', Fr h₀ L h' m → News h₀ L h' ((d, o') :: news) → (∀ p ∈ news, p.1 < d) → (d == sysModules) = false → o'.IsDictOf knd kvs → Q (.ref d) { s with heap := h' }) :
    wpAny (model PG w) A (call (.type "dict") [.ref src]) Q E s := by
  refine kt_call_dict lo (kda_dict N hm hd) hsz fun h' hm' hs => ?_
  obtain ⟨o', ho', hd'⟩ := Heap.dictOf_iff.mp hm'
  have N1 := News.push F N { cls := .type "dict", data := .dict #[] }
  exact k _ h' o' ((F.push _).change hs (N1 _ (.head _)).2.1 (N1.fresh (.head _))) (N1.setHead N.apart hs ho') (fun p hp => Heap.lt_size (N p hp).1) (F.notModules (modules_low hbig)) hd'
noncomputable def En.set (e : En) (s : Bool) (x : Int × Int) : En := match s with
  | false => ⟨x.1, x.2, e.c, e.d⟩
  | true => ⟨e.a, e.b, x.1, x.2⟩
noncomputable def pEnv (w : World) (e : En) : Pst := ⟨fun l v => ∃ x, v = .ref x ∧ EnvAt w l x e, fun ⟨x, h, k⟩ hs => ⟨x, h, k.mono hs⟩⟩
theorem with_slot_gives {w : World} {env iv : Addr} {en : En} {a b : Int} {t : Bool} {u : Tok} {news : Led} (hy : EnvAt w news env en) (hi : IvAt news (.ref iv) a b) : Gives w 204 [.ref env, .int (sl t) u, .ref iv] news 1 (pEnv w (en.set t (a, b))) := by
  unfold Gives
  intro loose mean mg mb dp un gd cn cs aa ccd cl outer A₀ base h₀ L m s Q E B F X N T hk hd hu hret
  cases hy
  cases t
  all_goals
    simp only [sl] at *
    refine wpAny_call ?_
    k_dflt ktr_enter
    row_timed "" (first | (guard_target = wpAny _ _ (setItem (Value.ref _) (Value.int _ _) _) _ _ _; (k_here; k_dflt (refine kda_set (knd := PySem.intKind _ _) (by k_asm) (by k_asm) (by k_updF) (by with_reducible assumption) (intKind_is _ _ _ _) (by kob_size) ?_); intro h'z o'z F'z N'z hd'z; (try kob_lit); (try dsimp only at N'z))) | (guard_target = wpAny _ _ (call (Value.type "dict") _) _ _ _; (k_here; k_dflt ((refine dict_of (K := Int) (knd := intKind PG _) (by k_asm) (by k_asm) (Top.nolimit (by k_asm)) (by kct_strs) (by with_reducible assumption) (by with_reducible assumption) (by kob_size) ?_); intro d'z h'z o'z F'z N'z l1z lo'z hd'z; (try k_lt l1z)))))
  all_goals refine hret _ _ _ _ (by assumption) (by assumption) (by kp_flats) (by kat_tups) ?_
  all_goals exact ⟨_, rfl, by ktr_rel⟩

section
variable {w : World} {f : Addr} {vs : List Value} {news : Led} {need : Nat} {loose : List Str} {mean : ExcName → Option Value} {mg mb : Str → Option Value} {dp un : Nat} {gd : Option (List Code)} {cn : Str} {cs : Scope} {a : Addr} {ccd : Value} {cl : List (Str × Addr)} {outer : List Env} {A₀ : Around} {base h₀ : Heap} {L : Addr} {m : Str → Option Value} {s : Shared} {Q E : Value → Shared → Prop}
theorem use_env {e : En} (C : Gives w f vs news need (pEnv w e)) (B : Below A₀ base outer h₀) (F : Fr h₀ L s.heap m) (X : (hd.heap_39 w.params).In h₀) (N : News h₀ L s.heap news) (T : Top hd.view_39 loose mean mg mb h₀) (hk : cs.kind = .function) (hd : dp + need < recursionLimit) (hu : un + 8 * need < cLine) (ret : ∀ (x : Addr) tl h' tk', Fr h₀ L h' m → News h₀ L h' (news ++ tl) → (∀ q ∈ news, ∀ p ∈ tl, q.1 < p.1) → EnvAt w (news ++ tl) x e → Q (.ref x) { s with heap := h', toks := tk' }) : wpAny (model PG w) (ktrTop dp un gd cn cs L a ccd cl outer) (call (.ref f) vs) Q E s := gives_use C B F X N T hk hd hu fun r tl h' tk' F' N' ho hp => by
  obtain ⟨x, q, hp⟩ := hp
  subst q
  exact ret _ _ _ _ F' N' ho hp
end
theorem with_slot_0 {w : World} {env iv : Addr} {en : En} {a b : Int} {u : Tok} {news : Led} (hy : EnvAt w news env en) (hi : IvAt news (.ref iv) a b) : Gives w 204 [.ref env, .int 0 u, .ref iv] news 1 (pEnv w (en.set false (a, b))) := with_slot_gives (t := false) hy hi
theorem with_slot_1 {w : World} {env iv : Addr} {en : En} {a b : Int} {u : Tok} {news : Led} (hy : EnvAt w news env en) (hi : IvAt news (.ref iv) a b) : Gives w 204 [.ref env, .int 1 u, .ref iv] news 1 (pEnv w (en.set true (a, b))) := with_slot_gives (t := true) hy hi
section
variable {w : World} {A : Around} {E : Value → Shared → Prop} {s : Shared} {h₀ : Heap} {L x : Addr} {news : Led} {en : En} {t : Tok} {value slice : PySem.Expr} {Q : Value → Shared → Prop}
theorem env_sub0 (N : News h₀ L s.heap news) (h : EnvAt w news x en) (k : ∀ p, IvAt news (.ref p) en.a en.b → Q (.ref p) { s with toks := s.toks + 1 })
    (hs : subscripted slice false (.ref x) (.int 0 t) = operate [.ref x, .int 0 t] (getItem (.ref x) (.int 0 t))) (hg : ∀ r, letTemporaryGo value (.ref x) r = pure ()) : wpAny (model PG w) A (subscriptTail value slice (.ref x) (.int 0 t)) Q E s := by
  cases h with | mk a b c d e => exact kda_item (knd := intKind PG w) N a b (intKind_is _ _ _ _) rfl (k _ d) hs hg
theorem env_sub1 (N : News h₀ L s.heap news) (h : EnvAt w news x en) (k : ∀ p, IvAt news (.ref p) en.c en.d → Q (.ref p) { s with toks := s.toks + 1 })
    (hs : subscripted slice false (.ref x) (.int 1 t) = operate [.ref x, .int 1 t] (getItem (.ref x) (.int 1 t))) (hg : ∀ r, letTemporaryGo value (.ref x) r = pure ()) : wpAny (model PG w) A (subscriptTail value slice (.ref x) (.int 1 t)) Q E s := by
  cases h with | mk a b c d e => exact kda_item (knd := intKind PG w) N a b (intKind_is _ _ _ _) rfl (k _ e) hs hg
end
noncomputable def Ex.isVar : Ex → Bool
  | .var _ => true
  | _ => false
noncomputable def pSlot (e : Ex) : Pst := ⟨fun _ v => (e = .var false ∧ ∃ t, v = .int 0 t) ∨ (e = .var true ∧ ∃ t, v = .int 1 t) ∨ (e.isVar = false ∧ ∃ t, v = .int (-1) t), fun h _ => h⟩
noncomputable def Ex.isSide : Ex → Bool
  | .con _ => true | .var _ => true | .plus _ _ => true | .ord _ => true | _ => false
section
variable {w : World} {f : Addr} {vs : List Value} {news : Led} {need : Nat} {loose : List Str} {mean : ExcName → Option Value} {mg mb : Str → Option Value} {dp un : Nat} {gd : Option (List Code)} {cn : Str} {cs : Scope} {a : Addr} {ccd : Value} {cl : List (Str × Addr)} {outer : List Env} {A₀ : Around} {base h₀ : Heap} {L : Addr} {m : Str → Option Value} {s : Shared} {Q E : Value → Shared → Prop}
theorem use_slot {e : Ex} (C : Gives w f vs news need (pSlot e)) (B : Below A₀ base outer h₀) (F : Fr h₀ L s.heap m) (X : (hd.heap_39 w.params).In h₀) (N : News h₀ L s.heap news) (T : Top hd.view_39 loose mean mg mb h₀) (hk : cs.kind = .function) (hd : dp + need < recursionLimit) (hu : un + 8 * need < cLine) (ret : (∀ (t : Tok) tl h' tk', Fr h₀ L h' m → News h₀ L h' (news ++ tl) → (∀ q ∈ news, ∀ p ∈ tl, q.1 < p.1) → e = .var false → Q (.int 0 t) { s with heap := h', toks := tk' }) ∧ (∀ (t : Tok) tl h' tk', Fr h₀ L h' m → News h₀ L h' (news ++ tl) → (∀ q ∈ news, ∀ p ∈ tl, q.1 < p.1) → e = .var true → Q (.int 1 t) { s with heap := h', toks := tk' }) ∧ (∀ (t : Tok) tl h' tk', Fr h₀ L h' m → News h₀ L h' (news ++ tl) → (∀ q ∈ news, ∀ p ∈ tl, q.1 < p.1) → e.isVar = false → Q (.int (-1) t) { s with heap := h', toks := tk' })) : wpAny (model PG w) (ktrTop dp un gd cn cs L a ccd cl outer) (call (.ref f) vs) Q E s := gives_use C B F X N T hk hd hu fun r tl h' tk' F' N' ho hp => by
  rcases hp with ⟨e, t, q⟩ | ⟨e, t, q⟩ | ⟨e, t, q⟩
  · subst q; exact ret.1 _ _ _ _ F' N' ho e
  · subst q; exact ret.2.1 _ _ _ _ F' N' ho e
  · subst q; exact ret.2.2 _ _ _ _ F' N' ho e
end
theorem gives_post {w : World} {f : Addr} {vs : List Value} {news : Led} {need : Nat} {P P' : Pst} (h : Gives w f vs news need P) (k : ∀ l v, P.P l v → P'.P l v) : Gives w f vs news need P' := by
  unfold Gives at h ⊢
  intro loose mean mg mb dp un gd cn cs a ccd cl outer A₀ base h₀ L m s Q E B F X N T hk hd hu hret
  exact h loose mean mg mb dp un gd cn cs a ccd cl outer A₀ base h₀ L m s Q E B F X N T hk hd hu fun r l h' tk' F' N' hs hn hp => hret r l h' tk' F' N' hs hn (k _ _ hp)
theorem followed_any {w : World} {st v : Addr} {e : Ex} {m : Bool} {news : Led} (hs : StAt w news st m) (hx : ExAt news v e) (he : e.isSide = true) : Gives w 211 [.ref st, .ref v] news 2 (pSlot e) := by
  cases hx with
  | con a _ => exact gives_post (followed_not a (by decide)) fun l v h => .inr (.inr ⟨rfl, h⟩)
  | @var _ _ _ b a _ c =>
    refine gives_post (followed_var hs a c) fun l v h => ?_
    cases b with
    | false => exact .inl ⟨rfl, h⟩
    | true => exact .inr (.inl ⟨rfl, h⟩)
  | plus a _ _ _ => exact gives_post (followed_not a (by decide)) fun l v h => .inr (.inr ⟨rfl, h⟩)
  | ord a _ _ _ => exact gives_post (followed_not a (by decide)) fun l v h => .inr (.inr ⟨rfl, h⟩)
  | rel => cases he
  | nt => cases he
  | land => cases he
  | lor => cases he
theorem side_of {l : Led} {x : Addr} {e : Ex} (h : ExAt l x e) (he : e.isSide = true) : ∃ op ty kids value, NodeAt l x op ty kids value ∧ TyAt l ty (Str.ofString "integer") := by
  cases h with
  | con a b => exact ⟨_, _, _, _, a, b⟩
  | var a b _ => exact ⟨_, _, _, _, a, b⟩
  | plus a b _ _ => exact ⟨_, _, _, _, a, b⟩
  | ord a b _ _ => exact ⟨_, _, _, _, a, b⟩
  | rel => cases he
  | nt => cases he
  | land => cases he
  | lor => cases he
noncomputable def sideV (en : En) (e : Ex) : Int × Int := if e.eager = true then (lookE en e).getD (0, 0) else (-2147483648, 2147483647)
theorem side_1 {en : En} {e : Ex} {lo hi : Int} (h : e.eager = false) (k : ((-2147483648 : Int), (2147483647 : Int)) = (lo, hi)) : sideV en e = (lo, hi) := by rw [sideV, h, ← k]; rfl
theorem side_2 {en : En} {e : Ex} {lo hi : Int} (h : e.eager = true) (k : lookE en e = some (lo, hi)) : sideV en e = (lo, hi) := by rw [sideV, h, k]; rfl
theorem look_ne {en : En} {e : Ex} (h : e.isSide = true) (k : lookE en e = none) : False := by cases e <;> first | exact Bool.noConfusion h | exact Option.noConfusion k | (simp only [lookE] at k; cases k)
theorem side_gives {w : World} {st env v : Addr} {e : Ex} {en : En} {news : Led} (he : e.isSide = true) (hz : e.subs.length ≤ 100000) (hs : StAt w news st true) (hy : EnvAt w news env en) (hx : ExAt news v e) : Gives w 286 [.ref st, .ref env, .ref v] news (e.need + 6) (pIv (sideV en e)) := by
  unfold Gives
  intro loose mean mg mb dp un gd cn cs aa ccd cl outer A₀ base h₀ L m s Q E B F X N T hk hd hu hret
  obtain ⟨op, ty, kids, value, hn, ht⟩ := side_of hx he
  cases hn
  obtain ⟨hd9, hu9, rm1, rm2⟩ := needs1y 1 2 3 hd hu rfl rfl
  clear hd hu
  cases hee : e.eager
  all_goals
    refine wpAny_call ?_
    k_dflt ktr_enter
    row_timed "" (first | (guard_target = wpAny _ _ (call (Value.ref _) _) _ _ _; (first | (k_here; k_dflt (first | ktf_call (use_nodes (nodes_gives ?_ ?_)) | ktf_call (use_bool (holds_gives ?_ ?_)))) | (k_here; k_dflt (ktf_call (use_oivK (quiet_call ?_ ?_ ?_ ?_)))) | (k_here; k_dflt (first | ktf_call (use_iv (type_range_int ?_)) | ktf_call (use_val (type_range_bool ?_)) | ktf_call (use_int (followed_var ?_ ?_ ?_)) | ktf_call (use_int (followed_not ?_ ?_)) | ktf_call (use_iv (single_gives)) | ktf_call (use_iv (known_gives ?_)) | ktf_call (use_ivb (add_gives ?_ ?_)))))))
  · refine hret _ _ _ _ (by assumption) (by assumption) (by kp_flats) (by kat_tups) ?_
    exact exIv (by ktr_rel) (side_1 hee (by assumption))
  · rename OIvAt _ _ _ => h9
    cases h9 with
    | none => exact (look_ne he (by assumption)).elim
    | some h9 =>
      refine hret _ _ _ _ (by assumption) (by assumption) (by kp_flats) (by kat_tups) ?_
      exact exIv (h9.mono (by kp_flats)) (side_2 hee (by assumption))
theorem side_call {w : World} {st env v : Addr} {e : Ex} {en : En} {news : Led} (hx : ExAt news v e) (he : e.isSide = true) (hz : e.subs.length ≤ 100000) (hs : StAt w news st true) (hy : EnvAt w news env en) : Gives w 286 [.ref st, .ref env, .ref v] news (e.need + 6) (pIv (sideV en e)) := side_gives he hz hs hy hx
noncomputable def stepE (en : En) (e : Ex) (p : Int × Int) : Option En := match e with
  | .var s => (meetI (en.get s).1 (en.get s).2 p.1 p.2).map (en.set s)
  | _ => some en
noncomputable def assumeE (en : En) (o : Rel) (l r : Ex) (x y : Int × Int) : Option En := match narrowI o x.1 x.2 y.1 y.2 with
  | none => none
  | some (p, q) => (stepE en l p).bind fun en1 => stepE en1 r q
section
variable {en : En} {e : Ex} {p x : Int × Int}
theorem step_0 (h : e.isVar = false) : stepE en e p = some en := by cases e <;> first | rfl | cases h
theorem step_1 {a b c d : Int} (h : e = .var false) (k : meetI en.a en.b a b = some (c, d)) : stepE en e (a, b) = some (en.set false (c, d)) := by rw [h]; show (meetI _ _ _ _).map _ = _; rw [show (en.get false).1 = en.a from rfl, show (en.get false).2 = en.b from rfl, k]; rfl
theorem step_2 {a b c d : Int} (h : e = .var true) (k : meetI en.c en.d a b = some (c, d)) : stepE en e (a, b) = some (en.set true (c, d)) := by rw [h]; show (meetI _ _ _ _).map _ = _; rw [show (en.get true).1 = en.c from rfl, show (en.get true).2 = en.d from rfl, k]; rfl
theorem step_3 {a b : Int} (h : e = .var false) (k : meetI en.a en.b a b = none) : stepE en e (a, b) = none := by rw [h]; show (meetI _ _ _ _).map _ = _; rw [show (en.get false).1 = en.a from rfl, show (en.get false).2 = en.b from rfl, k]; rfl
theorem step_4 {a b : Int} (h : e = .var true) (k : meetI en.c en.d a b = none) : stepE en e (a, b) = none := by rw [h]; show (meetI _ _ _ _).map _ = _; rw [show (en.get true).1 = en.c from rfl, show (en.get true).2 = en.d from rfl, k]; rfl
end
section
variable {en en1 en2 : En} {o : Rel} {l r : Ex} {a b c d : Int} {p q : Int × Int}
theorem assume_1 (h : narrowI o a b c d = none) : assumeE en o l r (a, b) (c, d) = none := by rw [assumeE, h]
theorem assume_2 (h : narrowI o a b c d = some (p, q)) (k : stepE en l p = none) : assumeE en o l r (a, b) (c, d) = none := by rw [assumeE, h]; show Option.bind _ _ = _; rw [k]; rfl
theorem assume_3 (h : narrowI o a b c d = some (p, q)) (k : stepE en l p = some en1) (i : stepE en1 r q = none) : assumeE en o l r (a, b) (c, d) = none := by rw [assumeE, h]; show Option.bind _ _ = _; rw [k]; exact i
theorem assume_4 (h : narrowI o a b c d = some (p, q)) (k : stepE en l p = some en1) (i : stepE en1 r q = some en2) : assumeE en o l r (a, b) (c, d) = some en2 := by rw [assumeE, h]; show Option.bind _ _ = _; rw [k]; exact i
end
inductive OEnvAt (w : World) (news : Led) : Value → Option En → Prop
  | none : OEnvAt w news .none none
  | some {x : Addr} {e : En} : EnvAt w news x e → OEnvAt w news (.ref x) (some e)
theorem OEnvAt.mono {w : World} {news news' : Led} {v : Value} {o : Option En} (h : OEnvAt w news v o) (hs : ∀ p ∈ news, p ∈ news') : OEnvAt w news' v o := by
  cases h with
  | none => exact .none
  | some h => exact .some (h.mono hs)
noncomputable def pOEnv (w : World) (x : Option En) : Pst := ⟨fun l v => ∃ o, x = o ∧ OEnvAt w l v o, fun ⟨o, e, h⟩ hs => ⟨o, e, h.mono hs⟩⟩

theorem range_ind {prog : Program} {w : World} {A : Around} {E : Value → Shared → Prop} {s : Shared} {env : Env} {h₀ : Heap} {x : Str} {body : List Stmt} {Q : Flow → Shared → Prop} {I : Addr} {a : Int} {n : Nat} (J : Nat → (Str → Option Value) → Led → Prop)
    (turn : ∀ i m l, i < n → J i m l → (∀ p ∈ l, p.1 ≠ I) → ∀ t h tk, Fr h₀ env.locals h (fun y => if y = x then some (.int (a + (i : Int)) t) else m y) → News h₀ env.locals h ((I, itR (a + ((i + 1 : Nat) : Int)) ((n : Int) - ((i + 1 : Nat) : Int))) :: l) →
      wpAny (model prog w) A (execs body env) (UnrPost h₀ env.locals { s with heap := h, toks := tk } I (itR (a + ((i + 1 : Nat) : Int)) ((n : Int) - ((i + 1 : Nat) : Int))) (J (i + 1)) Q) E { s with heap := h, toks := tk })
    (done : ∀ m l, J n m l → ∀ h tk, Fr h₀ env.locals h m → News h₀ env.locals h l → Q .next { s with heap := h, toks := tk }) :
    ∀ k i m l, i + k = n → J i m l → (∀ p ∈ l, p.1 ≠ I) → RangeRest prog w A E h₀ env x body Q s I a n k i m l := by
  intro k
  induction k with
  | zero =>
    intro i m l e hj _ h tk F N
    obtain rfl : i = n := by omega
    exact done m l hj h tk F N
  | succ k ih =>
    intro i m l e hj hoff t h tk F N
    refine wpAny_mono (turn i m l (by omega) hj hoff t h tk F N) (fun f s₂ p => ?_) fun _ _ e => e
    cases f with
    | ret v => exact p
    | brk => exact p
    | next =>
      obtain ⟨h', tk', m', l', e', F', N', off, j⟩ := p
      exact ⟨h', tk', m', l', e', F', N', off, ih (i + 1) m' l' (by omega) j off⟩
    | cont =>
      obtain ⟨h', tk', m', l', e', F', N', off, j⟩ := p
      exact ⟨h', tk', m', l', e', F', N', off, ih (i + 1) m' l' (by omega) j off⟩
theorem map_shape {m m₀ : Str → Option Value} {a : Str} {v : Option Value} {l : List Str} (h : m a = v) (k : ∀ z, z ≠ a → l.contains z = false → m z = m₀ z) : m = fun z => if z = a then v else if l.contains z then m z else m₀ z := by
  funext z
  by_cases e : z = a
  · rw [if_pos e, e, h]
  · rw [if_neg e]
    cases c : l.contains z with
    | true => rfl
    | false => exact k z e c
/-- a loop over a range whose turns change the ranges under one name -/
theorem range_env {prog : Program} {w : World} {A : Around} {E : Value → Shared → Prop} {s : Shared} {env : Env} {h₀ : Heap} {x : Str} {body : List Stmt} {Q : Flow → Shared → Prop} {I x₀ : Addr} {a : Int} {n : Nat} {m₀ : Str → Option Value} {l₀ news : Led} {e₀ : En} (y : Str) (names : List Str) (V : Nat → En → Prop)
    (hy : m₀ y = some (.ref x₀)) (he : EnvAt w l₀ x₀ e₀) (hv : V 0 e₀) (hn : NewIn news l₀) (ho : ∀ p ∈ l₀, p.1 ≠ I)
    (turn : ∀ (i : Nat) (u : Str → Option Value) (x' : Addr) (e' : En) (l : Led), i < n → V i e' → EnvAt w l x' e' → (∀ p ∈ l₀, p ∈ l) → NewIn news l → (∀ p ∈ l, p.1 ≠ I) → ∀ t h tk, Fr h₀ env.locals h (fun z => if z = x then some (.int (a + (i : Int)) t) else if z = y then some (.ref x') else if names.contains z then u z else m₀ z) →
      News h₀ env.locals h ((I, itR (a + ((i + 1 : Nat) : Int)) ((n : Int) - ((i + 1 : Nat) : Int))) :: l) →
      wpAny (model prog w) A (execs body env) (UnrPost h₀ env.locals { s with heap := h, toks := tk } I (itR (a + ((i + 1 : Nat) : Int)) ((n : Int) - ((i + 1 : Nat) : Int))) (fun m' l' => ∃ x'' e'', m' y = some (.ref x'') ∧ (∀ z, z ≠ y → names.contains z = false → m' z = m₀ z) ∧ (∀ p ∈ l₀, p ∈ l') ∧ NewIn news l' ∧ EnvAt w l' x'' e'' ∧ V (i + 1) e'') Q) E { s with heap := h, toks := tk })
    (done : ∀ (u : Str → Option Value) (x' : Addr) (e' : En) (l : Led), V n e' → EnvAt w l x' e' → (∀ p ∈ l₀, p ∈ l) → NewIn news l → ∀ h tk, Fr h₀ env.locals h (fun z => if z = y then some (.ref x') else if names.contains z then u z else m₀ z) → News h₀ env.locals h l → Q .next { s with heap := h, toks := tk }) :
    RangeRest prog w A E h₀ env x body Q s I a n n 0 m₀ l₀ := by
  refine range_ind (fun i m' l' => ∃ x'' e'', m' y = some (.ref x'') ∧ (∀ z, z ≠ y → names.contains z = false → m' z = m₀ z) ∧ (∀ p ∈ l₀, p ∈ l') ∧ NewIn news l' ∧ EnvAt w l' x'' e'' ∧ V i e'') ?_ ?_ n 0 m₀ l₀ (Nat.zero_add n) ⟨x₀, e₀, hy, fun _ _ _ => rfl, fun _ h => h, hn, he, hv⟩ ho
  · rintro i m l hi ⟨x', e', k1, k2, k3, k4, k5, k6⟩ k7 t h tk F N
    have em := map_shape k1 k2
    rw [em] at F
    exact turn i m x' e' l hi k6 k5 k3 k4 k7 t h tk F N
  · rintro m l ⟨x', e', k1, k2, k3, k4, k5, k6⟩ h tk F N
    have em := map_shape k1 k2
    rw [em] at F
    exact done m x' e' l k6 k5 k3 k4 h tk F N
local macro_rules | `(tactic| kat_tups) => `(tactic| with_reducible assumption)
local macro_rules | `(tactic| k_caughtB) => `(tactic| (k_here; (with_reducible show wpAny _ _ (subscriptTail _ _ (Value.ref _) (Value.int _ _)) _ _ _); k_dflt (first
  | ((refine item_litK (by refine News.isList (by k_asm) (by kct_strs)) (by decide) (by decide) (by rfl) ?_ (by with_unfolding_all rfl); k_whole); (try dsimp only))
  | ((refine item_tupleT (by refine News.isTup (by k_asm) (by kct_strs)) (by decide) (by decide) (by rfl) (by rfl) ?_; k_whole); (try dsimp only))
  | ((with_reducible show wpAny _ _ (subscriptTail _ _ (Value.ref _) (Value.int 0 _)) _ _ _); refine' env_sub0 ?N ?h ?_ ?a ?b; (case a => with_unfolding_all rfl); (case b => (intro _; with_unfolding_all rfl)); (case N => k_asm); (case h => ktr_rel); intro p' hp'; (try dsimp only))
  | ((with_reducible show wpAny _ _ (subscriptTail _ _ (Value.ref _) (Value.int 1 _)) _ _ _); refine' env_sub1 ?N ?h ?_ ?a ?b; (case a => with_unfolding_all rfl); (case b => (intro _; with_unfolding_all rfl)); (case N => k_asm); (case h => ktr_rel); intro p' hp'; (try dsimp only)))))
theorem off_ne3 {z : Str} (hz : ([Str.ofString "place", Str.ofString "slot", Str.ofString "part"].contains z) = false) : z ≠ Str.ofString "place" ∧ z ≠ Str.ofString "slot" ∧ z ≠ Str.ofString "part" := by simpa using hz
theorem env_drop {w : World} {h₀ h : Heap} {L I x : Addr} {it : Obj} {l l0 : Led} {e : En} (_ : News h₀ L h ((I, it) :: l)) (k : EnvAt w l0 x e) (hm : Mut it = true) (hs : ∀ p ∈ l0, p ∈ (I, it) :: l) : EnvAt w l x e := (k.mono hs).stay (drop_mut hm)
noncomputable def AsV (en : En) (oo : Rel) (l r : Ex) (a b c d : Int) (i : Nat) (e' : En) : Prop := (i = 0 ∧ e' = en) ∨ (i = 1 ∧ ∃ p q, narrowI oo a b c d = some (p, q) ∧ stepE en l p = some e') ∨ (i = 2 ∧ assumeE en oo l r (a, b) (c, d) = some e')
section
variable {en e' : En} {oo : Rel} {l r : Ex} {a b c d : Int} {p q : Int × Int}
theorem asV_0 : AsV en oo l r a b c d 0 en := .inl ⟨rfl, rfl⟩
theorem asV_1 (h : narrowI oo a b c d = some (p, q)) (k : stepE en l p = some e') : AsV en oo l r a b c d 1 e' := .inr (.inl ⟨rfl, p, q, h, k⟩)
theorem asV_2 (h : assumeE en oo l r (a, b) (c, d) = some e') : AsV en oo l r a b c d 2 e' := .inr (.inr ⟨rfl, h⟩)
theorem asV_at0 (h : AsV en oo l r a b c d 0 e') : e' = en := by
  rcases h with ⟨_, h⟩ | ⟨h, _⟩ | ⟨h, _⟩
  · exact h
  · cases h
  · cases h
theorem asV_at1 (h : AsV en oo l r a b c d 1 e') (hn : narrowI oo a b c d = some (p, q)) : stepE en l p = some e' := by
  rcases h with ⟨h, _⟩ | ⟨_, p', q', h, k⟩ | ⟨h, _⟩
  · cases h
  · rw [hn] at h; cases h; exact k
  · cases h
theorem asV_at2 (h : AsV en oo l r a b c d 2 e') : assumeE en oo l r (a, b) (c, d) = some e' := by
  rcases h with ⟨h, _⟩ | ⟨h, _⟩ | ⟨_, h⟩
  · cases h
  · cases h
  · exact h
end
noncomputable def StrEnd (h₀ : Heap) (L : Addr) (m : Str → Option Value) (news : Led) (x : Str) (s : Shared) (v : Value) (s' : Shared) : Prop := ∃ t h' tk' tl, v = .str x t ∧ s' = { s with heap := h', toks := tk' } ∧ Fr h₀ L h' m ∧ News h₀ L h' (news ++ tl) ∧ ∀ q ∈ news, ∀ p ∈ tl, q.1 < p.1
theorem ifexp_cut {w : World} {A : Around} {t : Sem Value} {Q E : Value → Shared → Prop} {s : Shared} {h₀ : Heap} {L : Addr} {m : Str → Option Value} {news : Led} (x : Str) (F : Fr h₀ L s.heap m) (N : News h₀ L s.heap news) (h1 : Fr h₀ L s.heap m → News h₀ L s.heap news → wpAny (model PG w) A t (StrEnd h₀ L m news x s) E s)
    (h2 : ∀ tk0 h' tk' tl, Fr h₀ L h' m → News h₀ L h' (news ++ tl) → (∀ q ∈ news, ∀ p ∈ tl, q.1 < p.1) → Q (.str x tk0) { s with heap := h', toks := tk' }) : wpAny (model PG w) A t Q E s :=
  wpAny_mono (h1 F N) (fun v s' p => by obtain ⟨t, h', tk', tl, rfl, rfl, F', N', o'⟩ := p; exact h2 _ _ _ _ F' N' o') fun _ _ e => e
theorem assume_gives {w : World} {st env v x y : Addr} {o : Rel} {l r : Ex} {en : En} {a b c d : Int} {t : Bool} {news : Led} (hl : l.isSide = true) (hr : r.isSide = true) (hs : StAt w news st true) (hy : EnvAt w news env en) (hx : ExAt news v (.rel o l r)) (h1 : IvAt news (.ref x) a b) (h2 : IvAt news (.ref y) c d) :
    Gives w 293 [.ref st, .ref env, .ref v, .ref x, .ref y, .bool t] news 8 (pOEnv w (assumeE en (if t = true then o else o.opp) l r (a, b) (c, d))) := by
  unfold Gives
  intro loose mean mg mb dp un gd cn cs aa ccd cl outer A₀ base h₀ L m s Q E B F X N T hk hd hu hret
  obtain ⟨oo, hoo⟩ : ∃ oo, oo = (if t = true then o else o.opp) := ⟨_, rfl⟩
  rw [← hoo] at hret
  cases hx with | rel hn ht ha hb =>
  cases hn
  refine wpAny_call ?_
  k_dflt ktr_enter
  row_timed "" (first | (guard_target = wpAny _ _ (subscriptTail (Expr.Attribute ..) (Expr.Name ..) (Value.ref _) (Value.int _ _)) _ _ _; k_caughtB) | (guard_target = wpAny _ _ (subscriptTail (Expr.Name ..) (Expr.Name ..) (Value.ref _) (Value.int _ _)) _ _ _; k_caughtB) | (guard_target = wpAny _ _ (eval (Expr.IfExp ..) _) _ _ _; refine hold ?_) | (guard_target = wpAny _ _ (pyIter (Value.ref _)) _ _ _; ((with_reducible show wpAny _ _ (pyIter (Value.ref _)) (fun it s₂ => LoopAtV _ _ _ _ _ _ _ _ _ it s₂) _ _); k_dflt (refine iter_rangeUnr (n := 2) rfl (by with_reducible assumption) (by decide) (by decide) (by k_asm) (by k_asm) ?_; k_whole; intro i'z l1z; (have l2z := fun p hp => Nat.ne_of_lt (l1z p hp)); (try k_lt l1z); refine hold ?_))) | (guard_target = wpAny _ _ (call (Value.ref _) _) _ _ _; (first | (k_here; k_dflt (first | ktf_call (use_slot (followed_any ?_ ?_ ?_)) | ktf_call (use_iv (side_call ?_ ?_ ?_ ?_ ?_)))) | (k_here; k_dflt (first | ktf_call (use_env (with_slot_0 ?_ ?_)) | ktf_call (use_env (with_slot_1 ?_ ?_)))) | (k_here; k_dflt (ktf_call (use_opr (narrow_gives _ ?_ ?_)))) | (k_here; k_dflt (ktf_call (use_str (opposite_gives _)))) | (k_here; k_dflt (ktf_call (use_oiv (meet_gives ?_ ?_)))))) | (guard_target = UnrEnd ..; (k_dflt (refine UnrEnd.intro (by k_asm) (by k_asm) _ (fun _ h => h) (by k_all) (hold ?_)))))
  unfold Hold
  refine ifexp_cut oo.txt (by k_asm) (by k_asm) ?_ ?_
  · intro F8 N8
    subst hoo
    cases t
    all_goals
      simp only [Bool.false_eq_true, if_false, if_true]
      with_reducible refine IfExp_ ?_
      row_timed "" (first | (guard_target = wpAny _ _ (subscriptTail (Expr.Attribute ..) (Expr.Name ..) (Value.ref _) (Value.int _ _)) _ _ _; k_caughtB) | (guard_target = wpAny _ _ (subscriptTail (Expr.Name ..) (Expr.Name ..) (Value.ref _) (Value.int _ _)) _ _ _; k_caughtB) | (guard_target = wpAny _ _ (eval (Expr.IfExp ..) _) _ _ _; refine hold ?_) | (guard_target = wpAny _ _ (pyIter (Value.ref _)) _ _ _; ((with_reducible show wpAny _ _ (pyIter (Value.ref _)) (fun it s₂ => LoopAtV _ _ _ _ _ _ _ _ _ it s₂) _ _); k_dflt (refine iter_rangeUnr (n := 2) rfl (by with_reducible assumption) (by decide) (by decide) (by k_asm) (by k_asm) ?_; k_whole; intro i'z l1z; (have l2z := fun p hp => Nat.ne_of_lt (l1z p hp)); (try k_lt l1z); refine hold ?_))) | (guard_target = wpAny _ _ (call (Value.ref _) _) _ _ _; (first | (k_here; k_dflt (first | ktf_call (use_slot (followed_any ?_ ?_ ?_)) | ktf_call (use_iv (side_call ?_ ?_ ?_ ?_ ?_)))) | (k_here; k_dflt (first | ktf_call (use_env (with_slot_0 ?_ ?_)) | ktf_call (use_env (with_slot_1 ?_ ?_)))) | (k_here; k_dflt (ktf_call (use_opr (narrow_gives _ ?_ ?_)))) | (k_here; k_dflt (ktf_call (use_str (opposite_gives _)))) | (k_here; k_dflt (ktf_call (use_oiv (meet_gives ?_ ?_)))))) | (guard_target = UnrEnd ..; (k_dflt (refine UnrEnd.intro (by k_asm) (by k_asm) _ (fun _ h => h) (by k_all) (hold ?_)))))
    · exact ⟨_, _, _, _, rfl, rfl, by k_asm, by k_asm, by assumption⟩
    · exact ⟨_, _, _, [], rfl, rfl, by k_asm, by rw [List.append_nil]; k_asm, fun _ _ _ h => nomatch h⟩
  intro t8 h8 tk8 tl8 F8 N8 o8
  row_timed "" (first | (guard_target = wpAny _ _ (subscriptTail (Expr.Attribute ..) (Expr.Name ..) (Value.ref _) (Value.int _ _)) _ _ _; k_caughtB) | (guard_target = wpAny _ _ (subscriptTail (Expr.Name ..) (Expr.Name ..) (Value.ref _) (Value.int _ _)) _ _ _; k_caughtB) | (guard_target = wpAny _ _ (eval (Expr.IfExp ..) _) _ _ _; refine hold ?_) | (guard_target = wpAny _ _ (pyIter (Value.ref _)) _ _ _; ((with_reducible show wpAny _ _ (pyIter (Value.ref _)) (fun it s₂ => LoopAtV _ _ _ _ _ _ _ _ _ it s₂) _ _); k_dflt (refine iter_rangeUnr (n := 2) rfl (by with_reducible assumption) (by decide) (by decide) (by k_asm) (by k_asm) ?_; k_whole; intro i'z l1z; (have l2z := fun p hp => Nat.ne_of_lt (l1z p hp)); (try k_lt l1z); refine hold ?_))) | (guard_target = wpAny _ _ (call (Value.ref _) _) _ _ _; (first | (k_here; k_dflt (first | ktf_call (use_slot (followed_any ?_ ?_ ?_)) | ktf_call (use_iv (side_call ?_ ?_ ?_ ?_ ?_)))) | (k_here; k_dflt (first | ktf_call (use_env (with_slot_0 ?_ ?_)) | ktf_call (use_env (with_slot_1 ?_ ?_)))) | (k_here; k_dflt (ktf_call (use_opr (narrow_gives _ ?_ ?_)))) | (k_here; k_dflt (ktf_call (use_str (opposite_gives _)))) | (k_here; k_dflt (ktf_call (use_oiv (meet_gives ?_ ?_)))))) | (guard_target = UnrEnd ..; (k_dflt (refine UnrEnd.intro (by k_asm) (by k_asm) _ (fun _ h => h) (by k_all) (hold ?_)))))
  all_goals rename narrowI _ _ _ _ _ = _ => hnar
  all_goals first
    | (refine hret _ _ _ _ (by assumption) (by assumption) (by kp_flats) (by kat_tups) ?_; exact ⟨_, assume_1 hnar, .none⟩)
    | skip
  all_goals
    unfold Hold
    refine range_env (news := news) (Str.ofString "env") [Str.ofString "place", Str.ofString "slot", Str.ofString "part"] (AsV en oo l r a b c d) rfl (hy.mono (by kp_flats)) asV_0 (by kat_tups) (by with_reducible assumption) ?_ ?_
  · intro i u x' e1 l' hi hv he hsub hnew hoff t9 h9 tk9 F9 N9
    have h01 : i = 0 ∨ i = 1 := by omega
    rcases h01 with rfl | rfl
    all_goals
      first | rw [show (0 : Int) + ((0 : Nat) : Int) = 0 from rfl] at F9 | rw [show (0 : Int) + ((1 : Nat) : Int) = 1 from rfl] at F9
      row_timed "" (first | (guard_target = wpAny _ _ (subscriptTail (Expr.Attribute ..) (Expr.Name ..) (Value.ref _) (Value.int _ _)) _ _ _; k_caughtB) | (guard_target = wpAny _ _ (subscriptTail (Expr.Name ..) (Expr.Name ..) (Value.ref _) (Value.int _ _)) _ _ _; k_caughtB) | (guard_target = wpAny _ _ (eval (Expr.IfExp ..) _) _ _ _; refine hold ?_) | (guard_target = wpAny _ _ (pyIter (Value.ref _)) _ _ _; ((with_reducible show wpAny _ _ (pyIter (Value.ref _)) (fun it s₂ => LoopAtV _ _ _ _ _ _ _ _ _ it s₂) _ _); k_dflt (refine iter_rangeUnr (n := 2) rfl (by with_reducible assumption) (by decide) (by decide) (by k_asm) (by k_asm) ?_; k_whole; intro i'z l1z; (have l2z := fun p hp => Nat.ne_of_lt (l1z p hp)); (try k_lt l1z); refine hold ?_))) | (guard_target = wpAny _ _ (call (Value.ref _) _) _ _ _; (first | (k_here; k_dflt (first | ktf_call (use_slot (followed_any ?_ ?_ ?_)) | ktf_call (use_iv (side_call ?_ ?_ ?_ ?_ ?_)))) | (k_here; k_dflt (first | ktf_call (use_env (with_slot_0 ?_ ?_)) | ktf_call (use_env (with_slot_1 ?_ ?_)))) | (k_here; k_dflt (ktf_call (use_opr (narrow_gives _ ?_ ?_)))) | (k_here; k_dflt (ktf_call (use_str (opposite_gives _)))) | (k_here; k_dflt (ktf_call (use_oiv (meet_gives ?_ ?_)))))) | (guard_target = UnrEnd ..; (k_dflt (refine UnrEnd.intro (by k_asm) (by k_asm) _ (fun _ h => h) (by k_all) (hold ?_)))))
    all_goals first
      | (with_reducible show Hold _)
      | (refine hret _ _ _ _ (by assumption) (by assumption) (by kp_flats) (by kat_tups) ?_
         refine exR .none ?_
         first
         | (obtain rfl := asV_at0 hv
            exact assume_2 hnar (by first | exact step_3 (by assumption) (by assumption) | exact step_4 (by assumption) (by assumption)))
         | exact assume_3 hnar (asV_at1 hv hnar) (by first | exact step_3 (by assumption) (by assumption) | exact step_4 (by assumption) (by assumption)))
    all_goals
      unfold Hold
      refine' ⟨_, _, rfl, ?_, ?_, ?_, ?_, ?_⟩
      rotate_left 2
      · kp_flats
      · kat_tups
      · first | (refine EnvAt.mono he ?_; kp_flats) | (refine' env_drop ?n ?h ?m ?s; (case n => assumption); (case h => with_reducible assumption); (case m => rfl); (case s => kp_flats))
      · first
          | (obtain rfl := asV_at0 hv
             exact asV_1 hnar (by first | exact step_0 (by assumption) | exact step_1 (by assumption) (by assumption) | exact step_2 (by assumption) (by assumption)))
          | exact asV_2 (assume_4 hnar (asV_at1 hv hnar) (by first | exact step_0 (by assumption) | exact step_1 (by assumption) (by assumption) | exact step_2 (by assumption) (by assumption)))
      · intro z hz hc
        have h0 := off_ne3 hc
        simp only [h0.1, h0.2.1, h0.2.2, hz, hc, if_false, Bool.false_eq_true]
  · intro u x' e1 l' hv he hsub hnew h9 tk9 F9 N9
    row_timed "" (first | (guard_target = wpAny _ _ (subscriptTail (Expr.Attribute ..) (Expr.Name ..) (Value.ref _) (Value.int _ _)) _ _ _; k_caughtB) | (guard_target = wpAny _ _ (subscriptTail (Expr.Name ..) (Expr.Name ..) (Value.ref _) (Value.int _ _)) _ _ _; k_caughtB) | (guard_target = wpAny _ _ (eval (Expr.IfExp ..) _) _ _ _; refine hold ?_) | (guard_target = wpAny _ _ (pyIter (Value.ref _)) _ _ _; ((with_reducible show wpAny _ _ (pyIter (Value.ref _)) (fun it s₂ => LoopAtV _ _ _ _ _ _ _ _ _ it s₂) _ _); k_dflt (refine iter_rangeUnr (n := 2) rfl (by with_reducible assumption) (by decide) (by decide) (by k_asm) (by k_asm) ?_; k_whole; intro i'z l1z; (have l2z := fun p hp => Nat.ne_of_lt (l1z p hp)); (try k_lt l1z); refine hold ?_))) | (guard_target = wpAny _ _ (call (Value.ref _) _) _ _ _; (first | (k_here; k_dflt (first | ktf_call (use_slot (followed_any ?_ ?_ ?_)) | ktf_call (use_iv (side_call ?_ ?_ ?_ ?_ ?_)))) | (k_here; k_dflt (first | ktf_call (use_env (with_slot_0 ?_ ?_)) | ktf_call (use_env (with_slot_1 ?_ ?_)))) | (k_here; k_dflt (ktf_call (use_opr (narrow_gives _ ?_ ?_)))) | (k_here; k_dflt (ktf_call (use_str (opposite_gives _)))) | (k_here; k_dflt (ktf_call (use_oiv (meet_gives ?_ ?_)))))) | (guard_target = UnrEnd ..; (k_dflt (refine UnrEnd.intro (by k_asm) (by k_asm) _ (fun _ h => h) (by k_all) (hold ?_)))))
    refine hret _ _ _ _ (by assumption) (by assumption) (by kp_flats) (by kat_tups) ?_
    exact ⟨_, asV_at2 hv, .some he⟩
theorem assume_call {w : World} {st env v x y : Addr} {o : Rel} {l r : Ex} {en : En} {a b c d : Int} {t : Bool} {news : Led} (hx : ExAt news v (.rel o l r)) (hl : l.isSide = true) (hr : r.isSide = true) (hs : StAt w news st true) (hy : EnvAt w news env en) (h1 : IvAt news (.ref x) a b) (h2 : IvAt news (.ref y) c d) :
    Gives w 293 [.ref st, .ref env, .ref v, .ref x, .ref y, .bool t] news 8 (pOEnv w (assumeE en (if t = true then o else o.opp) l r (a, b) (c, d))) := assume_gives hl hr hs hy hx h1 h2
/-! the plain law: what the walk's functions answer holds the values; no program in sight -/
noncomputable def Rel.holds : Rel → Int → Int → Bool
  | .eq, u, v => decide (u = v) | .ne, u, v => decide (u ≠ v) | .lt, u, v => decide (u < v) | .le, u, v => decide (u ≤ v) | .gt, u, v => decide (u > v) | .ge, u, v => decide (u ≥ v)
structure Two where
  x : Int
  y : Int
noncomputable def Two.get (h : Two) : Bool → Int
  | false => h.x
  | true => h.y
noncomputable def valE (h : Two) : Ex → Int
  | .con n => n
  | .var s => h.get s
  | .plus l r => valE h l + valE h r
  | .ord e => valE h e
  | .rel o l r => if o.holds (valE h l) (valE h r) = true then 1 else 0
  | .nt e => 1 - valE h e
  | .land l r => if valE h l = 0 then valE h l else valE h r
  | .lor l r => if valE h l = 1 then valE h l else valE h r
/-- the shapes that the law builds: a side (true), a condition (false) -/
noncomputable def Ex.good : Ex → Bool → Prop
  | .con n, true => -1000 ≤ n ∧ n ≤ 1000
  | .var _, true => True
  | .plus l r, true => match l, r with
    | .var _, .con n => -1000 ≤ n ∧ n ≤ 1000
    | _, _ => False
  | .ord e, true => e.good false
  | .rel _ l r, false => l.good true ∧ r.good true
  | .nt e, false => e.good false
  | .land l r, false => l.good false ∧ r.good false
  | .lor l r, false => l.good false ∧ r.good false
  | _, _ => False
noncomputable def En.has (en : En) (h : Two) : Prop := en.a ≤ h.x ∧ h.x ≤ en.b ∧ en.c ≤ h.y ∧ h.y ≤ en.d
noncomputable def En.within (e1 en : En) : Prop := en.a ≤ e1.a ∧ e1.b ≤ en.b ∧ en.c ≤ e1.c ∧ e1.d ≤ en.d
noncomputable def En.small (en : En) : Prop := -1000 ≤ en.a ∧ en.b ≤ 1000 ∧ -1000 ≤ en.c ∧ en.d ≤ 1000
theorem En.within.refl (en : En) : en.within en := ⟨Int.le_refl _, Int.le_refl _, Int.le_refl _, Int.le_refl _⟩
theorem En.within.trans {a b c : En} (h : a.within b) (k : b.within c) : a.within c := by
  obtain ⟨h1, h2, h3, h4⟩ := h; obtain ⟨k1, k2, k3, k4⟩ := k
  exact ⟨by lia, by lia, by lia, by lia⟩
theorem En.small.of' {a b : En} (k : b.small) (h : a.within b) : a.small := by
  obtain ⟨h1, h2, h3, h4⟩ := h; obtain ⟨k1, k2, k3, k4⟩ := k
  exact ⟨by lia, by lia, by lia, by lia⟩
theorem cond_val {h : Two} : ∀ e : Ex, e.good false → valE h e = 0 ∨ valE h e = 1
  | .rel o l r, _ => by simp only [valE]; split <;> simp
  | .nt e, g => by simp only [valE]; rcases cond_val e g with k | k <;> rw [k] <;> simp
  | .land l r, g => by
    simp only [valE]
    split
    · rename_i k; exact .inl k
    · exact cond_val r g.2
  | .lor l r, g => by
    simp only [valE]
    split
    · rename_i k; exact .inr k
    · exact cond_val r g.2
theorem meet_in {a b c d u : Int} (h1 : a ≤ u) (h2 : u ≤ b) (h3 : c ≤ u) (h4 : u ≤ d) : ∃ p q, meetI a b c d = some (p, q) ∧ p ≤ u ∧ u ≤ q ∧ a ≤ p ∧ q ≤ b ∧ c ≤ p ∧ q ≤ d := by
  unfold meetI maxI minI
  refine ⟨_, _, if_neg ?_, ?_⟩
  · split <;> split <;> lia
  · refine ⟨?_, ?_, ?_, ?_, ?_, ?_⟩ <;> (first | (split <;> lia))
theorem meet_within {a b c d p q : Int} (h : meetI a b c d = some (p, q)) : a ≤ p ∧ q ≤ b := by
  unfold meetI at h
  split at h
  · cases h
  · have e := Option.some.inj h
    have e1 : maxI a c = p := congrArg Prod.fst e
    have e2 : minI b d = q := congrArg Prod.snd e
    unfold maxI at e1
    unfold minI at e2
    constructor
    · rw [← e1]; split <;> lia
    · rw [← e2]; split <;> lia
theorem side_val {en : En} {h : Two} (hs : en.small) (hh : en.has h) : ∀ e : Ex, e.good true → ∃ lo hi, sideV en e = (lo, hi) ∧ lo ≤ valE h e ∧ valE h e ≤ hi ∧ -2000 ≤ valE h e ∧ valE h e ≤ 2000
  | .con n, g => ⟨n, n, rfl, Int.le_refl _, Int.le_refl _, by have := g.1; show -2000 ≤ n; lia, by have := g.2; show n ≤ 2000; lia⟩
  | .var s, _ => by
    obtain ⟨h1, h2, h3, h4⟩ := hh; obtain ⟨s1, s2, s3, s4⟩ := hs
    cases s with
    | false => exact ⟨en.a, en.b, rfl, h1, h2, (by show -2000 ≤ h.x; lia), (by show h.x ≤ 2000; lia)⟩
    | true => exact ⟨en.c, en.d, rfl, h3, h4, (by show -2000 ≤ h.y; lia), (by show h.y ≤ 2000; lia)⟩
  | .plus (.var s) (.con n), g => by
    obtain ⟨g1, g2⟩ := g
    obtain ⟨h1, h2, h3, h4⟩ := hh; obtain ⟨s1, s2, s3, s4⟩ := hs
    have key : ∀ a b u : Int, -1000 ≤ a → b ≤ 1000 → a ≤ u → u ≤ b → ∃ lo hi, addI a b n n = (lo, hi) ∧ lo ≤ u + n ∧ u + n ≤ hi ∧ -2000 ≤ u + n ∧ u + n ≤ 2000 := by
      intro a b u k1 k2 k3 k4
      unfold addI clipI maxI minI
      refine ⟨_, _, if_neg ?_, ?_⟩
      · split <;> split <;> lia
      · refine ⟨?_, ?_, by lia, by lia⟩ <;> split <;> lia
    cases s with
    | false =>
      obtain ⟨lo, hi, k, r⟩ := key en.a en.b h.x s1 s2 h1 h2
      exact ⟨lo, hi, by rw [← k]; rfl, r⟩
    | true =>
      obtain ⟨lo, hi, k, r⟩ := key en.c en.d h.y s3 s4 h3 h4
      exact ⟨lo, hi, by rw [← k]; rfl, r⟩
  | .ord e, g => by
    have hv : valE h (.ord e) = 0 ∨ valE h (.ord e) = 1 := cond_val e g
    cases he : e.eager with
    | true => exact ⟨0, 1, by rw [sideV, show (Ex.ord e).eager = true from he]; rfl, by lia, by lia, by lia, by lia⟩
    | false => exact ⟨-2147483648, 2147483647, by rw [sideV, show (Ex.ord e).eager = false from he]; rfl, by lia, by lia, by lia, by lia⟩
  | .plus (.con _) _, g => by cases g
  | .plus (.plus _ _) _, g => by cases g
  | .plus (.ord _) _, g => by cases g
  | .plus (.rel _ _ _) _, g => by cases g
  | .plus (.nt _) _, g => by cases g
  | .plus (.land _ _) _, g => by cases g
  | .plus (.lor _ _) _, g => by cases g
  | .plus (.var _) (.var _), g => by cases g
  | .plus (.var _) (.plus _ _), g => by cases g
  | .plus (.var _) (.ord _), g => by cases g
  | .plus (.var _) (.rel _ _ _), g => by cases g
  | .plus (.var _) (.nt _), g => by cases g
  | .plus (.var _) (.land _ _), g => by cases g
  | .plus (.var _) (.lor _ _), g => by cases g
theorem narrow_in {o : Rel} {a b c d u v : Int} (h1 : a ≤ u) (h2 : u ≤ b) (h3 : c ≤ v) (h4 : v ≤ d) (u1 : -2000 ≤ u) (u2 : u ≤ 2000) (v1 : -2000 ≤ v) (v2 : v ≤ 2000) (hr : o.holds u v = true) :
    ∃ p q r s, narrowI o a b c d = some ((p, q), (r, s)) ∧ p ≤ u ∧ u ≤ q ∧ r ≤ v ∧ v ≤ s := by
  have below : ∀ {a b c d u v g : Int}, a ≤ u → u ≤ b → c ≤ v → v ≤ d → -2000 ≤ u → u ≤ 2000 → -2000 ≤ v → v ≤ 2000 → 0 ≤ g → u + g ≤ v → ∃ p q r s, belowI a b c d g = some ((p, q), (r, s)) ∧ p ≤ u ∧ u ≤ q ∧ r ≤ v ∧ v ≤ s := by
    intro a b c d u v g k1 k2 k3 k4 k5 k6 k7 k8 k9 k10
    obtain ⟨p, q, e1, e2, e3, _⟩ := meet_in (c := -2147483648) (d := d - g) k1 k2 (by lia) (by lia)
    obtain ⟨r, s, f1, f2, f3, _⟩ := meet_in (c := a + g) (d := 2147483647) k3 k4 (by lia) (by lia)
    exact ⟨p, q, r, s, belowI_5 (by lia) (by lia) e1 f1, e2, e3, f2, f3⟩
  cases o with
  | eq =>
    have e : u = v := of_decide_eq_true hr
    obtain ⟨p, q, k, k1, k2, _⟩ := meet_in h1 h2 (show c ≤ u by lia) (show u ≤ d by lia)
    exact ⟨p, q, p, q, by show Option.map _ _ = _; rw [k]; rfl, k1, k2, by lia, by lia⟩
  | ne =>
    have e : u ≠ v := of_decide_eq_true hr
    have side : ∀ {a b c d u v : Int}, a ≤ u → u ≤ b → c ≤ v → v ≤ d → u ≠ v → ∃ p q, sideI a b c d = some (p, q) ∧ p ≤ u ∧ u ≤ q := by
      intro a b c d u v k1 k2 k3 k4 k5
      by_cases z : c = d
      · by_cases x : a = c
        · by_cases y : b = c
          · lia
          · exact ⟨_, _, sideI_1 z (withoutI_2 x y), by lia, by lia⟩
        · by_cases y : b = c
          · exact ⟨_, _, sideI_1 z (withoutI_3 x y), by lia, by lia⟩
          · exact ⟨_, _, sideI_1 z (withoutI_4 x y), by lia, by lia⟩
      · exact ⟨_, _, sideI_2 z, k1, k2⟩
    obtain ⟨p, q, k, k1, k2⟩ := side h1 h2 h3 h4 e
    obtain ⟨r, s, i, i1, i2⟩ := side h3 h4 h1 h2 (Ne.symm e)
    exact ⟨p, q, r, s, apartI_3 k i, k1, k2, i1, i2⟩
  | lt => exact below h1 h2 h3 h4 u1 u2 v1 v2 (by decide) (by have : u < v := of_decide_eq_true hr; lia)
  | le => exact below h1 h2 h3 h4 u1 u2 v1 v2 (by decide) (by have : u ≤ v := of_decide_eq_true hr; lia)
  | gt =>
    obtain ⟨p, q, r, s, k, k1, k2, k3, k4⟩ := below h3 h4 h1 h2 v1 v2 u1 u2 (show (0 : Int) ≤ 1 by decide) (by have : u > v := of_decide_eq_true hr; lia)
    exact ⟨r, s, p, q, swapP_2 k, k3, k4, k1, k2⟩
  | ge =>
    obtain ⟨p, q, r, s, k, k1, k2, k3, k4⟩ := below h3 h4 h1 h2 v1 v2 u1 u2 (show (0 : Int) ≤ 0 by decide) (by have : u ≥ v := of_decide_eq_true hr; lia)
    exact ⟨r, s, p, q, swapP_2 k, k3, k4, k1, k2⟩
theorem step_within {en en1 : En} {e : Ex} {p : Int × Int} (h : stepE en e p = some en1) : en1.within en := by
  cases e with
  | var s =>
    cases s with
    | false =>
      simp only [stepE, En.get] at h
      obtain ⟨m, hm, rfl⟩ := Option.map_eq_some_iff.mp h
      obtain ⟨x, y⟩ := m
      have := meet_within hm
      exact ⟨this.1, this.2, Int.le_refl _, Int.le_refl _⟩
    | true =>
      simp only [stepE, En.get] at h
      obtain ⟨m, hm, rfl⟩ := Option.map_eq_some_iff.mp h
      obtain ⟨x, y⟩ := m
      have := meet_within hm
      exact ⟨Int.le_refl _, Int.le_refl _, this.1, this.2⟩
  | _ => cases h; exact En.within.refl _
theorem step_in {en : En} {h : Two} {e : Ex} {p q : Int} (hh : en.has h) (h1 : p ≤ valE h e) (h2 : valE h e ≤ q) : ∃ en1, stepE en e (p, q) = some en1 ∧ en1.has h ∧ en1.within en := by
  cases e with
  | var s =>
    obtain ⟨k1, k2, k3, k4⟩ := hh
    cases s with
    | false =>
      obtain ⟨x, y, e, e1, e2, _⟩ := meet_in k1 k2 h1 h2
      exact ⟨_, step_1 rfl e, ⟨e1, e2, k3, k4⟩, step_within (step_1 rfl e)⟩
    | true =>
      obtain ⟨x, y, e, e1, e2, _⟩ := meet_in k3 k4 h1 h2
      exact ⟨_, step_2 rfl e, ⟨k1, k2, e1, e2⟩, step_within (step_2 rfl e)⟩
  | _ => exact ⟨en, rfl, hh, En.within.refl _⟩
theorem assume_within {en en1 : En} {o : Rel} {l r : Ex} {x y : Int × Int} (h : assumeE en o l r x y = some en1) : en1.within en := by
  unfold assumeE at h
  split at h
  · cases h
  · obtain ⟨m, h1, h2⟩ := Option.bind_eq_some_iff.mp h
    exact (step_within h2).trans (step_within h1)
theorem assume_in {en : En} {h : Two} {o : Rel} {l r : Ex} (hs : en.small) (hh : en.has h) (gl : l.good true) (gr : r.good true) (hr : o.holds (valE h l) (valE h r) = true) : ∃ en1, assumeE en o l r (sideV en l) (sideV en r) = some en1 ∧ en1.has h ∧ en1.within en := by
  obtain ⟨a, b, e1, l1, l2, l3, l4⟩ := side_val hs hh l gl
  obtain ⟨c, d, e2, r1, r2, r3, r4⟩ := side_val hs hh r gr
  obtain ⟨p, q, r', s, k, k1, k2, k3, k4⟩ := narrow_in l1 l2 r1 r2 l3 l4 r3 r4 hr
  obtain ⟨en1, f1, f2, f3⟩ := step_in hh k1 k2
  obtain ⟨en2, g1, g2, g3⟩ := step_in f2 k3 k4
  rw [e1, e2]
  exact ⟨en2, assume_4 k f1 g1, g2, g3.trans f3⟩
theorem opp_holds (o : Rel) (u v : Int) : o.opp.holds u v = !o.holds u v := by
  cases o <;> simp only [Rel.opp, Rel.holds, ← decide_not] <;> exact decide_eq_decide.mpr (by lia)
noncomputable def joinE : Option En → Option En → Option En
  | none, b => b
  | some a, none => some a
  | some a, some b => some ⟨(joinI a.a a.b b.a b.b).1, (joinI a.a a.b b.a b.b).2, (joinI a.c a.d b.c b.d).1, (joinI a.c a.d b.c b.d).2⟩
noncomputable def bothE : En → Ex → Option En × Option En
  | en, .rel o l r => (assumeE en o l r (sideV en l) (sideV en r), assumeE en o.opp l r (sideV en l) (sideV en r))
  | en, .nt e => ((bothE en e).2, (bothE en e).1)
  | en, .land l r =>
    let inner := match (bothE en l).1 with
      | none => (none, none)
      | some m => bothE m r
    (inner.1, joinE (bothE en l).2 inner.2)
  | en, .lor l r =>
    let inner := match (bothE en l).2 with
      | none => (none, none)
      | some m => bothE m r
    (joinE (bothE en l).1 inner.1, inner.2)
  | en, _ => (some en, some en)
theorem join_left {a : En} {b : Option En} {h : Two} (hh : a.has h) : ∃ m, joinE (some a) b = some m ∧ m.has h := by
  cases b with
  | none => exact ⟨a, rfl, hh⟩
  | some b =>
    obtain ⟨h1, h2, h3, h4⟩ := hh
    refine ⟨_, rfl, ?_, ?_, ?_, ?_⟩ <;> (simp only [joinI]; split <;> lia)
theorem join_right {a : Option En} {b : En} {h : Two} (hh : b.has h) : ∃ m, joinE a (some b) = some m ∧ m.has h := by
  cases a with
  | none => exact ⟨b, rfl, hh⟩
  | some a =>
    obtain ⟨h1, h2, h3, h4⟩ := hh
    refine ⟨_, rfl, ?_, ?_, ?_, ?_⟩ <;> (simp only [joinI]; split <;> lia)
theorem join_within {a b : Option En} {en m : En} (ha : ∀ x, a = some x → x.within en) (hb : ∀ x, b = some x → x.within en) (h : joinE a b = some m) : m.within en := by
  cases a with
  | none => exact hb m h
  | some a =>
    cases b with
    | none => exact ha m h
    | some b =>
      obtain ⟨a1, a2, a3, a4⟩ := ha a rfl
      obtain ⟨b1, b2, b3, b4⟩ := hb b rfl
      cases h
      refine ⟨?_, ?_, ?_, ?_⟩ <;> (simp only [joinI]; split <;> lia)
theorem both_within : ∀ (e : Ex) (en : En), (∀ x, (bothE en e).1 = some x → x.within en) ∧ (∀ x, (bothE en e).2 = some x → x.within en)
  | .rel o l r, en => ⟨fun x h => assume_within h, fun x h => assume_within h⟩
  | .nt e, en => ⟨(both_within e en).2, (both_within e en).1⟩
  | .land l r, en => by
    have hl := both_within l en
    have inner : ∀ p : Option En × Option En, (match (bothE en l).1 with | none => (none, none) | some m => bothE m r) = p → (∀ x, p.1 = some x → x.within en) ∧ (∀ x, p.2 = some x → x.within en) := by
      intro p hp
      cases h1 : (bothE en l).1 with
      | none => rw [h1] at hp; subst hp; exact ⟨fun x h => (nomatch h), fun x h => (nomatch h)⟩
      | some m =>
        rw [h1] at hp; subst hp
        have hm := hl.1 m h1
        exact ⟨fun x h => ((both_within r m).1 x h).trans hm, fun x h => ((both_within r m).2 x h).trans hm⟩
    exact ⟨fun x h => (inner _ rfl).1 x h, fun x h => join_within hl.2 (inner _ rfl).2 h⟩
  | .lor l r, en => by
    have hl := both_within l en
    have inner : ∀ p : Option En × Option En, (match (bothE en l).2 with | none => (none, none) | some m => bothE m r) = p → (∀ x, p.1 = some x → x.within en) ∧ (∀ x, p.2 = some x → x.within en) := by
      intro p hp
      cases h1 : (bothE en l).2 with
      | none => rw [h1] at hp; subst hp; exact ⟨fun x h => (nomatch h), fun x h => (nomatch h)⟩
      | some m =>
        rw [h1] at hp; subst hp
        have hm := hl.2 m h1
        exact ⟨fun x h => ((both_within r m).1 x h).trans hm, fun x h => ((both_within r m).2 x h).trans hm⟩
    exact ⟨fun x h => join_within hl.1 (inner _ rfl).1 h, fun x h => (inner _ rfl).2 x h⟩
  | .con _, en => ⟨fun x h => by cases h; exact .refl _, fun x h => by cases h; exact .refl _⟩
  | .var _, en => ⟨fun x h => by cases h; exact .refl _, fun x h => by cases h; exact .refl _⟩
  | .plus _ _, en => ⟨fun x h => by cases h; exact .refl _, fun x h => by cases h; exact .refl _⟩
  | .ord _, en => ⟨fun x h => by cases h; exact .refl _, fun x h => by cases h; exact .refl _⟩
/-- the ranges for the truth that the values give are there and hold the values -/
theorem both_in {h : Two} : ∀ (e : Ex) (en : En), e.good false → en.small → en.has h →
    (valE h e = 1 → ∃ m, (bothE en e).1 = some m ∧ m.has h) ∧ (valE h e = 0 → ∃ m, (bothE en e).2 = some m ∧ m.has h)
  | .rel o l r, en, g, hs, hh => by
    constructor
    · intro v
      have k : o.holds (valE h l) (valE h r) = true := by
        simp only [valE] at v
        split at v
        · assumption
        · cases v
      obtain ⟨m, e, i, _⟩ := assume_in hs hh g.1 g.2 k
      exact ⟨m, e, i⟩
    · intro v
      have k : o.opp.holds (valE h l) (valE h r) = true := by
        simp only [valE] at v
        split at v
        · cases v
        · rename_i q; rw [opp_holds, Bool.not_eq_true _ |>.mp q]; rfl
      obtain ⟨m, e, i, _⟩ := assume_in hs hh g.1 g.2 k
      exact ⟨m, e, i⟩
  | .nt e, en, g, hs, hh => by
    obtain ⟨k1, k2⟩ := both_in e en g hs hh
    have hv : valE h (.nt e) = 1 - valE h e := rfl
    exact ⟨fun v => k2 (by lia), fun v => k1 (by lia)⟩
  | .land l r, en, g, hs, hh => by
    obtain ⟨k1, k2⟩ := both_in l en g.1 hs hh
    have hv : valE h (.land l r) = if valE h l = 0 then valE h l else valE h r := rfl
    constructor
    · intro v
      rw [hv] at v
      split at v
      · lia
      · rename_i q
        obtain ⟨m, e, i⟩ := k1 ((cond_val (h := h) l g.1).resolve_left q)
        obtain ⟨m', e', i'⟩ := (both_in r m g.2 (hs.of' ((both_within l en).1 m e)) i).1 v
        exact ⟨m', by simp only [bothE, e]; exact e', i'⟩
    · intro v
      rw [hv] at v
      split at v
      · obtain ⟨m, e, i⟩ := k2 v
        obtain ⟨m', e', i'⟩ := join_left (b := (match (bothE en l).1 with | none => ((none, none) : Option En × Option En) | some m => bothE m r).2) i
        exact ⟨m', by simp only [bothE, e]; exact e', i'⟩
      · rename_i q
        obtain ⟨m, e, i⟩ := k1 ((cond_val (h := h) l g.1).resolve_left q)
        obtain ⟨m', e', i'⟩ := (both_in r m g.2 (hs.of' ((both_within l en).1 m e)) i).2 v
        obtain ⟨m2, e2, i2⟩ := join_right (a := (bothE en l).2) i'
        exact ⟨m2, by simp only [bothE, e, e']; exact e2, i2⟩
  | .lor l r, en, g, hs, hh => by
    obtain ⟨k1, k2⟩ := both_in l en g.1 hs hh
    have hv : valE h (.lor l r) = if valE h l = 1 then valE h l else valE h r := rfl
    constructor
    · intro v
      rw [hv] at v
      split at v
      · obtain ⟨m, e, i⟩ := k1 v
        obtain ⟨m', e', i'⟩ := join_left (b := (match (bothE en l).2 with | none => ((none, none) : Option En × Option En) | some m => bothE m r).1) i
        exact ⟨m', by simp only [bothE, e]; exact e', i'⟩
      · rename_i q
        obtain ⟨m, e, i⟩ := k2 ((cond_val (h := h) l g.1).resolve_right q)
        obtain ⟨m', e', i'⟩ := (both_in r m g.2 (hs.of' ((both_within l en).2 m e)) i).1 v
        obtain ⟨m2, e2, i2⟩ := join_right (a := (bothE en l).1) i'
        exact ⟨m2, by simp only [bothE, e, e']; exact e2, i2⟩
    · intro v
      rw [hv] at v
      split at v
      · lia
      · rename_i q
        obtain ⟨m, e, i⟩ := k2 ((cond_val (h := h) l g.1).resolve_right q)
        obtain ⟨m', e', i'⟩ := (both_in r m g.2 (hs.of' ((both_within l en).2 m e)) i).2 v
        exact ⟨m', by simp only [bothE, e]; exact e', i'⟩
theorem unrEndW1 {h₀ h' : Heap} {L I : Addr} {o : Obj} {R : (Str → Option Value) → Led → Prop} {s₁ : Shared} {tk : Nat} {m' : Str → Option Value} {rest : Led} (F : Fr h₀ L h' m') (N : News h₀ L h' ((I, o) :: rest)) (off : ∀ p ∈ rest, p.1 ≠ I) (r : R m' rest) :
    UnrEndW h₀ L s₁ [(I, o)] R { s₁ with heap := h', toks := tk } := ⟨h', tk, m', rest, rfl, F, N, fun p hp q hq => by rw [List.mem_singleton.mp hq]; exact off p hp, r⟩
section
variable {w : World} {f : Addr} {vs : List Value} {news : Led} {need : Nat} {loose : List Str} {mean : ExcName → Option Value} {mg mb : Str → Option Value} {dp un : Nat} {gd : Option (List Code)} {cn : Str} {cs : Scope} {a : Addr} {ccd : Value} {cl : List (Str × Addr)} {outer : List Env} {A₀ : Around} {base h₀ : Heap} {L : Addr} {m : Str → Option Value} {s : Shared} {Q E : Value → Shared → Prop}
theorem use_oenv {x : Option En} (C : Gives w f vs news need (pOEnv w x)) (B : Below A₀ base outer h₀) (F : Fr h₀ L s.heap m) (X : (hd.heap_39 w.params).In h₀) (N : News h₀ L s.heap news) (T : Top hd.view_39 loose mean mg mb h₀) (hk : cs.kind = .function) (hd : dp + need < recursionLimit) (hu : un + 8 * need < cLine) (ret : ∀ (r : Value) (o : Option En) tl h' tk', Fr h₀ L h' m → News h₀ L h' (news ++ tl) → (∀ q ∈ news, ∀ p ∈ tl, q.1 < p.1) → x = o → OEnvAt w (news ++ tl) r o → Q r { s with heap := h', toks := tk' }) : wpAny (model PG w) (ktrTop dp un gd cn cs L a ccd cl outer) (call (.ref f) vs) Q E s := gives_use C B F X N T hk hd hu fun r tl h' tk' F' N' ho hp => by
  obtain ⟨o, e, hp⟩ := hp
  exact ret _ _ _ _ _ F' N' ho e hp
end
theorem ivAt_skipI {I : Addr} {o : Obj} {l : Led} {v : Value} {a b : Int} (h : IvAt ((I, o) :: l) v a b) (c : o.cls = .type "dict_keyiterator") : IvAt l v a b := by
  cases h with | mk h =>
  rcases List.mem_cons.mp h with e | h
  · cases e
    injection c with c
    exact absurd c (by decide)
  · exact .mk h
theorem ivAt_skipD {w : World} {d : Addr} {o : Obj} {l : Led} {v : Value} {a b : Int} {kvs : List (Int × Value)} (h : IvAt ((d, o) :: l) v a b) (k : o.IsDictOf (intKind PG w) kvs) : IvAt l v a b := by
  cases h with | mk h =>
  rcases List.mem_cons.mp h with e | h
  · cases e
    obtain ⟨es, ep, _, hd, _⟩ := k
    cases hd
  · exact .mk h
theorem iv_found {w : World} {I d : Addr} {o1 o2 : Obj} {news tl l' : Led} {v : Value} {a b : Int} {kvs : List (Int × Value)} (h : IvAt ((I, o1) :: (d, o2) :: news ++ tl) v a b) (c : o1.cls = .type "dict_keyiterator") (k : o2.IsDictOf (intKind PG w) kvs) (hs : ∀ p ∈ news ++ tl, p ∈ l') : IvAt l' v a b := (ivAt_skipD (ivAt_skipI h c) k).mono hs
theorem join_eq {a b c d a' b' c' d' p q r t : Int} (h : joinI a b a' b' = (p, q)) (k : joinI c d c' d' = (r, t)) : joinE (some ⟨a, b, c, d⟩) (some ⟨a', b', c', d'⟩) = some ⟨p, q, r, t⟩ := by simp only [joinE, h, k]
theorem join_envs_gives {w : World} {va vb : Value} {oa ob : Option En} {news : Led} (ha : OEnvAt w news va oa) (hb : OEnvAt w news vb ob) : Gives w 197 [va, vb] news 2 (pOEnv w (joinE oa ob)) := by
  unfold Gives
  intro loose mean mg mb dp un gd cn cs aa ccd cl outer A₀ base h₀ L m s Q E B F X N T hk hd hu hret
  cases ha with
  | none =>
    refine wpAny_call ?_
    k_dflt ktr_enter
    row_timed "" (first | (guard_target = wpAny _ _ (exec (Stmt.For (Expr.Name ..) (Expr.Name ..) ..) _) _ _ _; (k_here; k_dflt (refine' For_turns ?F ?_; (case F => k_asm); k_whole))) | (guard_target = wpAny _ _ (subscriptTail (Expr.Name ..) (Expr.Name ..) (Value.ref _) (Value.int _ _)) _ _ _; k_caughtB) | (guard_target = wpAny _ _ (eval (Expr.Dict [] [] _) _) _ _ _; (k_here; k_dflt (refine' newDict_K ?k1 ?k2 (TopRead.nolimit (by k_asm)) ?_; (case k1 => k_asm); (case k2 => k_asm); k_whole); intro d'z h'z o'z F'z N'z l1z lo'z hs'z fs'z hi'z fi'z; (have l2z := fun p hp => Nat.ne_of_lt (l1z p hp)); (try k_lt l1z))) | (guard_target = wpAny _ _ (setItem (Value.ref _) (Value.int _ _) _) _ _ _; (k_here; k_dflt (refine kda_set (knd := PySem.intKind _ _) (by k_asm) (by k_asm) (by k_updF) (by with_reducible assumption) (intKind_is _ _ _ _) (by kob_size) ?_); intro h'z o'z F'z N'z hd'z; (try kob_lit); (try dsimp only at N'z))) | (guard_target = wpAny _ _ (pyIter (Value.ref _)) _ _ _; ((with_reducible show wpAny _ _ (pyIter (Value.ref _)) (fun it s₂ => TurnsAt _ _ _ _ _ _ _ _ _ it s₂) _ _); k_dflt (refine' kta_keys (knd := PySem.intKind _ _) (enc := PyData.int) (xs := [Itm.tok fun t => Value.int 0 t, Itm.tok fun t => Value.int 1 t]) ?hh ?F ?N ?m ?d ?l ?k ?x ?_; (case hh => rfl); (case F => k_asm); (case N => k_asm); (case m => kct_strs); (case d => with_reducible assumption); (case l => with_reducible assumption); (case k => exact fun _ _ h => Value.isInt_shape h); (case x => rfl); intro i'z l1z; (have l2z := fun p hp => Nat.ne_of_lt (l1z p hp)); (try k_lt l1z)))) | (guard_target = wpAny _ _ (call (Value.ref _) _) _ _ _; (k_here; k_dflt (ktf_call (use_iv (join_gives ?_ ?_))))) | (guard_target = ItemsRest ..; (k_dflt (first | (refine ItemsRest.tok (fun t'z h'z tk'z F'z => ?_); refine AllObj.cons (fun o'z c'z => AllObj.nil (fun N'z => ?_)); (try simp only [List.cons_append, List.nil_append] at N'z); (try dsimp only)) | (refine ItemsRest.zero (fun h'z tk'z F'z N'z => ?_))))) | (guard_target = UnrEndW ..; (k_dflt (refine' unrEndW1 (by k_asm) (by k_asm) ?a ⟨⟨?b, trivial⟩, ?_⟩; (case a => k_all); (case b => kct_strs)))))
    all_goals refine hret _ _ _ _ (by assumption) (by assumption) (by kp_flats) (by kat_tups) ?_
    all_goals exact ⟨_, rfl, hb⟩
  | some ha =>
    cases hb with
    | none =>
      refine wpAny_call ?_
      k_dflt ktr_enter
      row_timed "" (first | (guard_target = wpAny _ _ (exec (Stmt.For (Expr.Name ..) (Expr.Name ..) ..) _) _ _ _; (k_here; k_dflt (refine' For_turns ?F ?_; (case F => k_asm); k_whole))) | (guard_target = wpAny _ _ (subscriptTail (Expr.Name ..) (Expr.Name ..) (Value.ref _) (Value.int _ _)) _ _ _; k_caughtB) | (guard_target = wpAny _ _ (eval (Expr.Dict [] [] _) _) _ _ _; (k_here; k_dflt (refine' newDict_K ?k1 ?k2 (TopRead.nolimit (by k_asm)) ?_; (case k1 => k_asm); (case k2 => k_asm); k_whole); intro d'z h'z o'z F'z N'z l1z lo'z hs'z fs'z hi'z fi'z; (have l2z := fun p hp => Nat.ne_of_lt (l1z p hp)); (try k_lt l1z))) | (guard_target = wpAny _ _ (setItem (Value.ref _) (Value.int _ _) _) _ _ _; (k_here; k_dflt (refine kda_set (knd := PySem.intKind _ _) (by k_asm) (by k_asm) (by k_updF) (by with_reducible assumption) (intKind_is _ _ _ _) (by kob_size) ?_); intro h'z o'z F'z N'z hd'z; (try kob_lit); (try dsimp only at N'z))) | (guard_target = wpAny _ _ (pyIter (Value.ref _)) _ _ _; ((with_reducible show wpAny _ _ (pyIter (Value.ref _)) (fun it s₂ => TurnsAt _ _ _ _ _ _ _ _ _ it s₂) _ _); k_dflt (refine' kta_keys (knd := PySem.intKind _ _) (enc := PyData.int) (xs := [Itm.tok fun t => Value.int 0 t, Itm.tok fun t => Value.int 1 t]) ?hh ?F ?N ?m ?d ?l ?k ?x ?_; (case hh => rfl); (case F => k_asm); (case N => k_asm); (case m => kct_strs); (case d => with_reducible assumption); (case l => with_reducible assumption); (case k => exact fun _ _ h => Value.isInt_shape h); (case x => rfl); intro i'z l1z; (have l2z := fun p hp => Nat.ne_of_lt (l1z p hp)); (try k_lt l1z)))) | (guard_target = wpAny _ _ (call (Value.ref _) _) _ _ _; (k_here; k_dflt (ktf_call (use_iv (join_gives ?_ ?_))))) | (guard_target = ItemsRest ..; (k_dflt (first | (refine ItemsRest.tok (fun t'z h'z tk'z F'z => ?_); refine AllObj.cons (fun o'z c'z => AllObj.nil (fun N'z => ?_)); (try simp only [List.cons_append, List.nil_append] at N'z); (try dsimp only)) | (refine ItemsRest.zero (fun h'z tk'z F'z N'z => ?_))))) | (guard_target = UnrEndW ..; (k_dflt (refine' unrEndW1 (by k_asm) (by k_asm) ?a ⟨⟨?b, trivial⟩, ?_⟩; (case a => k_all); (case b => kct_strs)))))
      all_goals refine hret _ _ _ _ (by assumption) (by assumption) (by kp_flats) (by kat_tups) ?_
      all_goals exact ⟨_, rfl, .some ha⟩
    | some hb =>
      cases ha
      cases hb
      refine wpAny_call ?_
      k_dflt ktr_enter
      row_timed "" (first | (guard_target = wpAny _ _ (exec (Stmt.For (Expr.Name ..) (Expr.Name ..) ..) _) _ _ _; (k_here; k_dflt (refine' For_turns ?F ?_; (case F => k_asm); k_whole))) | (guard_target = wpAny _ _ (subscriptTail (Expr.Name ..) (Expr.Name ..) (Value.ref _) (Value.int _ _)) _ _ _; k_caughtB) | (guard_target = wpAny _ _ (eval (Expr.Dict [] [] _) _) _ _ _; (k_here; k_dflt (refine' newDict_K ?k1 ?k2 (TopRead.nolimit (by k_asm)) ?_; (case k1 => k_asm); (case k2 => k_asm); k_whole); intro d'z h'z o'z F'z N'z l1z lo'z hs'z fs'z hi'z fi'z; (have l2z := fun p hp => Nat.ne_of_lt (l1z p hp)); (try k_lt l1z))) | (guard_target = wpAny _ _ (setItem (Value.ref _) (Value.int _ _) _) _ _ _; (k_here; k_dflt (refine kda_set (knd := PySem.intKind _ _) (by k_asm) (by k_asm) (by k_updF) (by with_reducible assumption) (intKind_is _ _ _ _) (by kob_size) ?_); intro h'z o'z F'z N'z hd'z; (try kob_lit); (try dsimp only at N'z))) | (guard_target = wpAny _ _ (pyIter (Value.ref _)) _ _ _; ((with_reducible show wpAny _ _ (pyIter (Value.ref _)) (fun it s₂ => TurnsAt _ _ _ _ _ _ _ _ _ it s₂) _ _); k_dflt (refine' kta_keys (knd := PySem.intKind _ _) (enc := PyData.int) (xs := [Itm.tok fun t => Value.int 0 t, Itm.tok fun t => Value.int 1 t]) ?hh ?F ?N ?m ?d ?l ?k ?x ?_; (case hh => rfl); (case F => k_asm); (case N => k_asm); (case m => kct_strs); (case d => with_reducible assumption); (case l => with_reducible assumption); (case k => exact fun _ _ h => Value.isInt_shape h); (case x => rfl); intro i'z l1z; (have l2z := fun p hp => Nat.ne_of_lt (l1z p hp)); (try k_lt l1z)))) | (guard_target = wpAny _ _ (call (Value.ref _) _) _ _ _; (k_here; k_dflt (ktf_call (use_iv (join_gives ?_ ?_))))) | (guard_target = ItemsRest ..; (k_dflt (first | (refine ItemsRest.tok (fun t'z h'z tk'z F'z => ?_); refine AllObj.cons (fun o'z c'z => AllObj.nil (fun N'z => ?_)); (try simp only [List.cons_append, List.nil_append] at N'z); (try dsimp only)) | (refine ItemsRest.zero (fun h'z tk'z F'z N'z => ?_))))) | (guard_target = UnrEndW ..; (k_dflt (refine' unrEndW1 (by k_asm) (by k_asm) ?a ⟨⟨?b, trivial⟩, ?_⟩; (case a => k_all); (case b => kct_strs)))))
      refine hret _ _ _ _ (by assumption) (by assumption) (by kp_flats) (by kat_tups) ?_
      refine ⟨_, join_eq (by assumption) (by assumption), .some (EnvAt.mk (by kct_strs) (by assumption) (by assumption) ?_ ?_)⟩
      all_goals
        first
        | exact iv_found (I := _) (news := news) (by assumption) (by assumption) (by assumption) (by kp_flats)
        | exact iv_found (I := _) (news := news ++ _) (by assumption) (by assumption) (by assumption) (by kp_flats)
noncomputable def pPair (w : World) (x : Option En × Option En) : Pst where
  P := fun l v => ∃ (p : Addr) (a b : Value) (n : Nat), v = .ref p ∧ (p, tupObj [a, b] n) ∈ l ∧ OEnvAt w l a x.1 ∧ OEnvAt w l b x.2
  mono := fun h hs => by
    obtain ⟨p, a, b, n, e, k, i, j⟩ := h
    exact ⟨p, a, b, n, e, hs _ k, i.mono hs, j.mono hs⟩
theorem exPair {w : World} {l : Led} {p : Addr} {va vb : Value} {n : Nat} {oa ob : Option En} {x : Option En × Option En} (k : (p, tupObj [va, vb] n) ∈ l) (ra : OEnvAt w l va oa) (rb : OEnvAt w l vb ob) (e : x = (oa, ob)) : (pPair w x).P l (.ref p) := by
  subst e
  exact ⟨p, va, vb, n, rfl, k, ra, rb⟩
section
variable {w : World} {f : Addr} {vs : List Value} {news : Led} {need : Nat} {loose : List Str} {mean : ExcName → Option Value} {mg mb : Str → Option Value} {dp un : Nat} {gd : Option (List Code)} {cn : Str} {cs : Scope} {a : Addr} {ccd : Value} {cl : List (Str × Addr)} {outer : List Env} {A₀ : Around} {base h₀ : Heap} {L : Addr} {m : Str → Option Value} {s : Shared} {Q E : Value → Shared → Prop}
theorem use_pair {x : Option En × Option En} (C : Gives w f vs news need (pPair w x)) (B : Below A₀ base outer h₀) (F : Fr h₀ L s.heap m) (X : (hd.heap_39 w.params).In h₀) (N : News h₀ L s.heap news) (T : Top hd.view_39 loose mean mg mb h₀) (hk : cs.kind = .function) (hd : dp + need < recursionLimit) (hu : un + 8 * need < cLine)
    (ret : ∀ (p : Addr) (va vb : Value) (n : Nat) (oa ob : Option En) tl h' tk', Fr h₀ L h' m → News h₀ L h' (news ++ tl) → (∀ q ∈ news, ∀ p ∈ tl, q.1 < p.1) → (p, tupObj [va, vb] n) ∈ news ++ tl → x = (oa, ob) → OEnvAt w (news ++ tl) va oa → OEnvAt w (news ++ tl) vb ob → Q (.ref p) { s with heap := h', toks := tk' }) : wpAny (model PG w) (ktrTop dp un gd cn cs L a ccd cl outer) (call (.ref f) vs) Q E s := gives_use C B F X N T hk hd hu fun r tl h' tk' F' N' ho hp => by
  obtain ⟨p, va, vb, n, e, k, i, j⟩ := hp
  subst e
  exact ret _ _ _ _ _ _ _ _ _ F' N' ho k rfl i j
theorem use_pairS {x : Option En × Option En} (C : Gives w f vs news need (pPair w x)) (B : Below A₀ base outer h₀) (F : Fr h₀ L s.heap m) (X : (hd.heap_39 w.params).In h₀) (N : News h₀ L s.heap news) (T : Top hd.view_39 loose mean mg mb h₀) (hk : cs.kind = .function) (hd : dp + need < recursionLimit) (hu : un + 8 * need < cLine)
    (ret : (∀ (p : Addr) (n : Nat) tl h' tk', Fr h₀ L h' m → News h₀ L h' (news ++ tl) → (∀ q ∈ news, ∀ p ∈ tl, q.1 < p.1) → (p, tupObj [.none, .none] n) ∈ news ++ tl → x = (none, none) → Q (.ref p) { s with heap := h', toks := tk' }) ∧
      (∀ (p u : Addr) (n : Nat) (eu : En) tl h' tk', Fr h₀ L h' m → News h₀ L h' (news ++ tl) → (∀ q ∈ news, ∀ p ∈ tl, q.1 < p.1) → (p, tupObj [.ref u, .none] n) ∈ news ++ tl → x = (some eu, none) → EnvAt w (news ++ tl) u eu → Q (.ref p) { s with heap := h', toks := tk' }) ∧
      (∀ (p v : Addr) (n : Nat) (ev : En) tl h' tk', Fr h₀ L h' m → News h₀ L h' (news ++ tl) → (∀ q ∈ news, ∀ p ∈ tl, q.1 < p.1) → (p, tupObj [.none, .ref v] n) ∈ news ++ tl → x = (none, some ev) → EnvAt w (news ++ tl) v ev → Q (.ref p) { s with heap := h', toks := tk' }) ∧
      (∀ (p u v : Addr) (n : Nat) (eu ev : En) tl h' tk', Fr h₀ L h' m → News h₀ L h' (news ++ tl) → (∀ q ∈ news, ∀ p ∈ tl, q.1 < p.1) → (p, tupObj [.ref u, .ref v] n) ∈ news ++ tl → x = (some eu, some ev) → EnvAt w (news ++ tl) u eu → EnvAt w (news ++ tl) v ev → Q (.ref p) { s with heap := h', toks := tk' })) :
    wpAny (model PG w) (ktrTop dp un gd cn cs L a ccd cl outer) (call (.ref f) vs) Q E s := use_pair C B F X N T hk hd hu fun p va vb n oa ob tl h' tk' F' N' ho k e i j => by
  cases i with
  | none => cases j with
    | none => exact ret.1 _ _ _ _ _ F' N' ho k e
    | some j => exact ret.2.2.1 _ _ _ _ _ _ _ F' N' ho k e j
  | some i => cases j with
    | none => exact ret.2.1 _ _ _ _ _ _ _ F' N' ho k e i
    | some j => exact ret.2.2.2 _ _ _ _ _ _ _ _ _ F' N' ho k e i j
end
noncomputable def BothOk (w : World) (e : Ex) : Prop := ∀ (news : Led) (st env v : Addr) (en : En), ExAt news v e → EnvAt w news env en → StAt w news st true → Gives w 300 [.ref st, .ref env, .ref v] news (e.need + 12) (pPair w (bothE en e))
inductive IsL (e : Ex) : Prop
  | mk : IsL e
theorem both_call {w : World} {e : Ex} {news : Led} {st env v : Addr} {en : En} (x : ExAt news v e) (i : BothOk w e) (y : EnvAt w news env en) (z : StAt w news st true) : Gives w 300 [.ref st, .ref env, .ref v] news (e.need + 12) (pPair w (bothE en e)) := i _ _ _ _ _ x y z
theorem both_callL {w : World} {e : Ex} {news : Led} {st env v : Addr} {en : En} (x : ExAt news v e) (_ : IsL e) (i : BothOk w e) (y : EnvAt w news env en) (z : StAt w news st true) : Gives w 300 [.ref st, .ref env, .ref v] news (e.need + 12) (pPair w (bothE en e)) := i _ _ _ _ _ x y z
local macro_rules | `(tactic| ktr_rel) => `(tactic| first
  | with_reducible exact OEnvAt.none
  | (with_reducible refine' OEnvAt.some ?q; (case q => ktr_rel))
  | (with_reducible refine' OEnvAt.mono ?h ?s; (case h => with_reducible assumption); (case s => kp_flats)))
section
variable {en m : En} {l r : Ex} {o : Rel} {oa ob ia ib x y : Option En} {a b c d : Int}
theorem both_nt_eq (h : bothE en l = (oa, ob)) : bothE en (.nt l) = (ob, oa) := by simp only [bothE, h]
theorem both_rel_eq (h1 : sideV en l = (a, b)) (h2 : sideV en r = (c, d)) (h3 : assumeE en o l r (a, b) (c, d) = x) (h4 : assumeE en o.opp l r (a, b) (c, d) = y) : bothE en (.rel o l r) = (x, y) := by simp only [bothE, h1, h2, h3, h4]
theorem both_land_1 (h : bothE en l = (none, ob)) (j : joinE ob none = x) : bothE en (.land l r) = (none, x) := by simp only [bothE, h, j]
theorem both_land_2 (h : bothE en l = (some m, ob)) (i : bothE m r = (ia, ib)) (j : joinE ob ib = x) : bothE en (.land l r) = (ia, x) := by simp only [bothE, h, i, j]
theorem both_lor_1 (h : bothE en l = (oa, none)) (j : joinE oa none = x) : bothE en (.lor l r) = (x, none) := by simp only [bothE, h, j]
theorem both_lor_2 (h : bothE en l = (oa, some m)) (i : bothE m r = (ia, ib)) (j : joinE oa ia = x) : bothE en (.lor l r) = (x, ib) := by simp only [bothE, h, i, j]
end
theorem both_nt {w : World} {e : Ex} (he : BothOk w e) : BothOk w (.nt e) := by
  intro news st env v en hx hy hz
  unfold Gives
  intro loose mean mg mb dp un gd cn cs aa ccd cl outer A₀ base h₀ L m s Q E B F X N T hk hd hu hret
  cases hx with | nt hn ht ha =>
  simp only [Ex.need] at hd hu
  obtain ⟨hd9, hu9, rm1, rm2⟩ := needs1z 1 12 3 hd hu rfl rfl
  clear hd hu
  cases hn
  refine wpAny_call ?_
  k_dflt ktr_enter
  row_timed "" (first | (guard_target = wpAny _ _ (subscriptTail (Expr.Attribute ..) (Expr.Constant ..) (Value.ref _) (Value.int _ _)) _ _ _; k_caughtB) | (guard_target = wpAny _ _ (call (Value.ref _) _) _ _ _; (k_here; k_dflt (first | ktf_call (use_pairS (both_callL ?_ ?_ ?_ ?_ ?_)) | ktf_call (use_pair (both_call ?_ ?_ ?_ ?_)) | ktf_call (use_oenv (join_envs_gives ?_ ?_)) | ktf_call (use_oenv (assume_call ?_ ?_ ?_ ?_ ?_ ?_ ?_))))))
  all_goals refine hret _ _ _ _ (by assumption) (by assumption) (by kp_flats) (by kat_tups) ?_
  all_goals exact exPair (by kct_strs) (by ktr_rel) (by ktr_rel) (both_nt_eq (by assumption))
theorem both_land {w : World} {l r : Ex} (hl : BothOk w l) (hr : BothOk w r) : BothOk w (.land l r) := by
  intro news st env v en hx hy hz
  unfold Gives
  intro loose mean mg mb dp un gd cn cs aa ccd cl outer A₀ base h₀ L m s Q E B F X N T hk hd hu hret
  cases hx with | land hn ht ha hb =>
  simp only [Ex.need] at hd hu
  obtain ⟨hd9, hu9, rm1, rm2, rm3, rm4⟩ := needs2z 1 12 3 hd hu rfl rfl
  clear hd hu
  cases hn
  have tl : IsL l := .mk
  refine wpAny_call ?_
  k_dflt ktr_enter
  row_timed "" (first | (guard_target = wpAny _ _ (subscriptTail (Expr.Attribute ..) (Expr.Constant ..) (Value.ref _) (Value.int _ _)) _ _ _; k_caughtB) | (guard_target = wpAny _ _ (subscriptTail (Expr.Name ..) (Expr.Constant ..) (Value.ref _) (Value.int _ _)) _ _ _; k_caughtB) | (guard_target = wpAny _ _ (call (Value.ref _) _) _ _ _; (k_here; k_dflt (first | ktf_call (use_pairS (both_callL ?_ ?_ ?_ ?_ ?_)) | ktf_call (use_pair (both_call ?_ ?_ ?_ ?_)) | ktf_call (use_oenv (join_envs_gives ?_ ?_)) | ktf_call (use_oenv (assume_call ?_ ?_ ?_ ?_ ?_ ?_ ?_))))))
  all_goals refine hret _ _ _ _ (by assumption) (by assumption) (by kp_flats) (by kat_tups) ?_
  all_goals refine exPair (by kct_strs) (by ktr_rel) (by ktr_rel) ?_
  all_goals first | exact both_land_1 (by assumption) (by assumption) | exact both_land_2 (by assumption) (by assumption) (by assumption)
theorem both_lor {w : World} {l r : Ex} (hl : BothOk w l) (hr : BothOk w r) : BothOk w (.lor l r) := by
  intro news st env v en hx hy hz
  unfold Gives
  intro loose mean mg mb dp un gd cn cs aa ccd cl outer A₀ base h₀ L m s Q E B F X N T hk hd hu hret
  cases hx with | lor hn ht ha hb =>
  simp only [Ex.need] at hd hu
  obtain ⟨hd9, hu9, rm1, rm2, rm3, rm4⟩ := needs2z 1 12 3 hd hu rfl rfl
  clear hd hu
  cases hn
  have tl : IsL l := .mk
  refine wpAny_call ?_
  k_dflt ktr_enter
  row_timed "" (first | (guard_target = wpAny _ _ (subscriptTail (Expr.Attribute ..) (Expr.Constant ..) (Value.ref _) (Value.int _ _)) _ _ _; k_caughtB) | (guard_target = wpAny _ _ (subscriptTail (Expr.Name ..) (Expr.Constant ..) (Value.ref _) (Value.int _ _)) _ _ _; k_caughtB) | (guard_target = wpAny _ _ (call (Value.ref _) _) _ _ _; (k_here; k_dflt (first | ktf_call (use_pairS (both_callL ?_ ?_ ?_ ?_ ?_)) | ktf_call (use_pair (both_call ?_ ?_ ?_ ?_)) | ktf_call (use_oenv (join_envs_gives ?_ ?_)) | ktf_call (use_oenv (assume_call ?_ ?_ ?_ ?_ ?_ ?_ ?_))))))
  all_goals refine hret _ _ _ _ (by assumption) (by assumption) (by kp_flats) (by kat_tups) ?_
  all_goals refine exPair (by kct_strs) (by ktr_rel) (by ktr_rel) ?_
  all_goals first | exact both_lor_1 (by assumption) (by assumption) | exact both_lor_2 (by assumption) (by assumption) (by assumption)
theorem txt_both (o : Rel) : (o.txt == Str.ofString "const") = false ∧ (o.txt == Str.ofString "not") = false ∧ ([Str.ofString "=", Str.ofString "#", Str.ofString "<", Str.ofString "<=", Str.ofString ">", Str.ofString ">="].any fun x => x == o.txt) = true := by
  cases o <;> decide
theorem both_rel {w : World} {o : Rel} {l r : Ex} (hl : l.isSide = true) (hr : r.isSide = true) (zl : l.subs.length ≤ 100000) (zr : r.subs.length ≤ 100000) : BothOk w (.rel o l r) := by
  intro news st env v en hx hy hz
  unfold Gives
  intro loose mean mg mb dp un gd cn cs aa ccd cl outer A₀ base h₀ L m s Q E B F X N T hk hd hu hret
  have hx' := hx
  cases hx with | rel hn ht ha hb =>
  simp only [Ex.need] at hd hu
  obtain ⟨hd9, hu9, rm1, rm2, rm3, rm4⟩ := needs2z 1 6 3 hd hu rfl rfl
  clear hd hu
  cases hn
  obtain ⟨n1, n2, n3⟩ := txt_both o
  refine wpAny_call ?_
  k_dflt ktr_enter
  row_timed "" (first | (guard_target = wpAny _ _ (subscriptTail (Expr.Attribute ..) (Expr.Constant ..) (Value.ref _) (Value.int _ _)) _ _ _; k_caughtB) | (guard_target = wpAny _ _ (call (Value.ref _) _) _ _ _; (first | (k_here; k_dflt (first | ktf_call (use_pairS (both_callL ?_ ?_ ?_ ?_ ?_)) | ktf_call (use_pair (both_call ?_ ?_ ?_ ?_)) | ktf_call (use_oenv (join_envs_gives ?_ ?_)) | ktf_call (use_oenv (assume_call ?_ ?_ ?_ ?_ ?_ ?_ ?_)))) | (k_here; k_dflt (first | ktf_call (use_slot (followed_any ?_ ?_ ?_)) | ktf_call (use_iv (side_call ?_ ?_ ?_ ?_ ?_)))))) | (first | (with_reducible refine' ite_false_of ?h ?_; (case h => with_reducible assumption)) | (with_reducible refine' ite_true_of ?h ?_; (case h => with_reducible assumption))))
  refine hret _ _ _ _ (by assumption) (by assumption) (by kp_flats) (by kat_tups) ?_
  refine exPair (by kct_strs) (by ktr_rel) (by ktr_rel) ?_
  exact both_rel_eq (by assumption) (by assumption) (by assumption) (by assumption)
noncomputable def Ex.okB : Ex → Prop
  | .rel _ l r => l.isSide = true ∧ r.isSide = true ∧ l.subs.length ≤ 100000 ∧ r.subs.length ≤ 100000
  | .nt e => e.okB
  | .land l r => l.okB ∧ r.okB
  | .lor l r => l.okB ∧ r.okB
  | _ => False
theorem both_all {w : World} : ∀ e : Ex, e.okB → BothOk w e
  | .rel _ _ _, h => both_rel h.1 h.2.1 h.2.2.1 h.2.2.2
  | .nt e, h => both_nt (both_all e h)
  | .land l r, h => both_land (both_all l h.1) (both_all r h.2)
  | .lor l r, h => both_lor (both_all l h.1) (both_all r h.2)
  | .con _, h => h.elim
  | .var _, h => h.elim
  | .plus _ _, h => h.elim
  | .ord _, h => h.elim
noncomputable def heldE (en : En) (e : Ex) (t : Bool) : Option En := if t = true then (bothE en e).1 else (bothE en e).2
theorem heldE_t {en : En} {e : Ex} {oa ob : Option En} (h : bothE en e = (oa, ob)) : heldE en e true = oa := by rw [heldE, if_pos rfl, h]
theorem heldE_f {en : En} {e : Ex} {oa ob : Option En} (h : bothE en e = (oa, ob)) : heldE en e false = ob := by rw [heldE, if_neg Bool.false_ne_true, h]
theorem assumes_gives {w : World} {e : Ex} {news : Led} {st env v : Addr} {en : En} {t : Bool} (ok : e.okB) (hx : ExAt news v e) (hy : EnvAt w news env en) (hz : StAt w news st true) : Gives w 307 [.ref st, .ref env, .ref v, .bool t] news (e.need + 13) (pOEnv w (heldE en e t)) := by
  have hboth := both_all (w := w) e ok
  unfold Gives
  intro loose mean mg mb dp un gd cn cs aa ccd cl outer A₀ base h₀ L m s Q E B F X N T hk hd hu hret
  obtain ⟨hd9, hu9, rm1, rm2⟩ := needs1y 1 12 3 hd hu rfl rfl
  clear hd hu
  cases t
  all_goals
    refine wpAny_call ?_
    k_dflt ktr_enter
    row_timed "" (first | (guard_target = wpAny _ _ (call (Value.ref _) _) _ _ _; (k_here; k_dflt (first | ktf_call (use_pairS (both_callL ?_ ?_ ?_ ?_ ?_)) | ktf_call (use_pair (both_call ?_ ?_ ?_ ?_)) | ktf_call (use_oenv (join_envs_gives ?_ ?_)) | ktf_call (use_oenv (assume_call ?_ ?_ ?_ ?_ ?_ ?_ ?_))))))
  all_goals refine hret _ _ _ _ (by assumption) (by assumption) (by kp_flats) (by kat_tups) ?_
  · exact ⟨_, heldE_f (by assumption), by assumption⟩
  · exact ⟨_, heldE_t (by assumption), by assumption⟩
/-- a call that makes a node -/
noncomputable def pNode (op : Str) (ty : Addr) (kids : List Value) (value : Value) : Pst := ⟨fun l v => ∃ x, v = .ref x ∧ NodeAt l x op ty kids value, fun ⟨x, e, h⟩ hs => ⟨x, e, h.mono hs⟩⟩
theorem node_gives {w : World} {op : Str} {t u : Tok} {pl : Int} {ty k : Addr} {kids : List Value} {kn : Nat} {value : Value} {news : Led} (hk0 : (k, listOf kids.toArray kn) ∈ news) (hm : Mut (listOf kids.toArray kn) = false) :
    Gives w 158 [.str op t, .int pl u, .ref ty, .ref k, value] news 2 (pNode op ty kids value) := by
  unfold Gives
  intro loose mean mg mb dp un gd cn cs aa ccd cl outer A₀ base h₀ L m s Q E B F X N T hk hd hu hret
  k_dflt (refine' call_cls ?k1 ?k2 ?k3 ?k4 ?k5 ?k6 ?_; (case k1 => k_asm); (case k2 => k_asm); (case k3 => k_asm); (case k4 => k_is); (case k5 => k_is); (case k6 => k_is); k_whole)
  intro x' d' h' F' N' l1 l2
  have l3 := fun p hp => Nat.ne_of_lt (l1 p hp)
  have l4 := ltN l2
  have l5 : ∀ q ∈ news, q.1 < x' := fun p hp => Nat.lt_trans (l1 p hp) l2
  k_dflt k_caughtN0
  k_caught0
  all_goals refine hret _ _ _ _ (by assumption) (by assumption) (by kp_flats) (by kat_tups) ?_
  all_goals exact ⟨_, rfl, NodeAt.mk (t := t) (by kct_strs) (by kct_strs) (by kct_strs) (by kernel_rfl) (by kernel_rfl) (by kernel_rfl) (by kernel_rfl) (by kernel_rfl) (by kernel_rfl) hm⟩
theorem node_gives4 {w : World} {op : Str} {t u : Tok} {pl : Int} {ty k : Addr} {kids : List Value} {kn : Nat} {news : Led} (hk0 : (k, listOf kids.toArray kn) ∈ news) (hm : Mut (listOf kids.toArray kn) = false) :
    Gives w 158 [.str op t, .int pl u, .ref ty, .ref k] news 2 (pNode op ty kids .none) := by
  unfold Gives
  intro loose mean mg mb dp un gd cn cs aa ccd cl outer A₀ base h₀ L m s Q E B F X N T hk hd hu hret
  k_dflt (refine' call_cls ?k1 ?k2 ?k3 ?k4 ?k5 ?k6 ?_; (case k1 => k_asm); (case k2 => k_asm); (case k3 => k_asm); (case k4 => k_is); (case k5 => k_is); (case k6 => k_is); k_whole)
  intro x' d' h' F' N' l1 l2
  have l3 := fun p hp => Nat.ne_of_lt (l1 p hp)
  have l4 := ltN l2
  have l5 : ∀ q ∈ news, q.1 < x' := fun p hp => Nat.lt_trans (l1 p hp) l2
  k_dflt k_caughtN0
  k_caught0
  all_goals refine hret _ _ _ _ (by assumption) (by assumption) (by kp_flats) (by kat_tups) ?_
  all_goals exact ⟨_, rfl, NodeAt.mk (t := t) (by kct_strs) (by kct_strs) (by kct_strs) (by kernel_rfl) (by kernel_rfl) (by kernel_rfl) (by kernel_rfl) (by kernel_rfl) (by kernel_rfl) hm⟩
/-- one entry ahead of the rest -/
inductive FocusL (d : Addr) (o : Obj) : Led → Led → Prop
  | head {r : Led} : FocusL d o ((d, o) :: r) r
  | tail {x : Addr × Obj} {l r : Led} : FocusL d o l r → FocusL d o (x :: l) (x :: r)
theorem FocusL.sub {d : Addr} {o : Obj} {l r : Led} (f : FocusL d o l r) : ∀ p ∈ (d, o) :: r, p ∈ l := by
  induction f with
  | head => exact fun _ h => h
  | tail _ ih =>
    intro p hp
    rcases List.mem_cons.mp hp with rfl | hp
    · exact .tail _ (ih _ (.head _))
    · rcases List.mem_cons.mp hp with rfl | hp
      · exact .head _
      · exact .tail _ (ih _ (.tail _ hp))
/-- p stands behind d and all of rest, or within rest -/
noncomputable def NewInF (d : Addr) (rest l : Led) : Prop := ∀ p ∈ l, p ∈ rest ∨ (@LT.lt Nat _ d p.1 ∧ ∀ q ∈ rest, q.1 < p.1)
theorem newInF_refl {d : Addr} {rest : Led} : NewInF d rest rest := fun _ h => .inl h
theorem newInF_cons {d : Addr} {rest l : Led} {p : Addr × Obj} (h : @LT.lt Nat _ d p.1) (k : ∀ q ∈ rest, q.1 < p.1) (r : NewInF d rest l) : NewInF d rest (p :: l) := fun q hq => by
  rcases List.mem_cons.mp hq with rfl | hq
  · exact .inr ⟨h, k⟩
  · exact r q hq
theorem newInF_app {d : Addr} {rest l t : Led} (r : NewInF d rest l) (h : ∀ p ∈ t, @LT.lt Nat _ d p.1) (k : ∀ q ∈ rest, ∀ p ∈ t, q.1 < p.1) : NewInF d rest (l ++ t) := fun q hq => by
  rcases List.mem_append.mp hq with hq | hq
  · exact r q hq
  · exact .inr ⟨h q hq, fun p hp => k p hp q hq⟩
theorem ord_at {d : Addr} {o : Obj} {X t : Led} (h : ∀ q ∈ X, ∀ p ∈ t, q.1 < p.1) (hm : (d, o) ∈ X) : ∀ p ∈ t, @LT.lt Nat _ d p.1 := fun p hp => h _ hm p hp
theorem news_foc {d : Addr} {o : Obj} {l r : Led} {h₀ h : Heap} {L : Addr} (N : News h₀ L h l) (f : FocusL d o l r) : News h₀ L h ((d, o) :: r) := fun p hp => N p (f.sub p hp)
theorem allLt_mem {a : Addr} {l : Led} (h : AllLt a l) : ∀ q ∈ l, q.1 < a := ltAll_of h
local macro_rules | `(tactic| kts_caughtN) => `(tactic| first | with_reducible exact FocusL.head | (with_reducible refine' FocusL.tail ?f; (case f => kts_caughtN)) | exact FocusL.head)
theorem ordA_app {d : Addr} {t u : Led} (h : ∀ p ∈ t, @LT.lt Nat _ d p.1) (k : ∀ p ∈ u, @LT.lt Nat _ d p.1) : ∀ p ∈ t ++ u, @LT.lt Nat _ d p.1 := fun p hp => (List.mem_append.mp hp).elim (h p) (k p)
local macro_rules | `(tactic| kst_allIn) => `(tactic| first | with_reducible assumption | (with_reducible refine ordA_app ?_ ?_ <;> kst_allIn) | (with_reducible refine' ord_at ?h ?m; (case h => with_reducible assumption); (case m => kct_strs)))
local macro_rules | `(tactic| k_caughtNB) => `(tactic| first
  | with_reducible exact newInF_refl
  | (with_reducible refine newInF_cons ?_ ?_ ?_; (focus (first | (with_reducible refine' lt_at ?h ?m; (case h => with_reducible assumption); (case m => kct_strs)) | (dsimp only; omega))); (focus kba_ints); k_caughtNB)
  | (with_reducible refine newInF_app ?_ ?_ ?_; rotate_left; (focus kst_allIn); (focus kas_types); k_caughtNB))
/-- a call that turns the one object d, from o to one of O' -/
noncomputable def GivesF (w : World) (f : Addr) (vs : List Value) (d : Addr) (o : Obj) (O' : Obj → Prop) (rest : Led) (need : Nat) (Post : Pst) : Prop :=
  ∀ (loose : List Str) (mean : ExcName → Option Value) (mg mb : Str → Option Value)
    (dp un : Nat) (gd : Option (List Code)) (cn : Str) (cs : Scope) (a : Addr) (ccd : Value) (cl : List (Str × Addr)) (outer : List Env) (A₀ : Around) (base h₀ : Heap) (L : Addr) (m : Str → Option Value) (s : Shared)
    (Q E : Value → Shared → Prop),
    Below A₀ base outer h₀ → Fr h₀ L s.heap m → (hd.heap_39 w.params).In h₀ → News h₀ L s.heap ((d, o) :: rest) → (∀ p ∈ rest, p.1 ≠ d) → Top hd.view_39 loose mean mg mb h₀ → cs.kind = .function → dp + need < recursionLimit → un + 8 * need < cLine →
    (∀ r o' l h' tk', O' o' → Fr h₀ L h' m → News h₀ L h' ((d, o') :: l) → (∀ p ∈ rest, p ∈ l) → NewInF d rest l → Post.P l r → Q r { s with heap := h', toks := tk' }) →
    wpAny (model PG w) (ktrTop dp un gd cn cs L a ccd cl outer) (call (.ref f) vs) Q E s
section
variable {w : World} {f : Addr} {vs : List Value} {d : Addr} {o : Obj} {O' : Obj → Prop} {rest news : Led} {need : Nat} {Post : Pst} {loose : List Str} {mean : ExcName → Option Value} {mg mb : Str → Option Value} {dp un : Nat} {gd : Option (List Code)} {cn : Str} {cs : Scope} {a : Addr} {ccd : Value} {cl : List (Str × Addr)} {outer : List Env} {A₀ : Around} {base h₀ : Heap} {L : Addr} {m : Str → Option Value} {s : Shared} {Q E : Value → Shared → Prop}
theorem givesF_use (C : GivesF w f vs d o O' rest need Post) (B : Below A₀ base outer h₀) (F : Fr h₀ L s.heap m) (X : (hd.heap_39 w.params).In h₀) (N : News h₀ L s.heap news) (fo : FocusL d o news rest) (off : ∀ p ∈ rest, p.1 ≠ d) (T : Top hd.view_39 loose mean mg mb h₀) (hk : cs.kind = .function) (hd : dp + need < recursionLimit) (hu : un + 8 * need < cLine)
    (ret : ∀ r o' tl h' tk', O' o' → Fr h₀ L h' m → News h₀ L h' ((d, o') :: (rest ++ tl)) → (∀ q ∈ (d, o') :: rest, ∀ p ∈ tl, q.1 < p.1) → Post.P (rest ++ tl) r → Q r { s with heap := h', toks := tk' }) :
    wpAny (model PG w) (ktrTop dp un gd cn cs L a ccd cl outer) (call (.ref f) vs) Q E s := by
  refine C _ _ _ _ _ _ _ _ _ _ _ _ _ _ _ _ _ _ _ _ _ B F X (fun p hp => N p (fo.sub p hp)) off T hk hd hu fun r o' l h' tk' ho F' N' hs hn hp => ?_
  refine ret r o' (l.filter fun p => decide (@LT.lt Nat _ d p.1) && rest.all fun q => decide (@LT.lt Nat _ q.1 p.1)) h' tk' ho F' (fun p hp => ?_) (fun q hq p hp => ?_) (Post.mono hp fun p hp => ?_)
  · rcases List.mem_cons.mp hp with rfl | hp
    · exact N' _ (.head _)
    · rcases List.mem_append.mp hp with h | h
      · exact N' p (.tail _ (hs p h))
      · exact N' p (.tail _ ((List.mem_filter.mp h).1))
  · have h1 := Bool.and_eq_true_iff.mp (List.mem_filter.mp hp).2
    rcases List.mem_cons.mp hq with rfl | hq
    · exact of_decide_eq_true h1.1
    · exact of_decide_eq_true (List.all_eq_true.mp h1.2 q hq)
  · rcases hn p hp with h | h
    · exact List.mem_append_left _ h
    · exact List.mem_append_right _ (List.mem_filter.mpr ⟨hp, Bool.and_eq_true_iff.mpr ⟨decide_eq_true h.1, List.all_eq_true.mpr fun q hq => decide_eq_true (h.2 q hq)⟩⟩)
end
/-- the law's state: the row and the place in it -/
abbrev stO (R : Addr) (k : Int) (t : Tok) (n : Nat) : Obj := listOf [Value.ref R, .int k t].toArray n
noncomputable def pUpTo (b : Int) : Pst := ⟨fun _ v => ∃ r t, v = .int r t ∧ 0 ≤ r ∧ r < b, fun h _ => h⟩
section
variable {w : World} {A : Around} {E : Value → Shared → Prop} {s : Shared} {h₀ : Heap} {L R l2 : Addr} {news : Led} {nr n2 : Nat} {vs : List Value} {ns : List Int} {Q : Value → Shared → Prop}
theorem eq_row (N : News h₀ L s.heap news) (hm : (R, listOf vs.toArray nr) ∈ news) (hi : IntsAre vs ns) (hm2 : (l2, listOf (List.toArray []) n2) ∈ news) (hu : A.units + 64 < cLine) {b : Bool} (hb : decide (ns = []) = b) (h : Q (.bool b) s) : wpAny (model PG w) A (compareOp .Eq (.ref R) (.ref l2)) Q E s := by
  subst hb
  exact eq_intsK (News.isList N hm) hi (News.isList N hm2) .nil hu h
theorem len_row (N : News h₀ L s.heap news) (hm : (R, listOf vs.toArray nr) ∈ news) (hi : IntsAre vs ns) (hz : ns.length ≤ 1000) (h : Q (.int (ns.length : Int) (s.toks + 1)) { s with toks := s.toks + 1 + 1 }) : wpAny (model PG w) A (call (.builtin "len") [.ref R]) Q E s := by
  have e := hi.length
  refine len_list (News.isList N hm) (by simp; omega) ?_
  have e2 : ((vs.toArray.size : Nat) : Int) = (ns.length : Int) := by simp [e]
  rw [e2]; exact h
theorem row_item {value slice : PySem.Expr} {i : Int} {t : Tok} (N : News h₀ L s.heap news) (hm : (R, listOf vs.toArray nr) ∈ news) (hi : IntsAre vs ns) (hz : ns.length ≤ 1000) (h0 : 0 ≤ i) (h1 : i < ns.length) (h : ∀ r u, Q (.int r u) s)
    (hs : subscripted slice false (.ref R) (.int i t) = operate [.ref R, .int i t] (getItem (.ref R) (.int i t)) := by with_unfolding_all rfl) : wpAny (model PG w) A (subscriptTail value slice (.ref R) (.int i t)) Q E s := by
  have hlt : i.toNat < ns.length := by omega
  obtain ⟨u, hx⟩ := hi.get i.toNat ns[i.toNat] (by simp [hlt])
  exact item_litK (News.isList N hm) h0 (by omega) hx (h _ _) hs
end
theorem seven_ne (e : Nat) : (7 : Int) ^ e ≠ 0 := Int.pow_ne_zero (by decide)
theorem seven_log {e : Nat} (h : e ≤ 1000) : ((7 : Int) ^ e).natAbs.log2 < 9000 := by
  have h1 : ((7 : Int) ^ e).natAbs = 7 ^ e := by rw [Int.natAbs_pow]; rfl
  rw [h1]
  have h2 : 7 ^ e ≠ 0 := Nat.pos_iff_ne_zero.mp (Nat.pow_pos (by decide))
  rw [Nat.log2_lt h2]
  refine Nat.lt_of_le_of_lt (Nat.pow_le_pow_right (by decide) h) ?_
  refine Nat.lt_of_le_of_lt (Nat.pow_le_pow_left (show 7 ≤ 2 ^ 3 by decide) 1000) ?_
  rw [← Nat.pow_mul]
  exact Nat.pow_lt_pow_right (by decide) (by decide)
theorem take_gives {w : World} {S R : Addr} {k b : Int} {t u : Tok} {n nr : Nat} {vs : List Value} {ns : List Int} {rest : Led} (hR : (R, listOf vs.toArray nr) ∈ rest) (hi : IntsAre vs ns) (hl : ns.length ≤ 1000) (hk0 : 0 ≤ k) (hk1 : k ≤ 1000) (hb : 0 < b) :
    GivesF w 392 [.ref S, .int b u] S (stO R k t n) (fun o' => ∃ t' n', o' = stO R (k + 1) t' n') rest 12 (pUpTo b) := by
  unfold GivesF
  intro loose mean mg mb dp un gd cn cs aa ccd cl outer A₀ base h₀ L m s Q E B F X N hoff T hk hd hu hret
  cases hns : decide (ns = []) with
  | true =>
    refine wpAny_call ?_
    k_dflt ktr_enter
    row_timed "" (first | (guard_target = wpAny _ _ (subscriptTail (Expr.Name ..) (Expr.BinOp ..) (Value.ref _) (Value.int _ _)) _ _ _; (k_here; k_dflt (refine row_item (by k_asm) (by kct_strs) (by with_reducible assumption) (by with_reducible assumption) (by with_reducible assumption) (by with_reducible assumption) ?_; intro r'z u'z; (try dsimp only)))) | (guard_target = wpAny _ _ (compareOp CmpOp.Eq (Value.ref _) (Value.ref _)) _ _ _; (k_here; k_dflt (refine eq_row (by k_asm) (by kct_strs) (by with_reducible assumption) (by kct_strs) (by ktr_units) (by with_reducible assumption) ?_))) | (guard_target = wpAny _ _ (binaryOp Operator.Pow (Value.int _ _) (Value.int _ _)) _ _ _; (k_here; k_dflt (refine pow_int_small (by with_reducible assumption) (by omega) (by decide) ?_))) | (guard_target = wpAny _ _ (binaryOp Operator.FloorDiv (Value.int _ _) (Value.int _ _)) _ _ _; (k_here; k_dflt (refine floordiv_int (by first | with_reducible assumption | omega) ?_ (Or.inl (by first | exact PyProof.noPylong_of_log2 (by with_reducible assumption) | exact PyProof.noPylong_small (by omega)))))) | (guard_target = wpAny _ _ (binaryOp Operator.Mod (Value.int _ _) (Value.int _ _)) _ _ _; (k_here; k_dflt (refine mod_int' (by omega) ?_))) | (guard_target = wpAny _ _ (call (Value.builtin "len") _) _ _ _; (k_here; k_dflt (refine len_row (by k_asm) (by kct_strs) (by with_reducible assumption) (by with_reducible assumption) ?_))))
    all_goals refine hret _ _ _ _ _ ⟨_, _, rfl⟩ (by assumption) (news_foc (by assumption) (FocusL.tail FocusL.head)) (by kp_flats) (by k_caughtNB) ?_
    all_goals exact ⟨_, _, rfl, by omega, by omega⟩
  | false =>
    have hne : ns ≠ [] := of_decide_eq_false hns
    have hp : 0 < ns.length := List.length_pos_iff.mpr hne
    have hL1 : 1 ≤ (ns.length : Int) := by omega
    have hL2 : (ns.length : Int) ≤ 1000 := by omega
    have hi0 : 0 ≤ k.fmod ns.length := Int.fmod_nonneg_of_pos _ (by omega)
    have hi1 : k.fmod ns.length < ns.length := Int.fmod_lt_of_pos _ (by omega)
    have hE0 : 0 ≤ k.fdiv ns.length := Int.fdiv_nonneg hk0 (by omega)
    have hE1 : k.fdiv ns.length ≤ 1000 := by
      rw [Int.fdiv_eq_ediv_of_nonneg _ (by omega)]
      exact Int.le_trans (Int.ediv_le_self _ hk0) hk1
    have hP0 := seven_ne (k.fdiv ns.length).toNat
    have hP1 : ((7 : Int) ^ (k.fdiv ns.length).toNat).natAbs.log2 < 9000 := seven_log (by omega)
    refine wpAny_call ?_
    k_dflt ktr_enter
    row_timed "" (first | (guard_target = wpAny _ _ (subscriptTail (Expr.Name ..) (Expr.BinOp ..) (Value.ref _) (Value.int _ _)) _ _ _; (k_here; k_dflt (refine row_item (by k_asm) (by kct_strs) (by with_reducible assumption) (by with_reducible assumption) (by with_reducible assumption) (by with_reducible assumption) ?_; intro r'z u'z; (try dsimp only)))) | (guard_target = wpAny _ _ (compareOp CmpOp.Eq (Value.ref _) (Value.ref _)) _ _ _; (k_here; k_dflt (refine eq_row (by k_asm) (by kct_strs) (by with_reducible assumption) (by kct_strs) (by ktr_units) (by with_reducible assumption) ?_))) | (guard_target = wpAny _ _ (binaryOp Operator.Pow (Value.int _ _) (Value.int _ _)) _ _ _; (k_here; k_dflt (refine pow_int_small (by with_reducible assumption) (by omega) (by decide) ?_))) | (guard_target = wpAny _ _ (binaryOp Operator.FloorDiv (Value.int _ _) (Value.int _ _)) _ _ _; (k_here; k_dflt (refine floordiv_int (by first | with_reducible assumption | omega) ?_ (Or.inl (by first | exact PyProof.noPylong_of_log2 (by with_reducible assumption) | exact PyProof.noPylong_small (by omega)))))) | (guard_target = wpAny _ _ (binaryOp Operator.Mod (Value.int _ _) (Value.int _ _)) _ _ _; (k_here; k_dflt (refine mod_int' (by omega) ?_))) | (guard_target = wpAny _ _ (call (Value.builtin "len") _) _ _ _; (k_here; k_dflt (refine len_row (by k_asm) (by kct_strs) (by with_reducible assumption) (by with_reducible assumption) ?_))))
    all_goals refine hret _ _ _ _ _ ⟨_, _, rfl⟩ (by assumption) (news_foc (by assumption) (FocusL.tail FocusL.head)) (by kp_flats) (by k_caughtNB) ?_
    all_goals exact ⟨_, _, rfl, Int.fmod_nonneg_of_pos _ hb, Int.fmod_lt_of_pos _ hb⟩
noncomputable def upS (R : Addr) (k c : Int) : Obj → Prop := fun o' => ∃ k' t' n', k ≤ k' ∧ k' ≤ k + c ∧ o' = stO R k' t' n'
noncomputable def pEx (Pr : Ex → Prop) : Pst := ⟨fun l v => ∃ x e, v = .ref x ∧ ExAt l x e ∧ Pr e, fun ⟨x, e, h, k, i⟩ hs => ⟨x, e, h, k.mono hs, i⟩⟩
noncomputable def pExB (Pr : Ex → Prop) : Pst := ⟨fun l v => ∃ x e, v = .ref x ∧ ExAt l x e ∧ BoolAt l x ∧ Pr e, fun ⟨x, e, h, k, b, i⟩ hs => ⟨x, e, h, k.mono hs, b.mono hs, i⟩⟩
theorem mut_st {R : Addr} {k : Int} {t : Tok} {n : Nat} : Mut (stO R k t n) = true := by rfl
section
variable {w : World} {f : Addr} {vs : List Value} {S R : Addr} {o : Obj} {k c b : Int} {rest news : Led} {need : Nat} {loose : List Str} {mean : ExcName → Option Value} {mg mb : Str → Option Value} {dp un : Nat} {gd : Option (List Code)} {cn : Str} {cs : Scope} {a : Addr} {ccd : Value} {cl : List (Str × Addr)} {outer : List Env} {A₀ : Around} {base h₀ : Heap} {L : Addr} {m : Str → Option Value} {s : Shared} {Q E : Value → Shared → Prop}
theorem use_take (C : GivesF w f vs S o (fun o' => ∃ t' n', o' = stO R k t' n') rest need (pUpTo b)) (B : Below A₀ base outer h₀) (F : Fr h₀ L s.heap m) (X : (hd.heap_39 w.params).In h₀) (N : News h₀ L s.heap news) (fo : FocusL S o news rest) (off : ∀ p ∈ rest, p.1 ≠ S) (T : Top hd.view_39 loose mean mg mb h₀) (hk : cs.kind = .function) (hd : dp + need < recursionLimit) (hu : un + 8 * need < cLine)
    (ret : ∀ (r : Int) (u t' : Tok) (n' : Nat) tl h' tk', Fr h₀ L h' m → News h₀ L h' ((S, stO R k t' n') :: (rest ++ tl)) → (∀ q ∈ (S, stO R k t' n') :: rest, ∀ p ∈ tl, q.1 < p.1) → 0 ≤ r → r < b → Q (.int r u) { s with heap := h', toks := tk' }) :
    wpAny (model PG w) (ktrTop dp un gd cn cs L a ccd cl outer) (call (.ref f) vs) Q E s := givesF_use C B F X N fo off T hk hd hu fun r o' tl h' tk' ho F' N' hq hp => by
  obtain ⟨t', n', rfl⟩ := ho
  obtain ⟨r, u, rfl, h0, h1⟩ := hp
  exact ret _ _ _ _ _ _ _ F' N' hq h0 h1
theorem use_ex {Pr : Ex → Prop} (C : GivesF w f vs S o (upS R k c) rest need (pEx Pr)) (B : Below A₀ base outer h₀) (F : Fr h₀ L s.heap m) (X : (hd.heap_39 w.params).In h₀) (N : News h₀ L s.heap news) (fo : FocusL S o news rest) (off : ∀ p ∈ rest, p.1 ≠ S) (T : Top hd.view_39 loose mean mg mb h₀) (hk : cs.kind = .function) (hd : dp + need < recursionLimit) (hu : un + 8 * need < cLine)
    (ret : ∀ (x : Addr) (e : Ex) (k' : Int) (t' : Tok) (n' : Nat) tl h' tk', Fr h₀ L h' m → News h₀ L h' ((S, stO R k' t' n') :: (rest ++ tl)) → (∀ q ∈ (S, stO R k' t' n') :: rest, ∀ p ∈ tl, q.1 < p.1) → k ≤ k' → k' ≤ k + c → ExAt (rest ++ tl) x e → Pr e → Q (.ref x) { s with heap := h', toks := tk' }) :
    wpAny (model PG w) (ktrTop dp un gd cn cs L a ccd cl outer) (call (.ref f) vs) Q E s := givesF_use C B F X N fo off T hk hd hu fun r o' tl h' tk' ho F' N' hq hp => by
  obtain ⟨k', t', n', h0, h1, rfl⟩ := ho
  obtain ⟨x, e, rfl, h2, h3⟩ := hp
  exact ret _ _ _ _ _ _ _ _ F' N' hq h0 h1 h2 h3
theorem use_exB {Pr : Ex → Prop} (C : GivesF w f vs S o (upS R k c) rest need (pExB Pr)) (B : Below A₀ base outer h₀) (F : Fr h₀ L s.heap m) (X : (hd.heap_39 w.params).In h₀) (N : News h₀ L s.heap news) (fo : FocusL S o news rest) (off : ∀ p ∈ rest, p.1 ≠ S) (T : Top hd.view_39 loose mean mg mb h₀) (hk : cs.kind = .function) (hd : dp + need < recursionLimit) (hu : un + 8 * need < cLine)
    (ret : ∀ (x : Addr) (e : Ex) (k' : Int) (t' : Tok) (n' : Nat) tl h' tk', Fr h₀ L h' m → News h₀ L h' ((S, stO R k' t' n') :: (rest ++ tl)) → (∀ q ∈ (S, stO R k' t' n') :: rest, ∀ p ∈ tl, q.1 < p.1) → k ≤ k' → k' ≤ k + c → ExAt (rest ++ tl) x e → BoolAt (rest ++ tl) x → Pr e → Q (.ref x) { s with heap := h', toks := tk' }) :
    wpAny (model PG w) (ktrTop dp un gd cn cs L a ccd cl outer) (call (.ref f) vs) Q E s := givesF_use C B F X N fo off T hk hd hu fun r o' tl h' tk' ho F' N' hq hp => by
  obtain ⟨k', t', n', h0, h1, rfl⟩ := ho
  obtain ⟨x, e, rfl, h2, h3, h4⟩ := hp
  exact ret _ _ _ _ _ _ _ _ F' N' hq h0 h1 h2 h3 h4
/-- a node made while the state stands in the ledger: what is said of it leaves the state out -/
theorem use_node {op : Str} {ty : Addr} {kids : List Value} {value : Value} {t : Tok} {n : Nat} (C : Gives w f vs ((S, stO R k t n) :: rest) need (pNode op ty kids value)) (B : Below A₀ base outer h₀) (F : Fr h₀ L s.heap m) (X : (hd.heap_39 w.params).In h₀) (N : News h₀ L s.heap news) (fo : FocusL S (stO R k t n) news rest) (_ : ∀ p ∈ rest, p.1 ≠ S) (T : Top hd.view_39 loose mean mg mb h₀) (hk : cs.kind = .function) (hd : dp + need < recursionLimit) (hu : un + 8 * need < cLine)
    (ret : ∀ (x : Addr) tl h' tk', Fr h₀ L h' m → News h₀ L h' ((S, stO R k t n) :: (rest ++ tl)) → (∀ q ∈ (S, stO R k t n) :: rest, ∀ p ∈ tl, q.1 < p.1) → NodeAt (rest ++ tl) x op ty kids value → Q (.ref x) { s with heap := h', toks := tk' }) :
    wpAny (model PG w) (ktrTop dp un gd cn cs L a ccd cl outer) (call (.ref f) vs) Q E s := gives_use C B F X (news_foc N fo) T hk hd hu fun r tl h' tk' F' N' hq hp => by
  obtain ⟨x, rfl, hp⟩ := hp
  exact ret _ _ _ _ F' N' hq (hp.stay (drop_mut mut_st))
end
theorem endS {S R : Addr} {k c : Int} {rest : Led} {h₀ : Heap} {L : Addr} {m : Str → Option Value} {s : Shared} {Q : Value → Shared → Prop} {Post : Pst}
    (hret : ∀ r o' l h' tk', upS R k c o' → Fr h₀ L h' m → News h₀ L h' ((S, o') :: l) → (∀ p ∈ rest, p ∈ l) → NewInF S rest l → Post.P l r → Q r { s with heap := h', toks := tk' })
    {r : Value} {h' : Heap} {tk' : Nat} {news' l : Led} {k' : Int} {t' : Tok} {n' : Nat} (F : Fr h₀ L h' m) (N : News h₀ L h' news') (fo : FocusL S (stO R k' t' n') news' l) (a : k ≤ k') (b : k' ≤ k + c) (sub : ∀ p ∈ rest, p ∈ l) (ni : NewInF S rest l) (po : Post.P l r) : Q r { s with heap := h', toks := tk' } :=
  hret r _ l h' tk' ⟨k', t', n', a, b, rfl⟩ F (news_foc N fo) sub ni po
local macro_rules | `(tactic| kqd_all) => `(tactic| (refine endS (by assumption) (by k_asm) (by k_asm) (by kts_caughtN) (by omega) (by omega) (by kp_flats) (by k_caughtNB) ?_))
local macro_rules | `(tactic| walk_at "newList") => `(tactic| (k_here; k_dflt (refine newList_K (by k_asm) (by k_asm) ?_; k_whole); intro l' h' F' N' l1; (have l2 := fun p hp => Nat.ne_of_lt (l1 p hp)); (have l3 := l1); (try k_lt l1); (try k_sweep)))
local macro_rules | `(tactic| tbr_iter $t) => `(tactic| (refine' $t ?k1 ?k2 ?k3 ?k4 ?fo ?of ?k5 ?kK ?kd ?ku (hold ?_); (case k1 => k_asm); (case k2 => k_asm); (case k3 => k_asm); (case k4 => k_asm); (case fo => kts_caughtN); (case of => k_all); (case k5 => k_asm); (case kK => first | exact rfl | assumption); (all_goals (try (keq_rows; done))); (try (case kd => ktr_room)); (try (case ku => ktr_units)); (all_goals (with_reducible show Hold _)); (refine unhold ?_); intros; (with_reducible rename News _ _ _ _ => N9); (try simp only [List.nil_append, List.cons_append, List.append_nil, List.append_assoc] at N9); (try dsimp only); (try k_fold)))
local macro_rules | `(tactic| keq_rows) => `(tactic| ((with_reducible show (_ : Prop)); first | kct_strs | omega))
theorem take_call {w : World} {S R : Addr} {k b : Int} {t u : Tok} {n nr : Nat} {vs : List Value} {ns : List Int} {rest : Led} (hi : IntsAre vs ns) (hR : (R, listOf vs.toArray nr) ∈ rest) (hl : ns.length ≤ 1000) (hk0 : 0 ≤ k) (hk1 : k ≤ 1000) (hb : 0 < b) :
    GivesF w 392 [.ref S, .int b u] S (stO R k t n) (fun o' => ∃ t' n', o' = stO R (k + 1) t' n') rest 12 (pUpTo b) := take_gives hR hi hl hk0 hk1 hb
/-- the types: the integer's, the boolean's -/
inductive TypesAt (news : Led) : Addr → Addr → Addr → Prop
  | mk {x dx ti tb : Addr} {es : List DictEntry} {n : Nat} : (x, instObj 381 dx) ∈ news → (dx, dictOf es n) ∈ news → getL (Str.ofString "integer") es = some (some (.ref ti)) → getL (Str.ofString "boolean") es = some (some (.ref tb)) → Mut (dictOf es n) = false → TyAt news ti (Str.ofString "integer") → TyAt news tb (Str.ofString "boolean") → TypesAt news x ti tb
theorem TypesAt.mono {news news' : Led} {x ti tb : Addr} (h : TypesAt news x ti tb) (hs : ∀ p ∈ news, p ∈ news') : TypesAt news' x ti tb := by
  cases h with | mk a b c d e f g => exact .mk (hs _ a) (hs _ b) c d e (f.mono hs) (g.mono hs)
theorem TypesAt.stay {news news' : Led} {x ti tb : Addr} (h : TypesAt news x ti tb) (hs : ∀ p ∈ news, Mut p.2 = false → p ∈ news') : TypesAt news' x ti tb := by
  cases h with | mk a b c d e f g => exact .mk (hs _ a rfl) (hs _ b e) c d e (f.stay hs) (g.stay hs)
/-- the two variables' list -/
inductive ObjsAt (news : Led) : Addr → Prop
  | mk {x a b : Addr} {n : Nat} : (x, listOf [Value.ref a, .ref b].toArray n) ∈ news → ObjAt news a false → ObjAt news b true → ObjsAt news x
theorem ObjsAt.mono {news news' : Led} {x : Addr} (h : ObjsAt news x) (hs : ∀ p ∈ news, p ∈ news') : ObjsAt news' x := by
  cases h with | mk a b c => exact .mk (hs _ a) (b.mono hs) (c.mono hs)
noncomputable def SideP (e : Ex) : Prop := e.good true ∧ e.isSide = true ∧ e.need ≤ 14 ∧ e.subs.length ≤ 3
theorem obj_item {w : World} {A : Around} {E : Value → Shared → Prop} {s : Shared} {h₀ : Heap} {L x : Addr} {news l0 : Led} {Q : Value → Shared → Prop} {value slice : PySem.Expr} {i : Int} {t : Tok} (N : News h₀ L s.heap news) (ho : ObjsAt l0 x) (hsub : ∀ p ∈ l0, p ∈ news) (h0 : 0 ≤ i) (h1 : i < 2) (h : ∀ o b, ObjAt l0 o b → Q (.ref o) s)
    (hs : subscripted slice false (.ref x) (.int i t) = operate [.ref x, .int i t] (getItem (.ref x) (.int i t)) := by with_unfolding_all rfl) : wpAny (model PG w) A (subscriptTail value slice (.ref x) (.int i t)) Q E s := by
  cases ho
  rename_i oa ob n a b c
  have h01 : i = 0 ∨ i = 1 := by omega
  rcases h01 with rfl | rfl
  · exact item_litK (vs := [.ref oa, .ref ob]) (News.isList N (hsub _ a)) (by decide) (by decide) rfl (h _ _ b) hs
  · exact item_litK (vs := [.ref oa, .ref ob]) (News.isList N (hsub _ a)) (by decide) (by decide) rfl (h _ _ c) hs
local macro_rules | `(tactic| ktr_rel) => `(tactic| first
  | (with_reducible refine' TypesAt.mono ?h ?s; (case h => with_reducible assumption); (case s => kp_flats))
  | (with_reducible refine' ObjsAt.mono ?h ?s; (case h => with_reducible assumption); (case s => kp_flats)))
theorem side_con {n : Int} (h : -1000 ≤ n) (k : n ≤ 1000) : SideP (.con n) := ⟨⟨h, k⟩, rfl, by simp [Ex.need], by simp [Ex.subs]⟩
theorem side_var {b : Bool} : SideP (.var b) := ⟨trivial, rfl, by simp [Ex.need], by simp [Ex.subs]⟩
theorem side_plus {b : Bool} {n : Int} (h : -1000 ≤ n) (k : n ≤ 1000) : SideP (.plus (.var b) (.con n)) := ⟨⟨h, k⟩, rfl, by simp [Ex.need], by simp [Ex.subs]⟩
theorem side_law {w : World} {S R ty ob ti tb : Addr} {k : Int} {t : Tok} {n nr : Nat} {vs : List Value} {ns : List Int} {rest : Led} (hi : IntsAre vs ns) (hR : (R, listOf vs.toArray nr) ∈ rest) (hl : ns.length ≤ 1000) (hk0 : 0 ≤ k) (hk1 : k ≤ 900) (hT : TypesAt rest ty ti tb) (hO : ObjsAt rest ob) :
    GivesF w 399 [.ref S, .ref ty, .ref ob] S (stO R k t n) (upS R k 3) rest 14 (pEx SideP) := by
  unfold GivesF
  intro loose mean mg mb dp un gd cn cs aa ccd cl outer A₀ base h₀ L m s Q E B F X N hoff T hk hd hu hret
  have hT2 := hT
  cases hT with | mk y1 y2 y3 y4 y5 y6 y7 =>
  refine wpAny_call ?_
  k_dflt ktr_enter
  row_timed "" (first | (guard_target = wpAny _ _ (subscriptTail (Expr.Name ..) (Expr.Call ..) (Value.ref _) (Value.int _ _)) _ _ _; (k_here; k_dflt (refine obj_item (by k_asm) (by with_reducible assumption) (by kp_flats) (by with_reducible assumption) (by with_reducible assumption) ?_; intro o'z b'z ho'z; (try dsimp only)))) | (guard_target = wpAny _ _ (call (Value.ref _) _) _ _ _; (k_here; k_dflt (first | tbr_iter (use_take (take_call ?_ ?_ ?_ ?_ ?_ ?_)) | tbr_iter (use_node (node_gives ?_ ?_)) | tbr_iter (use_node (node_gives4 ?_ ?_))))))
  all_goals kqd_all
  · exact ⟨_, .con _, rfl, ExAt.con (by ktr_rel) (y6.mono (by kp_flats)), side_con (by omega) (by omega)⟩
  · exact ⟨_, .plus (.var _) (.con _), rfl, ExAt.plus (by ktr_rel) (y6.mono (by kp_flats)) (ExAt.var (by ktr_rel) (y6.mono (by kp_flats)) (by ktr_rel)) (ExAt.con (by ktr_rel) (y6.mono (by kp_flats))), side_plus (by omega) (by omega)⟩
  · exact ⟨_, .var _, rfl, ExAt.var (by ktr_rel) (y6.mono (by kp_flats)) (by ktr_rel), side_var⟩
theorem side_lcall {w : World} {S R ty ob ti tb : Addr} {k : Int} {t : Tok} {n nr : Nat} {vs : List Value} {ns : List Int} {rest : Led} (hi : IntsAre vs ns) (hR : (R, listOf vs.toArray nr) ∈ rest) (hl : ns.length ≤ 1000) (hT : TypesAt rest ty ti tb) (hO : ObjsAt rest ob) (hk0 : 0 ≤ k) (hk1 : k ≤ 900) :
    GivesF w 399 [.ref S, .ref ty, .ref ob] S (stO R k t n) (upS R k 3) rest 14 (pEx SideP) := side_law hi hR hl hk0 hk1 hT hO
section
variable {w : World} {A : Around} {E : Value → Shared → Prop} {s : Shared} {h₀ : Heap} {L x : Addr} {news : Led} {Q : Value → Shared → Prop} {value slice : PySem.Expr} {i : Int} {t t0 t1 t2 t3 t4 t5 : Tok} {n : Nat}
theorem ops_item (N : News h₀ L s.heap news) (hm : (x, listOf [Value.str (Str.ofString "=") t0, .str (Str.ofString "#") t1, .str (Str.ofString "<") t2, .str (Str.ofString "<=") t3, .str (Str.ofString ">") t4, .str (Str.ofString ">=") t5].toArray n) ∈ news) (h0 : 0 ≤ i) (h1 : i < 6) (h : ∀ (o : Rel) t', Q (.str o.txt t') s)
    (hs : subscripted slice false (.ref x) (.int i t) = operate [.ref x, .int i t] (getItem (.ref x) (.int i t)) := by with_unfolding_all rfl) : wpAny (model PG w) A (subscriptTail value slice (.ref x) (.int i t)) Q E s := by
  have hlt : i.toNat < 6 := by omega
  have key : ∃ (o : Rel) (t' : Tok), [Value.str (Str.ofString "=") t0, .str (Str.ofString "#") t1, .str (Str.ofString "<") t2, .str (Str.ofString "<=") t3, .str (Str.ofString ">") t4, .str (Str.ofString ">=") t5][i.toNat]? = some (.str o.txt t') := by
    generalize i.toNat = j at hlt
    match j, hlt with
    | 0, _ => exact ⟨.eq, t0, rfl⟩
    | 1, _ => exact ⟨.ne, t1, rfl⟩
    | 2, _ => exact ⟨.lt, t2, rfl⟩
    | 3, _ => exact ⟨.le, t3, rfl⟩
    | 4, _ => exact ⟨.gt, t4, rfl⟩
    | 5, _ => exact ⟨.ge, t5, rfl⟩
  obtain ⟨o, t', hx⟩ := key
  exact item_litK (News.isList N hm) h0 (by omega) hx (h o t') hs
theorem ops2_item (N : News h₀ L s.heap news) (hm : (x, listOf [Value.str (Str.ofString "&") t0, .str (Str.ofString "OR") t1].toArray n) ∈ news) (h0 : 0 ≤ i) (h1 : i < 2) (h : (∀ t', Q (.str (Str.ofString "&") t') s) ∧ ∀ t', Q (.str (Str.ofString "OR") t') s)
    (hs : subscripted slice false (.ref x) (.int i t) = operate [.ref x, .int i t] (getItem (.ref x) (.int i t)) := by with_unfolding_all rfl) : wpAny (model PG w) A (subscriptTail value slice (.ref x) (.int i t)) Q E s := by
  have h01 : i = 0 ∨ i = 1 := by omega
  rcases h01 with rfl | rfl
  · exact item_litK (vs := [.str (Str.ofString "&") t0, .str (Str.ofString "OR") t1]) (News.isList N hm) (by decide) (by decide) rfl (h.1 _) hs
  · exact item_litK (vs := [.str (Str.ofString "&") t0, .str (Str.ofString "OR") t1]) (News.isList N hm) (by decide) (by decide) rfl (h.2 _) hs
end
noncomputable def CondP (nn mm : Nat) (e : Ex) : Prop := e.good false ∧ e.okB ∧ e.need ≤ nn ∧ e.subs.length ≤ mm
theorem boolAt_of {l : Led} {x ty : Addr} {op : Str} {kids : List Value} {v : Value} (h : NodeAt l x op ty kids v) (k : TyAt l ty (Str.ofString "boolean")) : BoolAt l x := by
  cases h with | mk a b c d e f g i j k2 => exact .mk a b e k j
theorem cond_rel {o : Rel} {l r : Ex} (h : SideP l) (k : SideP r) : CondP 21 7 (.rel o l r) := by
  obtain ⟨h1, h2, h3, h4⟩ := h
  obtain ⟨k1, k2, k3, k4⟩ := k
  refine ⟨⟨h1, k1⟩, ⟨h2, k2, by omega, by omega⟩, ?_, ?_⟩
  · simp only [Ex.need]; omega
  · simp only [Ex.subs, List.length_cons, List.length_append]; omega
theorem relation_law {w : World} {S R ty ob ti tb : Addr} {k : Int} {t : Tok} {n nr : Nat} {vs : List Value} {ns : List Int} {rest : Led} (hi : IntsAre vs ns) (hR : (R, listOf vs.toArray nr) ∈ rest) (hl : ns.length ≤ 1000) (hT : TypesAt rest ty ti tb) (hO : ObjsAt rest ob) (hk0 : 0 ≤ k) (hk1 : k ≤ 890) :
    GivesF w 406 [.ref S, .ref ty, .ref ob] S (stO R k t n) (upS R k 7) rest 16 (pExB (CondP 21 7)) := by
  unfold GivesF
  intro loose mean mg mb dp un gd cn cs aa ccd cl outer A₀ base h₀ L m s Q E B F X N hoff T hk hd hu hret
  have hT2 := hT
  cases hT with | mk y1 y2 y3 y4 y5 y6 y7 =>
  refine wpAny_call ?_
  k_dflt ktr_enter
  row_timed "" (first | (guard_target = wpAny _ _ (subscriptTail (Expr.List ..) (Expr.Call ..) (Value.ref _) (Value.int _ _)) _ _ _; (k_here; k_dflt (refine ops_item (by k_asm) (by kct_strs) (by with_reducible assumption) (by with_reducible assumption) ?_; intro o'z b'z; (try dsimp only)))) | (guard_target = wpAny _ _ (call (Value.ref _) _) _ _ _; (first | (k_here; k_dflt (tbr_iter (use_ex (side_lcall ?_ ?_ ?_ ?_ ?_ ?_ ?_)))) | (k_here; k_dflt (first | tbr_iter (use_take (take_call ?_ ?_ ?_ ?_ ?_ ?_)) | tbr_iter (use_node (node_gives ?_ ?_)) | tbr_iter (use_node (node_gives4 ?_ ?_)))))))
  all_goals kqd_all
  exact ⟨_, .rel _ _ _, rfl, ExAt.rel (by ktr_rel) (y7.mono (by kp_flats)) (by ktr_rel) (by ktr_rel), boolAt_of (by ktr_rel) (y7.mono (by kp_flats)), cond_rel (by assumption) (by assumption)⟩
theorem relation_call {w : World} {S R ty ob ti tb : Addr} {k : Int} {t : Tok} {n nr : Nat} {vs : List Value} {ns : List Int} {rest : Led} (hi : IntsAre vs ns) (hR : (R, listOf vs.toArray nr) ∈ rest) (hl : ns.length ≤ 1000) (hT : TypesAt rest ty ti tb) (hO : ObjsAt rest ob) (hk0 : 0 ≤ k) (hk1 : k ≤ 890) :
    GivesF w 406 [.ref S, .ref ty, .ref ob] S (stO R k t n) (upS R k 7) rest 16 (pExB (CondP 21 7)) := relation_law hi hR hl hT hO hk0 hk1
noncomputable def JoinedOk (w : World) (d : Nat) (c : Int) (nn mm : Nat) : Prop := ∀ (S R ty ob ti tb : Addr) (k : Int) (t u : Tok) (n nr : Nat) (vs : List Value) (ns : List Int) (rest : Led), IntsAre vs ns → (R, listOf vs.toArray nr) ∈ rest → ns.length ≤ 1000 → TypesAt rest ty ti tb → ObjsAt rest ob → 0 ≤ k → k + c ≤ 880 →
    GivesF w 413 [.ref S, .ref ty, .ref ob, .int (d : Int) u] S (stO R k t n) (upS R k c) rest (17 + d) (pExB (CondP nn mm))
theorem CondP.mono {nn mm nn' mm' : Nat} {e : Ex} (h : CondP nn mm e) (k : nn ≤ nn') (i : mm ≤ mm') : CondP nn' mm' e := ⟨h.1, h.2.1, Nat.le_trans h.2.2.1 k, Nat.le_trans h.2.2.2 i⟩
theorem cond_nt {nn mm nn' mm' : Nat} {e : Ex} (h : CondP nn mm e) (k : nn + 7 ≤ nn') (i : 1 + 2 * mm ≤ mm') : CondP nn' mm' (.nt e) := by
  obtain ⟨h1, h2, h3, h4⟩ := h
  refine ⟨h1, h2, ?_, ?_⟩
  · simp only [Ex.need]; omega
  · simp only [Ex.subs, List.length_cons]; omega
theorem cond_land {nn mm nn' mm' : Nat} {l r : Ex} (h : CondP nn mm l) (q : CondP nn mm r) (k : nn + 7 ≤ nn') (i : 1 + 2 * mm ≤ mm') : CondP nn' mm' (.land l r) := by
  obtain ⟨h1, h2, h3, h4⟩ := h
  obtain ⟨q1, q2, q3, q4⟩ := q
  refine ⟨⟨h1, q1⟩, ⟨h2, q2⟩, ?_, ?_⟩
  · simp only [Ex.need]; omega
  · simp only [Ex.subs, List.length_cons, List.length_append]; omega
theorem cond_lor {nn mm nn' mm' : Nat} {l r : Ex} (h : CondP nn mm l) (q : CondP nn mm r) (k : nn + 7 ≤ nn') (i : 1 + 2 * mm ≤ mm') : CondP nn' mm' (.lor l r) := by
  obtain ⟨h1, h2, h3, h4⟩ := h
  obtain ⟨q1, q2, q3, q4⟩ := q
  refine ⟨⟨h1, q1⟩, ⟨h2, q2⟩, ?_, ?_⟩
  · simp only [Ex.need]; omega
  · simp only [Ex.subs, List.length_cons, List.length_append]; omega
theorem joined_0 {w : World} : JoinedOk w 0 8 21 7 := by
  intro S R ty ob ti tb k t u n nr vs ns rest hi hR hl hT hO hk0 hk1
  unfold GivesF
  intro loose mean mg mb dp un gd cn cs aa ccd cl outer A₀ base h₀ L m s Q E B F X N hoff T hk hd hu hret
  refine wpAny_call ?_
  k_dflt ktr_enter
  row_timed "" (first | (guard_target = wpAny _ _ (call (Value.ref _) _) _ _ _; (first | (k_here; k_dflt (tbr_iter (use_exB (relation_call ?_ ?_ ?_ ?_ ?_ ?_ ?_)))) | (k_here; k_dflt (first | tbr_iter (use_take (take_call ?_ ?_ ?_ ?_ ?_ ?_)) | tbr_iter (use_node (node_gives ?_ ?_)) | tbr_iter (use_node (node_gives4 ?_ ?_)))))))
  all_goals kqd_all
  all_goals exact ⟨_, _, rfl, by ktr_rel, by ktr_rel, by assumption⟩
theorem joined_call {w : World} {d : Nat} {c : Int} {nn mm : Nat} {S R ty ob ti tb : Addr} {k : Int} {t u : Tok} {n nr : Nat} {vs : List Value} {ns : List Int} {rest : Led} (J : JoinedOk w d c nn mm) (hi : IntsAre vs ns) (hR : (R, listOf vs.toArray nr) ∈ rest) (hl : ns.length ≤ 1000) (hT : TypesAt rest ty ti tb) (hO : ObjsAt rest ob) (hk0 : 0 ≤ k) (hk1 : k + c ≤ 880) :
    GivesF w 413 [.ref S, .ref ty, .ref ob, .int (d : Int) u] S (stO R k t n) (upS R k c) rest (17 + d) (pExB (CondP nn mm)) := J S R ty ob ti tb k t u n nr vs ns rest hi hR hl hT hO hk0 hk1
theorem joined_callS {w : World} {d : Nat} {i c : Int} {nn mm : Nat} {S R ty ob ti tb : Addr} {k : Int} {t u : Tok} {n nr : Nat} {vs : List Value} {ns : List Int} {rest : Led} (J : JoinedOk w d c nn mm) (e : i = (d : Int)) (hi : IntsAre vs ns) (hR : (R, listOf vs.toArray nr) ∈ rest) (hl : ns.length ≤ 1000) (hT : TypesAt rest ty ti tb) (hO : ObjsAt rest ob) (hk0 : 0 ≤ k) (hk1 : k + c ≤ 880) :
    GivesF w 413 [.ref S, .ref ty, .ref ob, .int i u] S (stO R k t n) (upS R k c) rest (17 + d) (pExB (CondP nn mm)) := by
  subst e
  exact J S R ty ob ti tb k t u n nr vs ns rest hi hR hl hT hO hk0 hk1
theorem needsJ {a u d c e : Nat} (hd : a + (17 + (d + 1)) < c) (hu : u + 8 * (17 + (d + 1)) < e) : a + 18 < c ∧ u + 8 * 18 < e ∧ Room (a + 1 + (17 + d)) c ∧ Room (u + 3 + 8 * (17 + d)) e := by unfold Room; omega
theorem joined_step {w : World} {d : Nat} {c : Int} {nn mm : Nat} (J : JoinedOk w d c nn mm) (hc : 8 ≤ 1 + 2 * c) (hn : 21 ≤ nn) (hm : 7 ≤ mm) : JoinedOk w (d + 1) (1 + 2 * c) (nn + 7) (1 + 2 * mm) := by
  intro S R ty ob ti tb k t u n nr vs ns rest hi hR hl hT hO hk0 hk1
  unfold GivesF
  intro loose mean mg mb dp un gd cn cs aa ccd cl outer A₀ base h₀ L m s Q E B F X N hoff T hk hd hu hret
  obtain ⟨hd9, hu9, rm1, rm2⟩ := needsJ hd hu
  clear hd hu
  have hT2 := hT
  cases hT with | mk y1 y2 y3 y4 y5 y6 y7 =>
  obtain ⟨i, hi2⟩ : ∃ i : Int, i = ((d + 1 : Nat) : Int) := ⟨_, rfl⟩
  rw [← hi2]
  have hi3 : i - 1 = (d : Int) := by omega
  have hi4 : 1 ≤ i := by omega
  refine wpAny_call ?_
  k_dflt ktr_enter
  row_timed "" (first | (guard_target = wpAny _ _ (subscriptTail (Expr.List ..) (Expr.BinOp ..) (Value.ref _) (Value.int _ _)) _ _ _; (k_here; k_dflt (refine ops2_item (by k_asm) (by kct_strs) (by omega) (by omega) ⟨?_, ?_⟩; (all_goals (intro b'z; (try dsimp only)))))) | (guard_target = wpAny _ _ (call (Value.ref _) _) _ _ _; (first | (k_here; k_dflt (tbr_iter (use_exB (joined_callS ?_ ?_ ?_ ?_ ?_ ?_ ?_ ?_ ?_)))) | (k_here; k_dflt (tbr_iter (use_exB (relation_call ?_ ?_ ?_ ?_ ?_ ?_ ?_)))) | (k_here; k_dflt (first | tbr_iter (use_take (take_call ?_ ?_ ?_ ?_ ?_ ?_)) | tbr_iter (use_node (node_gives ?_ ?_)) | tbr_iter (use_node (node_gives4 ?_ ?_)))))) | (guard_target = wpAny _ _ (call (Value.ref _) _) _ _ _; (k_here; k_dflt (refine wpAny_call ?_; (refine code_def (by k_asm) (by k_asm) (by k_asm) (by k_asm) (by k_asm) (by exact rfl) (by exact rfl) (by first | exact rfl | assumption) (by k_is) (by k_is) (by ktr_room) (by exact BindsTo.of_eq rfl) (by exact locs rfl) ?_ (by exact rfl) (by exact rfl) (by exact rfl) (by decide); k_whole; intro g' L' h'z FG' F'z N'z B' X' T'; (try dsimp only); (try k_fold))))))
  all_goals try (exfalso; omega)
  all_goals kqd_all
  · exact ⟨_, _, rfl, by ktr_rel, by ktr_rel, CondP.mono (by assumption) (by omega) (by omega)⟩
  · exact ⟨_, .nt _, rfl, ExAt.nt (by ktr_rel) (y7.mono (by kp_flats)) (by ktr_rel), boolAt_of (by ktr_rel) (y7.mono (by kp_flats)), cond_nt (by assumption) (by omega) (by omega)⟩
  · exact ⟨_, .land _ _, rfl, ExAt.land (by ktr_rel) (y7.mono (by kp_flats)) (by ktr_rel) (by ktr_rel), boolAt_of (by ktr_rel) (y7.mono (by kp_flats)), cond_land (by assumption) (by assumption) (by omega) (by omega)⟩
  · exact ⟨_, .lor _ _, rfl, ExAt.lor (by ktr_rel) (y7.mono (by kp_flats)) (by ktr_rel) (by ktr_rel), boolAt_of (by ktr_rel) (y7.mono (by kp_flats)), cond_lor (by assumption) (by assumption) (by omega) (by omega)⟩
theorem joined_2 {w : World} : JoinedOk w 2 35 35 31 := joined_step (joined_step joined_0 (by decide) (by decide) (by decide)) (by decide) (by decide) (by decide)
/-- the variables' values -/
inductive HeldAt (w : World) (news : Led) : Addr → Two → Prop
  | mk {x : Addr} {o : Obj} {a b : Int} {t u : Tok} : (x, o) ∈ news → o.IsDictOf (intKind PG w) [(0, .int a t), (1, .int b u)] → (x == sysModules) = false → HeldAt w news x ⟨a, b⟩
theorem HeldAt.mono {w : World} {news news' : Led} {x : Addr} {h : Two} (k : HeldAt w news x h) (hs : ∀ p ∈ news, p ∈ news') : HeldAt w news' x h := by
  cases k with | mk a b c => exact .mk (hs _ a) b c
noncomputable def ValOk (w : World) (e : Ex) : Prop := ∀ (news : Led) (v held : Addr) (h : Two), ExAt news v e → HeldAt w news held h → Gives w 420 [.ref v, .ref held] news e.need (pInt (valE h e))
theorem val_call {w : World} {e : Ex} {news : Led} {v held : Addr} {h : Two} (x : ExAt news v e) (i : ValOk w e) (y : HeldAt w news held h) : Gives w 420 [.ref v, .ref held] news e.need (pInt (valE h e)) := i _ _ _ _ x y
local macro_rules | `(tactic| ktr_rel) => `(tactic| (with_reducible refine' HeldAt.mono ?h ?s; (case h => with_reducible assumption); (case s => kp_flats)))
section
variable {w : World} {A : Around} {E : Value → Shared → Prop} {s : Shared} {h₀ : Heap} {L x : Addr} {news : Led} {h : Two} {t : Tok} {value slice : PySem.Expr} {Q : Value → Shared → Prop}
theorem held_sub0 (N : News h₀ L s.heap news) (k : HeldAt w news x h) (q : ∀ u, Q (.int h.x u) { s with toks := s.toks + 1 })
    (hs : subscripted slice false (.ref x) (.int 0 t) = operate [.ref x, .int 0 t] (getItem (.ref x) (.int 0 t))) (hg : ∀ r, letTemporaryGo value (.ref x) r = pure ()) : wpAny (model PG w) A (subscriptTail value slice (.ref x) (.int 0 t)) Q E s := by
  cases k with | mk a b c => exact kda_item (knd := intKind PG w) N a b (intKind_is _ _ _ _) rfl (q _) hs hg
theorem held_sub1 (N : News h₀ L s.heap news) (k : HeldAt w news x h) (q : ∀ u, Q (.int h.y u) { s with toks := s.toks + 1 })
    (hs : subscripted slice false (.ref x) (.int 1 t) = operate [.ref x, .int 1 t] (getItem (.ref x) (.int 1 t))) (hg : ∀ r, letTemporaryGo value (.ref x) r = pure ()) : wpAny (model PG w) A (subscriptTail value slice (.ref x) (.int 1 t)) Q E s := by
  cases k with | mk a b c => exact kda_item (knd := intKind PG w) N a b (intKind_is _ _ _ _) rfl (q _) hs hg
end
theorem val_con {w : World} {n : Int} : ValOk w (.con n) := by
  intro news v held h hx hy
  unfold Gives
  intro loose mean mg mb dp un gd cn cs aa ccd cl outer A₀ base h₀ L m s Q E B F X N T hk hd hu hret
  cases hx with | con hn ht =>
  simp only [Ex.need] at hd hu
  cases hn
  refine wpAny_call ?_
  k_dflt ktr_enter
  k_caught0
  all_goals refine hret _ _ _ _ (by assumption) (by assumption) (by kp_flats) (by kat_tups) ?_
  all_goals exact ⟨_, rfl⟩
theorem val_var {w : World} {b : Bool} : ValOk w (.var b) := by
  intro news v held h hx hy
  unfold Gives
  intro loose mean mg mb dp un gd cn cs aa ccd cl outer A₀ base h₀ L m s Q E B F X N T hk hd hu hret
  cases hx with | var hn ht ho =>
  simp only [Ex.need] at hd hu
  cases hn
  cases ho
  cases b
  all_goals
    simp only [sl] at *
    refine wpAny_call ?_
    k_dflt ktr_enter
    row_timed "" (first | (guard_target = wpAny _ _ (subscriptTail (Expr.Name ..) (Expr.Attribute ..) (Value.ref _) (Value.int _ _)) _ _ _; (k_here; k_dflt (first | ((with_reducible show wpAny _ _ (subscriptTail _ _ (Value.ref _) (Value.int 0 _)) _ _ _); refine held_sub0 (by k_asm) (by ktr_rel) ?_ (by with_unfolding_all rfl) (by (intro _; with_unfolding_all rfl)); intro p'z; (try dsimp only)) | ((with_reducible show wpAny _ _ (subscriptTail _ _ (Value.ref _) (Value.int 1 _)) _ _ _); refine held_sub1 (by k_asm) (by ktr_rel) ?_ (by with_unfolding_all rfl) (by (intro _; with_unfolding_all rfl)); intro p'z; (try dsimp only))))))
  all_goals refine hret _ _ _ _ (by assumption) (by assumption) (by kp_flats) (by kat_tups) ?_
  all_goals exact ⟨_, rfl⟩
theorem val_nt {w : World} {e : Ex} (he : ValOk w e) : ValOk w (.nt e) := by
  intro news v held h hx hy
  unfold Gives
  intro loose mean mg mb dp un gd cn cs aa ccd cl outer A₀ base h₀ L m s Q E B F X N T hk hd hu hret
  cases hx with | nt hn ht ha =>
  simp only [Ex.need] at hd hu
  obtain ⟨hd9, hu9, rm1, rm2⟩ := needs1 1 3 hd hu rfl rfl
  clear hd hu
  cases hn
  refine wpAny_call ?_
  k_dflt ktr_enter
  row_timed "" (first | (guard_target = wpAny _ _ (subscriptTail (Expr.Attribute ..) (Expr.Constant ..) (Value.ref _) (Value.int _ _)) _ _ _; k_caughtB) | (guard_target = wpAny _ _ (call (Value.ref _) _) _ _ _; (k_here; k_dflt (ktf_call (use_int (val_call ?_ ?_ ?_))))))
  all_goals refine hret _ _ _ _ (by assumption) (by assumption) (by kp_flats) (by kat_tups) ?_
  all_goals exact ⟨_, rfl⟩
theorem val_ord {w : World} {e : Ex} (he : ValOk w e) : ValOk w (.ord e) := by
  intro news v held h hx hy
  unfold Gives
  intro loose mean mg mb dp un gd cn cs aa ccd cl outer A₀ base h₀ L m s Q E B F X N T hk hd hu hret
  cases hx with | ord hn ht ha hb =>
  simp only [Ex.need] at hd hu
  obtain ⟨hd9, hu9, rm1, rm2⟩ := needs1 1 3 hd hu rfl rfl
  clear hd hu
  cases hn
  refine wpAny_call ?_
  k_dflt ktr_enter
  row_timed "" (first | (guard_target = wpAny _ _ (subscriptTail (Expr.Attribute ..) (Expr.Constant ..) (Value.ref _) (Value.int _ _)) _ _ _; k_caughtB) | (guard_target = wpAny _ _ (call (Value.ref _) _) _ _ _; (k_here; k_dflt (ktf_call (use_int (val_call ?_ ?_ ?_))))))
  all_goals refine hret _ _ _ _ (by assumption) (by assumption) (by kp_flats) (by kat_tups) ?_
  all_goals exact ⟨_, rfl⟩
theorem val_plus {w : World} {l r : Ex} (hl : ValOk w l) (hr : ValOk w r) : ValOk w (.plus l r) := by
  intro news v held h hx hy
  unfold Gives
  intro loose mean mg mb dp un gd cn cs aa ccd cl outer A₀ base h₀ L m s Q E B F X N T hk hd hu hret
  cases hx with | plus hn ht ha hb =>
  simp only [Ex.need] at hd hu
  obtain ⟨hd9, hu9, rm1, rm2, rm3, rm4⟩ := needs2 1 3 hd hu rfl rfl
  clear hd hu
  cases hn
  refine wpAny_call ?_
  k_dflt ktr_enter
  row_timed "" (first | (guard_target = wpAny _ _ (subscriptTail (Expr.Attribute ..) (Expr.Constant ..) (Value.ref _) (Value.int _ _)) _ _ _; k_caughtB) | (guard_target = wpAny _ _ (call (Value.ref _) _) _ _ _; (k_here; k_dflt (ktf_call (use_int (val_call ?_ ?_ ?_))))))
  all_goals refine hret _ _ _ _ (by assumption) (by assumption) (by kp_flats) (by kat_tups) ?_
  all_goals exact ⟨_, rfl⟩
section
variable {h : Two} {l r : Ex} {o : Rel}
theorem val_land_1 (e : valE h l = 0) : valE h (.land l r) = valE h l := by simp only [valE]; exact if_pos e
theorem val_land_2 (e : ¬ valE h l = 0) : valE h (.land l r) = valE h r := by simp only [valE]; exact if_neg e
theorem val_lor_1 (e : valE h l = 1) : valE h (.lor l r) = valE h l := by simp only [valE]; exact if_pos e
theorem val_lor_2 (e : ¬ valE h l = 1) : valE h (.lor l r) = valE h r := by simp only [valE]; exact if_neg e
theorem val_rel_1 (e : o.holds (valE h l) (valE h r) = true) : valE h (.rel o l r) = 1 := by simp only [valE]; exact if_pos e
theorem val_rel_2 (e : o.holds (valE h l) (valE h r) = false) : valE h (.rel o l r) = 0 := by simp only [valE]; rw [e]; exact if_neg Bool.false_ne_true
end
theorem intEx {l : Led} {x y : Int} {t : Tok} (e : y = x) : (pInt y).P l (.int x t) := ⟨t, by rw [e]⟩
theorem val_land {w : World} {l r : Ex} (hl : ValOk w l) (hr : ValOk w r) : ValOk w (.land l r) := by
  intro news v held h hx hy
  unfold Gives
  intro loose mean mg mb dp un gd cn cs aa ccd cl outer A₀ base h₀ L m s Q E B F X N T hk hd hu hret
  cases hx with | land hn ht ha hb =>
  simp only [Ex.need] at hd hu
  obtain ⟨hd9, hu9, rm1, rm2, rm3, rm4⟩ := needs2 1 3 hd hu rfl rfl
  clear hd hu
  cases hn
  refine wpAny_call ?_
  k_dflt ktr_enter
  row_timed "" (first | (guard_target = wpAny _ _ (subscriptTail (Expr.Attribute ..) (Expr.Constant ..) (Value.ref _) (Value.int _ _)) _ _ _; k_caughtB) | (guard_target = wpAny _ _ (call (Value.ref _) _) _ _ _; (k_here; k_dflt (ktf_call (use_int (val_call ?_ ?_ ?_))))))
  all_goals refine hret _ _ _ _ (by assumption) (by assumption) (by kp_flats) (by kat_tups) ?_
  all_goals first | exact intEx (val_land_1 (by assumption)) | exact intEx (val_land_2 (by assumption))
theorem val_lor {w : World} {l r : Ex} (hl : ValOk w l) (hr : ValOk w r) : ValOk w (.lor l r) := by
  intro news v held h hx hy
  unfold Gives
  intro loose mean mg mb dp un gd cn cs aa ccd cl outer A₀ base h₀ L m s Q E B F X N T hk hd hu hret
  cases hx with | lor hn ht ha hb =>
  simp only [Ex.need] at hd hu
  obtain ⟨hd9, hu9, rm1, rm2, rm3, rm4⟩ := needs2 1 3 hd hu rfl rfl
  clear hd hu
  cases hn
  refine wpAny_call ?_
  k_dflt ktr_enter
  row_timed "" (first | (guard_target = wpAny _ _ (subscriptTail (Expr.Attribute ..) (Expr.Constant ..) (Value.ref _) (Value.int _ _)) _ _ _; k_caughtB) | (guard_target = wpAny _ _ (call (Value.ref _) _) _ _ _; (k_here; k_dflt (ktf_call (use_int (val_call ?_ ?_ ?_))))))
  all_goals refine hret _ _ _ _ (by assumption) (by assumption) (by kp_flats) (by kat_tups) ?_
  all_goals first | exact intEx (val_lor_1 (by assumption)) | exact intEx (val_lor_2 (by assumption))
theorem txt_not (o : Rel) : (o.txt == Str.ofString "const") = false ∧ (o.txt == Str.ofString "var") = false ∧ (o.txt == Str.ofString "not") = false ∧ (o.txt == Str.ofString "std") = false ∧ (o.txt == Str.ofString "&") = false ∧ (o.txt == Str.ofString "OR") = false ∧ (o.txt == Str.ofString "+") = false := by
  cases o <;> decide
section
variable {w : World} {A : Around} {E : Value → Shared → Prop} {s : Shared} {h₀ : Heap} {L x : Addr} {news : Led} {o : Rel} {ob : Obj} {a b : Int} {t t0 t1 t2 t3 t4 t5 : Tok} {value slice : PySem.Expr} {Q : Value → Shared → Prop}
theorem told_item (N : News h₀ L s.heap news) (hm : (x, ob) ∈ news) (hd : ob.IsDictOf (strKind PG w) (strPairs [(Value.str (Str.ofString "=") t0, Value.bool (a == b)), (Value.str (Str.ofString "#") t1, Value.bool (a != b)), (Value.str (Str.ofString "<") t2, Value.bool (decide (a < b))), (Value.str (Str.ofString "<=") t3, Value.bool (decide (a ≤ b))), (Value.str (Str.ofString ">") t4, Value.bool (decide (b < a))), (Value.str (Str.ofString ">=") t5, Value.bool (decide (b ≤ a)))]))
    (k : Q (.bool (o.holds a b)) { s with toks := s.toks + 1 })
    (hs : subscripted slice false (.ref x) (.str o.txt t) = operate [.ref x, .str o.txt t] (getItem (.ref x) (.str o.txt t))) (hg : ∀ r, letTemporaryGo value (.ref x) r = pure ()) : wpAny (model PG w) A (subscriptTail value slice (.ref x) (.str o.txt t)) Q E s := by
  refine kda_item (knd := strKind PG w) (v := .bool (o.holds a b)) N hm hd (strKind_is _ _ _ _) ?_ k hs hg
  cases o with
  | ne =>
    have e : (a != b) = Rel.holds .ne a b := by simp only [Rel.holds, decide_not]; rfl
    rw [e]; rfl
  | _ => rfl
end
theorem val_rel {w : World} {o : Rel} {l r : Ex} (hl : ValOk w l) (hr : ValOk w r) : ValOk w (.rel o l r) := by
  intro news v held h hx hy
  unfold Gives
  intro loose mean mg mb dp un gd cn cs aa ccd cl outer A₀ base h₀ L m s Q E B F X N T hk hd hu hret
  cases hx with | rel hn ht ha hb =>
  simp only [Ex.need] at hd hu
  obtain ⟨hd9, hu9, rm1, rm2, rm3, rm4⟩ := needs2 1 3 hd hu rfl rfl
  clear hd hu
  cases hn
  obtain ⟨n1, n2, n3, n4, n5, n6, n7⟩ := txt_not o
  refine wpAny_call ?_
  k_dflt ktr_enter
  row_timed "" (first | (guard_target = wpAny _ _ (subscriptTail (Expr.Attribute ..) (Expr.Constant ..) (Value.ref _) (Value.int _ _)) _ _ _; k_caughtB) | (guard_target = wpAny _ _ (subscriptTail (Expr.Name ..) (Expr.Attribute ..) (Value.ref _) (Value.str _ _)) _ _ _; (k_here; k_dflt (refine told_item (by k_asm) (by kct_strs) (by with_reducible assumption) ?_ (by with_unfolding_all rfl) (by (intro _; with_unfolding_all rfl)); (try dsimp only)))) | (guard_target = wpAny _ _ (eval (Expr.Dict ..) _) _ _ _; (k_here; k_dflt (refine kdn_str (by rfl) (by k_asm) (by first | k_asm | exact News.nil) (by exact Top.nolimit (by k_asm)) (by rfl) (by rfl) (by exact List.cons_ne_nil _ _) (by exact Nat.le_of_ble_eq_true rfl) ?_); intro d'z h'z o'z F'z N'z l1z lo'z hd'z; (try k_lt l1z))) | (guard_target = wpAny _ _ (call (Value.ref _) _) _ _ _; (k_here; k_dflt (ktf_call (use_int (val_call ?_ ?_ ?_))))) | (guard_target = wpAny _ _ (evalPairs _) _ _ _; ((try dsimp only); first | refine pairTrees_cons_walk ?_ | refine pairTrees_nil_walk ?_)) | (with_reducible refine' ite_false_of ?h ?_; (case h => with_reducible assumption)))
  all_goals refine hret _ _ _ _ (by assumption) (by assumption) (by kp_flats) (by kat_tups) ?_
  all_goals first | exact intEx (val_rel_1 (by assumption)) | exact intEx (val_rel_2 (by assumption))
theorem val_all {w : World} : ∀ e : Ex, ValOk w e
  | .con _ => val_con
  | .var _ => val_var
  | .plus l r => val_plus (val_all l) (val_all r)
  | .ord e => val_ord (val_all e)
  | .rel _ l r => val_rel (val_all l) (val_all r)
  | .nt e => val_nt (val_all e)
  | .land l r => val_land (val_all l) (val_all r)
  | .lor l r => val_lor (val_all l) (val_all r)
/-! an attributes' dict by its facts alone: what it holds is not written out -/
noncomputable def DOk (es : List DictEntry) (k : Nat) : Prop := es.length ≤ k ∧ ∀ e ∈ es, ∃ x t, e.key = .str x t ∧ (x == Str.ofString "marking") = false
theorem DOk.nil : DOk [] 0 := ⟨Nat.le_refl _, fun _ h => nomatch h⟩
theorem putL_len {nm : Str} {h : Int} {kx v : Value} : ∀ es : List DictEntry, (putL nm h kx v es).length ≤ es.length + 1
  | [] => Nat.le_refl _
  | e :: r => by
    unfold putL
    split
    · exact Nat.le_succ _
    · exact Nat.succ_le_succ (putL_len r)
theorem putL_keys {nm : Str} {h : Int} {t : Tok} {v : Value} {P : Value → Prop} (hk : P (.str nm t)) : ∀ es : List DictEntry, (∀ e ∈ es, P e.key) → ∀ e ∈ putL nm h (.str nm t) v es, P e.key
  | [], _, e, he => by
    rcases List.mem_singleton.mp he with rfl
    exact hk
  | d :: r, hp, e, he => by
    unfold putL at he
    split at he
    · rcases List.mem_cons.mp he with rfl | he
      · exact hp d (.head _)
      · exact hp e (.tail _ he)
    · rcases List.mem_cons.mp he with rfl | he
      · exact hp _ (.head _)
      · exact putL_keys hk r (fun x hx => hp x (.tail _ hx)) e he
theorem DOk.put {es : List DictEntry} {k : Nat} {nm : Str} {h : Int} {t : Tok} {v : Value} (ok : DOk es k) (hm : (nm == Str.ofString "marking") = false) : DOk (putL nm h (.str nm t) v es) (k + 1) :=
  ⟨Nat.le_trans (putL_len es) (Nat.succ_le_succ ok.1), putL_keys (P := fun q => ∃ x t, q = .str x t ∧ (x == Str.ofString "marking") = false) ⟨nm, t, rfl, hm⟩ es ok.2⟩
theorem DOk.noref {es : List DictEntry} {k : Nat} (ok : DOk es k) : es.any (·.refKey) = false := by
  rw [List.any_eq_false]
  intro e he
  obtain ⟨x, t, e1, _⟩ := ok.2 e he
  simp [DictEntry.refKey, e1]
theorem DOk.some {es : List DictEntry} {k : Nat} {nm : Str} (ok : DOk es k) : (getL nm es).isSome = true := by
  unfold getL
  split
  · rfl
  · rw [ok.noref]; rfl
theorem find_put {nm : Str} {h : Int} {t : Tok} {v : Value} : ∀ es : List DictEntry, ∃ e, (putL nm h (.str nm t) v es).find? (·.key.isStr nm) = some e ∧ e.val = v
  | [] => ⟨⟨h, .str nm t, v⟩, by simp [putL, Value.isStr], rfl⟩
  | e :: r => by
    unfold putL
    cases hb : e.key.isStr nm with
    | true => exact ⟨⟨e.hash, e.key, v⟩, by simp [hb], rfl⟩
    | false =>
      obtain ⟨x, hx, hv⟩ := find_put (nm := nm) (h := h) (t := t) (v := v) r
      exact ⟨x, by simp only [Bool.false_eq_true, if_false, List.find?_cons, hb]; exact hx, hv⟩
theorem get_put {nm : Str} {h : Int} {t : Tok} {v : Value} (es : List DictEntry) : getL nm (putL nm h (.str nm t) v es) = some (some v) := by
  obtain ⟨e, he, hv⟩ := find_put (nm := nm) (h := h) (t := t) (v := v) es
  unfold getL
  rw [he]
  exact congrArg (fun x => some (some x)) hv
theorem find_other {nm nm' : Str} {h : Int} {t : Tok} {v : Value} (hne : (nm' == nm) = false) : ∀ es : List DictEntry, ((putL nm h (.str nm t) v es).find? (·.key.isStr nm')).map (·.val) = (es.find? (·.key.isStr nm')).map (·.val)
  | [] => by
    have e : (nm == nm') = false := by rw [beq_eq_false_iff_ne] at hne ⊢; exact fun q => hne q.symm
    simp [putL, Value.isStr, e]
  | e :: r => by
    unfold putL
    cases hb : e.key.isStr nm with
    | true =>
      have hb' : e.key.isStr nm' = false := by
        cases hc : e.key.isStr nm' with
        | false => rfl
        | true => exact absurd (Value.isStr_inj _ _ _ hc hb) (by rw [beq_eq_false_iff_ne] at hne; exact hne)
      simp [hb']
    | false =>
      have ih := find_other (nm := nm) (h := h) (t := t) (v := v) hne r
      simp only [Bool.false_eq_true, if_false, List.find?_cons]
      cases hc : e.key.isStr nm' with
      | true => rfl
      | false => exact ih
theorem get_other {es : List DictEntry} {k : Nat} {nm nm' : Str} {h : Int} {t : Tok} {v : Value} (ok : DOk es k) (ok' : DOk (putL nm h (.str nm t) v es) (k + 1)) (hne : (nm' == nm) = false) : getL nm' (putL nm h (.str nm t) v es) = getL nm' es := by
  have hf := find_other (nm := nm) (nm' := nm') (h := h) (t := t) (v := v) hne es
  unfold getL
  rw [ok.noref, ok'.noref]
  cases h1 : (putL nm h (.str nm t) v es).find? (·.key.isStr nm') with
  | none =>
    rw [h1] at hf
    cases h2 : es.find? (·.key.isStr nm') with
    | none => rfl
    | some y => rw [h2] at hf; cases hf
  | some x =>
    rw [h1] at hf
    cases h2 : es.find? (·.key.isStr nm') with
    | none => rw [h2] at hf; cases hf
    | some y => rw [h2] at hf; simp only [Option.map_some, Option.some.injEq] at hf ⊢; exact hf
theorem DOk.mut {es : List DictEntry} {k n : Nat} (ok : DOk es k) : Mut (dictOf es n) = false := by
  show (es.toArray.toList.any fun e => e.key.isStr (Str.ofString "marking")) = false
  rw [List.any_eq_false]
  intro e he
  obtain ⟨x, t, e1, e2⟩ := ok.2 e (by simpa using he)
  rw [e1]
  simp [Value.isStr, e2]
theorem set_any {w : World} {A : Around} {E : Value → Shared → Prop} {s : Shared} {h₀ : Heap} {L x C dx : Addr} {ox : Obj} {m : Str → Option Value} {news : Led} {g : Obj → Led} {es : List DictEntry} {n k : Nat} {nm : Str} {v : Value} {Q : Unit → Shared → Prop} (F : Fr h₀ L s.heap m) (X : (hd.heap_39 w.params).In h₀) (N : News h₀ L s.heap news) (I : InstAt s.heap x ox C (some (dictOf es n))) (hdd : ox.dict = some dx)
    (hs : findIn (hd.heap_39 w.params) (.ref C) "__setattr__" = some (some (.builtin "object.__setattr__"))) (hp : plainOver (hd.heap_39 w.params) C = true) (ht : takerIn (hd.heap_39 w.params) C nm = some none) (hh : hasDictIn (hd.heap_39 w.params) C = true) (ok : DOk es k) (hm : (nm == Str.ofString "marking") = false) (hk : Nat.ble k 900 = true) (U : UpdF dx (dictOf es n) news g)
    (h : ∀ es' n' tk' h', Fr h₀ L h' m → News h₀ L h' (g (dictOf es' n')) → DOk es' (k + 1) → getL nm es' = some (some v) → (∀ nm', (nm' == nm) = false → getL nm' es' = getL nm' es) → Q () { s with heap := h', toks := tk' }) :
    wpAny (model PG w) A (setAttr (.ref x) nm v) Q E s := by
  have hput : ∀ t, DOk (putL nm (PyData.keyHash w.params nm) (.str nm t) v es) (k + 1) := fun t => ok.put hm
  have hk9 := Nat.le_of_ble_eq_true hk
  obtain ⟨pre, post, e1, e2, a, b⟩ := U.split
  have UU : ∀ {l₁ l₂ : Led} {o o' : Obj} {d : Addr}, (∀ p ∈ l₁, p.1 ≠ d) → (∀ p ∈ l₂, p.1 ≠ d) → Upd d o o' (l₁ ++ (d, o) :: l₂) (l₁ ++ (d, o') :: l₂) := by
    intro l₁ l₂ o o' d h1 h2
    induction l₁ with
    | nil => exact .head h2
    | cons p r ih => exact .tail (h1 p (.head _)) (ih fun q hq => h1 q (.tail _ hq))
  refine set_dict (es' := putL nm (PyData.keyHash w.params nm) (.str nm (s.toks + 1)) v es) (n' := putN nm es n) (news' := g (dictOf (putL nm (PyData.keyHash w.params nm) (.str nm (s.toks + 1)) v es) (putN nm es n))) F X N I hdd hs hp ht hh ok.some rfl ?_ (Nat.le_trans (hput _).1 (by omega)) fun h' F' N' => h _ _ _ _ F' N' (hput _) (get_put es) fun nm' hne => get_other ok (hput _) hne
  rw [e1, e2]
  exact UU a b
theorem keep_step {nm nm2 : Str} {es es' : List DictEntry} {v : Option (Option Value)} (h : ∀ nm', (nm' == nm2) = false → getL nm' es' = getL nm' es) (hne : (nm == nm2) = false) (k : getL nm es = v) : getL nm es' = v := (h nm hne).trans k
theorem isStr_self (nm : Str) (t : Tok) : (Value.str nm t).isStr nm = true := by simp [Value.isStr]
theorem getL_head {nm : Str} {h : Int} {tk : Tok} {v : Value} {r : List DictEntry} : getL nm (⟨h, .str nm tk, v⟩ :: r) = some (some v) := by
  have e := isStr_self nm tk
  simp only [getL, List.find?_cons, e]
theorem put_head {nm : Str} {h h0 : Int} {k0 v v' : Value} {tk : Tok} {r : List DictEntry} {n : Nat} : (putL nm h0 k0 v' (⟨h, .str nm tk, v⟩ :: r), putN nm (⟨h, .str nm tk, v⟩ :: r) n) = (⟨h, .str nm tk, v'⟩ :: r, n) := by
  have e := isStr_self nm tk
  simp only [putL, putN, e, if_true, List.any_cons, Bool.true_or]
noncomputable def pTy (form : Str) : Pst := ⟨fun l v => ∃ x, v = .ref x ∧ TyAt l x form, fun ⟨x, e, h⟩ hs => ⟨x, e, h.mono hs⟩⟩
abbrev cntO (hc : Int) (tc : Tok) (c : Int) (tv : Tok) (r : List DictEntry) (n : Nat) : Obj := dictOf (⟨hc, .str (Str.ofString "counter") tc, .int c tv⟩ :: r) n
theorem endF {d : Addr} {O' : Obj → Prop} {rest : Led} {h₀ : Heap} {L : Addr} {m : Str → Option Value} {s : Shared} {Q : Value → Shared → Prop} {Post : Pst}
    (hret : ∀ r o' l h' tk', O' o' → Fr h₀ L h' m → News h₀ L h' ((d, o') :: l) → (∀ p ∈ rest, p ∈ l) → NewInF d rest l → Post.P l r → Q r { s with heap := h', toks := tk' })
    {r : Value} {o' : Obj} {h' : Heap} {tk' : Nat} {news' l : Led} (F : Fr h₀ L h' m) (N : News h₀ L h' news') (fo : FocusL d o' news' l) (ho : O' o') (sub : ∀ p ∈ rest, p ∈ l) (ni : NewInF d rest l) (po : Post.P l r) : Q r { s with heap := h', toks := tk' } :=
  hret r o' l h' tk' ho F (news_foc N fo) sub ni po
local macro_rules | `(tactic| kqd_in) => `(tactic| (refine endF (by assumption) (by k_asm) (by k_asm) (by kts_caughtN) (by exact ⟨_, rfl⟩) (by kp_flats) (by k_caughtNB) ?_))
theorem new_gives {w : World} {x ds : Addr} {hc : Int} {tc tv t u : Tok} {c sz : Int} {r : List DictEntry} {n : Nat} {form : Str} {rest : Led} (hx : (x, instObj 381 ds) ∈ rest) (hr : r.length ≤ 100) :
    GivesF w 371 [.ref x, .str form t, .int sz u] ds (cntO hc tc c tv r n) (fun o' => ∃ tv', o' = cntO hc tc (c + 1) tv' r n) rest 4 (pTy form) := by
  unfold GivesF
  intro loose mean mg mb dp un gd cn cs aa ccd cl outer A₀ base h₀ L m s Q E B F X N hoff T hk hd hu hret
  refine wpAny_call ?_
  k_dflt k_caughtN0
  row_timed "" (first | (guard_target = wpAny _ _ (setAttr (Value.ref _) (Str.ofString "counter") _) _ _ _; (k_here; k_dflt (refine set_dict (by k_asm) (by k_asm) (by k_asm) (by k_inst) (by exact rfl) (by k_is) (by k_is) (by k_is) (by k_is) (by exact (congrArg Option.isSome getL_head).trans rfl) (by exact put_head) (by k_upd) (by (simp only [List.length_cons]; omega)) ?_; k_whole; intro h'z F'z N'z))) | (guard_target = wpAny _ _ (setAttr (Value.ref _) _ _) _ _ _; (k_here; k_dflt (refine set_any (by k_asm) (by k_asm) (by k_asm) (by k_inst) (by exact rfl) (by k_is) (by k_is) (by k_is) (by k_is) (by first | with_reducible assumption | exact DOk.nil) (by decide) (by exact rfl) (by k_updF) ?_; k_whole; intro e'z n'z t'z h'z F'z N'z ok'z new'z keep'z; (try dsimp only at N'z)))) | (guard_target = wpAny _ _ (getAttr (Value.ref _) (Str.ofString "counter") _) _ _ _; (k_here; k_dflt (refine get_own (by k_asm) (by k_asm) (by k_inst) (by k_is) (by k_is) (by k_is) (by k_is) (by exact getL_head) (by k_handed) ?_; k_whole))) | (guard_target = wpAny _ _ (call (Value.ref _) _) _ _ _; (k_here; k_dflt (refine call_cls (by k_asm) (by k_asm) (by k_asm) (by k_is) (by k_is) (by k_is) ?_; k_whole; intro x'z d'z h'z F'z N'z l1z l2z; (have l3z := fun p hp => Nat.ne_of_lt (l1z p hp)); (have l6z := l1z); (have l7z := fun p hp => Nat.lt_trans (l1z p hp) l2z); (try k_lt l1z); (try k_lt2 l2z); (try k_sweep); k_caughtN0))))
  all_goals kqd_in
  refine' ⟨_, rfl, TyAt.mk (t := t) ?a ?b ?c (DOk.mut ?d)⟩
  case a => kct_strs
  case b => kct_strs
  case d => with_reducible assumption
  case c => repeat' (first | with_reducible assumption | (refine keep_step (by with_reducible assumption) (by decide) ?_))
section
variable {w : World} {f : Addr} {vs : List Value} {S : Addr} {hc : Int} {tc tv : Tok} {c : Int} {r : List DictEntry} {n : Nat} {form : Str} {rest news : Led} {need : Nat} {loose : List Str} {mean : ExcName → Option Value} {mg mb : Str → Option Value} {dp un : Nat} {gd : Option (List Code)} {cn : Str} {cs : Scope} {a : Addr} {ccd : Value} {cl : List (Str × Addr)} {outer : List Env} {A₀ : Around} {base h₀ : Heap} {L : Addr} {m : Str → Option Value} {s : Shared} {Q E : Value → Shared → Prop}
theorem use_new (C : GivesF w f vs S (cntO hc tc c tv r n) (fun o' => ∃ tv', o' = cntO hc tc (c + 1) tv' r n) rest need (pTy form)) (B : Below A₀ base outer h₀) (F : Fr h₀ L s.heap m) (X : (hd.heap_39 w.params).In h₀) (N : News h₀ L s.heap news) (fo : FocusL S (cntO hc tc c tv r n) news rest) (off : ∀ p ∈ rest, p.1 ≠ S) (T : Top hd.view_39 loose mean mg mb h₀) (hk : cs.kind = .function) (hd : dp + need < recursionLimit) (hu : un + 8 * need < cLine)
    (ret : ∀ (x : Addr) (tv' : Tok) tl h' tk', Fr h₀ L h' m → News h₀ L h' ((S, cntO hc tc (c + 1) tv' r n) :: (rest ++ tl)) → (∀ q ∈ (S, cntO hc tc (c + 1) tv' r n) :: rest, ∀ p ∈ tl, q.1 < p.1) → TyAt (rest ++ tl) x form → Q (.ref x) { s with heap := h', toks := tk' }) :
    wpAny (model PG w) (ktrTop dp un gd cn cs L a ccd cl outer) (call (.ref f) vs) Q E s := givesF_use C B F X N fo off T hk hd hu fun r o' tl h' tk' ho F' N' hq hp => by
  obtain ⟨tv', rfl⟩ := ho
  obtain ⟨x, rfl, hp⟩ := hp
  exact ret _ _ _ _ _ F' N' hq hp
end
theorem new_call {w : World} {x ds : Addr} {hc : Int} {tc tv t u : Tok} {c sz : Int} {r : List DictEntry} {n : Nat} {form : Str} {rest : Led} (hx : (x, instObj 381 ds) ∈ rest) (hr : decide (r.length ≤ 100) = true) :
    GivesF w 371 [.ref x, .str form t, .int sz u] ds (cntO hc tc c tv r n) (fun o' => ∃ tv', o' = cntO hc tc (c + 1) tv' r n) rest 4 (pTy form) := new_gives hx (of_decide_eq_true hr)
local macro_rules | `(tactic| keq_rows) => `(tactic| ((with_reducible show (_ : Prop)); first | kct_strs | omega | (with_reducible show decide _ = true; exact rfl)))
theorem off_cons {d : Addr} {p : Addr × Obj} {l : Led} (h : p.1 ≠ d) (r : ∀ q ∈ l, q.1 ≠ d) : ∀ q ∈ p :: l, q.1 ≠ d := fun q hq => by
  rcases List.mem_cons.mp hq with rfl | hq
  · exact h
  · exact r q hq
theorem off_app {d : Addr} {l t : Led} (h : ∀ q ∈ l, q.1 ≠ d) (r : ∀ q ∈ t, q.1 ≠ d) : ∀ q ∈ l ++ t, q.1 ≠ d := fun q hq => (List.mem_append.mp hq).elim (h q) (r q)
theorem off_lt {d : Addr} {t : Led} (h : ∀ p ∈ t, @LT.lt Nat _ d p.1) : ∀ q ∈ t, q.1 ≠ d := fun q hq => Nat.ne_of_gt (h q hq)
local macro_rules | `(tactic| k_all) => `(tactic| first
  | with_reducible assumption
  | (with_reducible refine off_cons ?_ ?_; (focus (first | with_reducible assumption | (with_reducible refine' ne_at ?h ?m; (case h => with_reducible assumption); (case m => kct_strs)) | (dsimp only; omega))); k_all)
  | (with_reducible refine off_app ?_ ?_ <;> k_all)
  | (with_reducible refine off_lt ?_; kst_allIn))
section
local macro_rules | `(tactic| ktr_units) => `(tactic| ((have hU : (Code.builtin "type.__call__" { pos := [Value.ref 381] }).cUnits ≤ 16 := by with_unfolding_all decide); dsimp only [Around.under]; omega))
noncomputable def pTypes : Pst := ⟨fun l v => ∃ x ti tb, v = .ref x ∧ TypesAt l x ti tb, fun ⟨x, ti, tb, e, h⟩ hs => ⟨x, ti, tb, e, h.mono hs⟩⟩
theorem types_gives {w : World} {news : Led} : Gives w 381 [] news 20 pTypes := by
  unfold Gives
  intro loose mean mg mb dp un gd cn cs aa ccd cl outer A₀ base h₀ L m s Q E B F X N T hk hd hu hret
  k_dflt (refine' call_cls ?k1 ?k2 ?k3 ?k4 ?k5 ?k6 ?_; (case k1 => k_asm); (case k2 => k_asm); (case k3 => k_asm); (case k4 => k_is); (case k5 => k_is); (case k6 => k_is); k_whole)
  intro x' d' h' F' N' l1 l2
  have l3 := fun p hp => Nat.ne_of_lt (l1 p hp)
  have l4 := ltN l2
  have l5 : ∀ q ∈ news, q.1 < x' := fun p hp => Nat.lt_trans (l1 p hp) l2
  k_dflt k_caughtN0
  row_timed "" (first | (guard_target = wpAny _ _ (call (Value.ref _) _) _ _ _; (k_here; k_dflt (tbr_iter (use_new (new_call ?_ ?_))))))
  refine hret _ _ _ _ (by assumption) (by assumption) (by kp_flats) (by kat_tups) ?_
  with_reducible rename TyAt _ _ (Str.ofString "integer") => hti
  with_reducible rename TyAt _ _ (Str.ofString "boolean") => htb
  refine' ⟨_, _, _, rfl, TypesAt.mk ?a ?b ?c ?d ?e (hti.mono ?f) (htb.mono ?g)⟩
  case a => kct_strs
  case b => kct_strs
  case c => kernel_rfl
  case d => kernel_rfl
  case e => kernel_rfl
  case f => kp_flats
  case g => kp_flats
end
section
variable {w : World} {f : Addr} {vs : List Value} {S R : Addr} {k : Int} {rest news : Led} {need : Nat} {loose : List Str} {mean : ExcName → Option Value} {mg mb : Str → Option Value} {dp un : Nat} {gd : Option (List Code)} {cn : Str} {cs : Scope} {a : Addr} {ccd : Value} {cl : List (Str × Addr)} {outer : List Env} {A₀ : Around} {base h₀ : Heap} {L : Addr} {m : Str → Option Value} {s : Shared} {Q E : Value → Shared → Prop}
theorem use_types {t : Tok} {n : Nat} (C : Gives w f vs ((S, stO R k t n) :: rest) need pTypes) (B : Below A₀ base outer h₀) (F : Fr h₀ L s.heap m) (X : (hd.heap_39 w.params).In h₀) (N : News h₀ L s.heap news) (fo : FocusL S (stO R k t n) news rest) (_ : ∀ p ∈ rest, p.1 ≠ S) (T : Top hd.view_39 loose mean mg mb h₀) (hk : cs.kind = .function) (hd : dp + need < recursionLimit) (hu : un + 8 * need < cLine)
    (ret : ∀ (x dx ti tb : Addr) (es : List DictEntry) (nn : Nat) tl h' tk', Fr h₀ L h' m → News h₀ L h' ((S, stO R k t n) :: (rest ++ tl)) → (∀ q ∈ (S, stO R k t n) :: rest, ∀ p ∈ tl, q.1 < p.1) → (x, instObj 381 dx) ∈ rest ++ tl → (dx, dictOf es nn) ∈ rest ++ tl → getL (Str.ofString "integer") es = some (some (.ref ti)) → getL (Str.ofString "boolean") es = some (some (.ref tb)) → TyAt (rest ++ tl) ti (Str.ofString "integer") → TyAt (rest ++ tl) tb (Str.ofString "boolean") → TypesAt (rest ++ tl) x ti tb → Q (.ref x) { s with heap := h', toks := tk' }) :
    wpAny (model PG w) (ktrTop dp un gd cn cs L a ccd cl outer) (call (.ref f) vs) Q E s := gives_use C B F X (news_foc N fo) T hk hd hu fun r tl h' tk' F' N' hq hp => by
  obtain ⟨x, ti, tb, rfl, hp⟩ := hp
  have hp2 := hp.stay (drop_mut mut_st)
  have hp3 := hp2
  cases hp2 with | mk a b c d e f g => exact ret _ _ _ _ _ _ _ _ _ F' N' hq a b c d f g hp3
end
theorem sub_nil {l' : Led} : ∀ q ∈ ([] : Led), q ∈ l' := fun _ h => nomatch h
theorem off_nil {d : Addr} : ∀ q ∈ ([] : Led), q.1 ≠ d := fun _ h => nomatch h
noncomputable abbrev lawE (h₀ : Heap) (fa : Addr) (ccd : Value) : Env := envOf (Str.ofString "law") hd.f_law.1.s h₀.objs.size fa ccd
noncomputable def forB : Option Stmt → List Stmt
  | some (.For _ _ b _ _) => b
  | _ => []
noncomputable abbrev slotB : List Stmt := forB hd.f_law.1.b[5]?
noncomputable abbrev goB : List Stmt := forB hd.f_law.1.b[7]?
noncomputable def intIs (nm : Str) (i : Int) (es : List DictEntry) : Bool := match getL nm es with
  | some (some (.int j _)) => decide (j = i)
  | _ => false
theorem intIs_of {nm : Str} {i : Int} {es : List DictEntry} (h : intIs nm i es = true) : ∃ t, getL nm es = some (some (.int i t)) := by
  unfold intIs at h
  split at h
  · rename_i j t e
    obtain rfl := of_decide_eq_true h
    exact ⟨t, e⟩
  · cases h
theorem objAt_of {l : Led} {x dx : Addr} {es : List DictEntry} {n : Nat} {b : Bool} (a : (x, instObj 345 dx) ∈ l) (c : (dx, dictOf es n) ∈ l) (h1 : intIs (Str.ofString "level") 1 es = true) (h2 : intIs (Str.ofString "slot") (sl b) es = true) (h3 : Mut (dictOf es n) = false) : ObjAt l x b := by
  obtain ⟨t, e1⟩ := intIs_of h1
  obtain ⟨u, e2⟩ := intIs_of h2
  exact .mk a c e1 e2 h3
theorem news5 {h₀ h : Heap} {L a b c d e : Addr} {oa ob oc od oe : Obj} {l l1 l2 l3 l4 l5 : Led} (N : News h₀ L h l) (f1 : FocusL a oa l l1) (f2 : FocusL b ob l1 l2) (f3 : FocusL c oc l2 l3) (f4 : FocusL d od l3 l4) (f5 : FocusL e oe l4 l5) : News h₀ L h ((a, oa) :: (b, ob) :: (c, oc) :: (d, od) :: (e, oe) :: l5) := fun p hp => by
  rcases List.mem_cons.mp hp with rfl | hp
  · exact N _ (f1.sub _ (.head _))
  refine N p (f1.sub p (.tail _ ?_))
  rcases List.mem_cons.mp hp with rfl | hp
  · exact f2.sub _ (.head _)
  refine f2.sub p (.tail _ ?_)
  rcases List.mem_cons.mp hp with rfl | hp
  · exact f3.sub _ (.head _)
  refine f3.sub p (.tail _ ?_)
  rcases List.mem_cons.mp hp with rfl | hp
  · exact f4.sub _ (.head _)
  exact f4.sub p (.tail _ (f5.sub p hp))
local macro_rules | `(tactic| kp_flats) => `(tactic| with_reducible exact sub_nil)
local macro_rules | `(tactic| k_all) => `(tactic| with_reducible exact off_nil)
section
variable {w : World} {A : Around} {E : Value → Shared → Prop} {s : Shared} {b : Bool} {t u : Tok} {value slice : PySem.Expr} {Q : Value → Shared → Prop}
theorem xy_item (h : ∀ x, Q (.str x s.toks) { s with toks := s.toks + 1 })
    (hs : subscripted slice false (.str (Str.ofString "xy") t) (.int (sl b) u) = operate [.str (Str.ofString "xy") t, .int (sl b) u] (getItem (.str (Str.ofString "xy") t) (.int (sl b) u)) := by with_unfolding_all rfl)
    (ht : ∀ r, letTemporaryGo value (.str (Str.ofString "xy") t) r = pure () := by intro _; with_unfolding_all rfl) : wpAny (model PG w) A (subscriptTail value slice (.str (Str.ofString "xy") t) (.int (sl b) u)) Q E s :=
  item_str (by cases b <;> decide) (by cases b <;> decide) (by cases b <;> decide) (fun _ => h _) hs ht
end
theorem slot_turn {w : World} {loose : List Str} {mean : ExcName → Option Value} {mg mb : Str → Option Value} {h₀ : Heap} {fa : Addr} {ccd : Value} {s : Shared} {Q : Flow → Shared → Prop} {E1 E2 : Value → Shared → Prop} (T : Top hd.view_39 loose mean mg mb h₀) (X : (hd.heap_39 w.params).In h₀) (B : Below callerA h₀ [] h₀) {m : Str → Option Value} {S R ty dx ti ob dE dH I : Addr} {es : List DictEntry} {ne n nr on : Nat} {k : Int} {t tt : Tok} {vs : List Value} {ns : List Int} {oE oH it : Obj} {G : Led} (b : Bool) {kE kH : List (Int × Value)} {xs : Array Value}
    (hi : IntsAre vs ns) (hR : (R, listOf vs.toArray nr) ∈ G) (hl : ns.length ≤ 1000) (hk0 : 0 ≤ k) (hk1 : k ≤ 900) (y1 : (ty, instObj 381 dx) ∈ G) (y2 : (dx, dictOf es ne) ∈ G) (y3 : getL (Str.ofString "integer") es = some (some (.ref ti)))
    (o1 : @LT.lt Nat _ S ob) (o2 : @LT.lt Nat _ ob dE) (o3 : @LT.lt Nat _ dE dH) (o4 : @LT.lt Nat _ dH I) (gI : ∀ p ∈ G, p.1 ≠ I) (gH : ∀ p ∈ G, p.1 ≠ dH) (gE : ∀ p ∈ G, p.1 ≠ dE) (gO : ∀ p ∈ G, p.1 ≠ ob) (gS : ∀ p ∈ G, p.1 ≠ S)
    (m_slot : m (Str.ofString "slot") = some (.int (sl b) tt)) (m_held : m (Str.ofString "held") = some (.ref dH)) (m_env : m (Str.ofString "env") = some (.ref dE)) (m_objs : m (Str.ofString "objs") = some (.ref ob)) (m_types : m (Str.ofString "types") = some (.ref ty)) (m_state : m (Str.ofString "state") = some (.ref S))
    (F : Fr h₀ h₀.objs.size s.heap m) (N : News h₀ h₀.objs.size s.heap ((I, it) :: (dH, oH) :: (dE, oE) :: (ob, listOf xs on) :: (S, stO R k t n) :: G))
    (dHd : oH.IsDictOf (intKind PG w) kH) (dEd : oE.IsDictOf (intKind PG w) kE) (zH : kH.length ≤ sizeLine) (zE : kE.length ≤ sizeLine) (zO : xs.size ≤ sizeLine)
    (hret : ∀ (x p : Addr) (lo hi v : Int) (tv t' : Tok) (n' on' : Nat) (oE' oH' : Obj) (G' : Led) (m' : Str → Option Value) h' tk', Fr h₀ h₀.objs.size h' m' → m' (Str.ofString "held") = some (.ref dH) → m' (Str.ofString "env") = some (.ref dE) → m' (Str.ofString "objs") = some (.ref ob) → m' (Str.ofString "types") = some (.ref ty) → m' (Str.ofString "state") = some (.ref S) →
      News h₀ h₀.objs.size h' ((I, it) :: (dH, oH') :: (dE, oE') :: (ob, listOf (xs.push (Value.ref x)) on') :: (S, stO R (k + 1 + 1 + 1) t' n') :: G') → (∀ q ∈ G, q ∈ G') → (∀ p ∈ G', p.1 ≠ I) → (∀ p ∈ G', p.1 ≠ dH) → (∀ p ∈ G', p.1 ≠ dE) → (∀ p ∈ G', p.1 ≠ ob) → (∀ p ∈ G', p.1 ≠ S) →
      oH'.IsDictOf (intKind PG w) (stored kH (sl b) (.int v tv)) → oE'.IsDictOf (intKind PG w) (stored kE (sl b) (.ref p)) → ObjAt G' x b → IvAt G' (.ref p) lo hi → -9 ≤ lo → lo ≤ v → v ≤ hi → hi ≤ 30 → Q .next { s with heap := h', toks := tk' }) :
    wpAny (model PG w) (callerA.deeper (lawE h₀ fa ccd)) (execs slotB (lawE h₀ fa ccd)) Q (fun e s' => wpAny (model PG w) (callerA.deeper (lawE h₀ fa ccd)) (leaving (lawE h₀ fa ccd) e) (fun _ s'' => E1 e s'') E2 s') s := by
  have em : m = fun z => if z = Str.ofString "slot" then some (.int (sl b) tt) else if z = Str.ofString "held" then some (.ref dH) else if z = Str.ofString "env" then some (.ref dE) else if z = Str.ofString "objs" then some (.ref ob) else if z = Str.ofString "types" then some (.ref ty) else if z = Str.ofString "state" then some (.ref S) else m z := by
    funext z
    repeat' split
    all_goals first | (subst z; assumption) | rfl
  rw [em] at F
  have a1 := Nat.ne_of_lt o1
  have a2 := Nat.ne_of_lt o2
  have a3 := Nat.ne_of_lt o3
  have a4 := Nat.ne_of_lt o4
  have b1 := Nat.lt_trans o1 o2
  have b2 := Nat.lt_trans o2 o3
  have b3 := Nat.lt_trans o3 o4
  have b4 := Nat.ne_of_lt (Nat.lt_trans b1 o3)
  have b5 := Nat.ne_of_lt (Nat.lt_trans b2 o4)
  have b6 := Nat.ne_of_lt (Nat.lt_trans b1 b3)
  replace b1 := Nat.ne_of_lt b1
  replace b2 := Nat.ne_of_lt b2
  replace b3 := Nat.ne_of_lt b3
  dsimp only [slotB, hd.f_law, List.getElem?_cons_zero, List.getElem?_cons_succ, forB]
  try k_fold
  row_timed "" (first | (guard_target = wpAny _ _ (subscriptTail _ _ (Value.str _ _) (Value.int _ _)) _ _ _; (k_here; k_dflt (refine xy_item ?_; intro x9z; (try dsimp only)))) | (guard_target = wpAny _ _ (call (Value.ref 345) _) _ _ _; (k_here; k_dflt (refine call_cls (by k_asm) (by k_asm) (by k_asm) (by k_is) (by k_is) (by k_is) ?_; k_whole; intro x'z d'z h'z F'z N'z l1z l2z; (have l3z := fun p hp => Nat.ne_of_lt (l1z p hp)); (have l6z := l1z); (have l7z := fun p hp => Nat.lt_trans (l1z p hp) l2z); (try k_lt2 l2z); (try k_sweep); k_caughtN0))) | (guard_target = wpAny _ _ (call (Value.builtin "list.append") _) _ _ _; k_here; (with_reducible show wpAny _ _ (call (Value.builtin _) [Value.ref _, _]) _ _ _); k_dflt (refine' append_K ?k1 ?k2 ?k3 ?_ ?z; (case k1 => k_asm); (case k2 => k_asm); (case k3 => k_upd); (case z => with_reducible assumption); k_whole); intro h'z F'z N'z; (try k_sweep)) | (guard_target = wpAny _ _ (setItem (Value.ref _) (Value.int _ _) _) _ _ _; (k_here; k_dflt (refine kda_set (knd := PySem.intKind _ _) (by k_asm) (by k_asm) (by k_updF) (by with_reducible assumption) (intKind_is _ _ _ _) (by with_reducible assumption) ?_); intro h'z o'z F'z N'z hd'z; (try dsimp only at N'z))) | (guard_target = wpAny _ _ (setAttr (Value.ref _) _ _) _ _ _; (k_here; k_dflt (refine set_any (by k_asm) (by k_asm) (by k_asm) (by k_inst) (by exact rfl) (by k_is) (by k_is) (by k_is) (by k_is) (by first | with_reducible assumption | exact DOk.nil) (by decide) (by exact rfl) (by k_updF) ?_; k_whole; intro e'z n'z t'z h'z F'z N'z ok'z new'z keep'z; (try dsimp only at N'z)))) | (guard_target = wpAny _ _ (call (Value.ref _) _) _ _ _; (k_here; k_dflt (tbr_iter (use_take (take_call ?_ ?_ ?_ ?_ ?_ ?_))))))
  refine' hret _ _ _ _ _ _ _ _ _ _ _ _ _ _ _ ?F ?m1 ?m2 ?m3 ?m4 ?m5 (news5 ?N ?f1 ?f2 ?f3 ?f4 ?f5) ?sub ?gI ?gH ?gE ?gO ?gS ?dH ?dE ?ob ?iv ?a ?b ?c ?d
  case F => k_asm
  case N => k_asm
  case f1 => kts_caughtN
  case f2 => kts_caughtN
  case f3 => kts_caughtN
  case f4 => kts_caughtN
  case f5 => kts_caughtN
  case m1 => rfl
  case m2 => rfl
  case m3 => rfl
  case m4 => rfl
  case m5 => rfl
  case sub => kp_flats
  case gI => first | k_all | fail "gI"
  case gH => first | k_all | fail "gH"
  case gE => first | k_all | fail "gE"
  case gO => first | k_all | fail "gO"
  case gS => first | k_all | fail "gS"
  case dH => with_reducible assumption
  case dE => with_reducible assumption
  case ob =>
    refine' ObjAt.mk ?oa1 ?oa2 ?oa3 ?oa4 (DOk.mut ?oa5)
    case oa1 => kct_strs
    case oa2 => kct_strs
    case oa5 => with_reducible assumption
    case oa3 => repeat' (first | with_reducible assumption | (refine keep_step (by with_reducible assumption) (by decide) ?_))
    case oa4 => repeat' (first | with_reducible assumption | assumption | (refine keep_step (by with_reducible assumption) (by decide) ?_))
  case iv => exact IvAt.mk (by kct_strs)
  case a => omega
  case b => omega
  case c => omega
  case d => omega

section
variable {w : World} {f : Addr} {vs : List Value} {news : Led} {need : Nat} {loose : List Str} {mean : ExcName → Option Value} {mg mb : Str → Option Value} {dp un : Nat} {gd : Option (List Code)} {cn : Str} {cs : Scope} {a : Addr} {ccd : Value} {cl : List (Str × Addr)} {outer : List Env} {A₀ : Around} {base h₀ : Heap} {L : Addr} {m : Str → Option Value} {s : Shared} {Q E : Value → Shared → Prop}
theorem use_found {x : Option En} {mm : En} (C : Gives w f vs news need (pOEnv w x)) (hm : x = some mm) (B : Below A₀ base outer h₀) (F : Fr h₀ L s.heap m) (X : (hd.heap_39 w.params).In h₀) (N : News h₀ L s.heap news) (T : Top hd.view_39 loose mean mg mb h₀) (hk : cs.kind = .function) (hd : dp + need < recursionLimit) (hu : un + 8 * need < cLine)
    (ret : ∀ (r p q : Addr) (o : Obj) (t1 t2 t3 t4 : Tok) (n1 n2 : Nat) tl h' tk', Fr h₀ L h' m → News h₀ L h' (news ++ tl) → (∀ q ∈ news, ∀ p ∈ tl, q.1 < p.1) → (r, o) ∈ news ++ tl → o.IsDictOf (intKind PG w) [(0, .ref p), (1, .ref q)] → (r == sysModules) = false → (p, tupObj [.int mm.a t1, .int mm.b t2] n1) ∈ news ++ tl → (q, tupObj [.int mm.c t3, .int mm.d t4] n2) ∈ news ++ tl → Q (.ref r) { s with heap := h', toks := tk' }) :
    wpAny (model PG w) (ktrTop dp un gd cn cs L a ccd cl outer) (call (.ref f) vs) Q E s := gives_use C B F X N T hk hd hu fun r tl h' tk' F' N' ho hp => by
  obtain ⟨o, e, hp⟩ := hp
  rw [hm] at e
  subst e
  cases hp with
  | some hp =>
    cases hp with
    | mk h1 h2 h3 h4 h5 =>
      cases h4 with | mk h4 =>
      cases h5 with | mk h5 =>
      exact ret _ _ _ _ _ _ _ _ _ _ _ _ _ F' N' ho h1 h2 h3 h4 h5
end
theorem found_in {e : Ex} {en : En} {hv : Two} (hg : e.good false) (hs : en.small) (hh : en.has hv) : ∃ m, heldE en e (decide (valE hv e = 1)) = some m ∧ m.has hv ∧ m.within en := by
  have h1 := both_in (h := hv) e en hg hs hh
  have h2 := both_within e en
  rcases cond_val (h := hv) e hg with k | k
  · have hd : decide (valE hv e = 1) = false := by rw [k]; rfl
    obtain ⟨m, a, b⟩ := h1.2 k
    exact ⟨m, by rw [hd]; exact a, b, h2.2 m a⟩
  · have hd : decide (valE hv e = 1) = true := by rw [k]; rfl
    obtain ⟨m, a, b⟩ := h1.1 k
    exact ⟨m, by rw [hd]; exact a, b, h2.1 m a⟩
theorem assumes_call {w : World} {e : Ex} {news : Led} {st env v : Addr} {en : En} {t : Bool} (hx : ExAt news v e) (ok : e.okB) (hy : EnvAt w news env en) (hz : StAt w news st true) : Gives w 307 [.ref st, .ref env, .ref v, .bool t] news (e.need + 13) (pOEnv w (heldE en e t)) := assumes_gives ok hx hy hz
theorem sorted_env {w : World} {A : Around} {E : Value → Shared → Prop} {s : Shared} {h₀ : Heap} {L x : Addr} {m : Str → Option Value} {news : Led} {o : Obj} {p q : Value} {Q : Value → Shared → Prop} (hh : A.handled = none) (F : Fr h₀ L s.heap m) (N : News h₀ L s.heap news) (hm : (x, o) ∈ news) (hd : o.IsDictOf (intKind PG w) [(0, p), (1, q)]) (lo : (x == sysModules) = false)
    (h : ∀ D t u c h' tk', Fr h₀ L h' m → News h₀ L h' ((D, listOf [Value.int 0 t, .int 1 u].toArray c) :: news) → (∀ q ∈ news, q.1 < D) → Q (.ref D) { s with heap := h', toks := tk' }) :
    wpAny (model PG w) A (call (.builtin "sorted") [.ref x]) Q E s := by
  obtain ⟨ep, hat⟩ := (kda_dict N hm hd).dictAt
  refine kdu_sorted (kdl_dict (knd := intKind PG w) (kvs := [(0, p), (1, q)]) (ep := ep) lo) hh F N hat (kdl_size (n := 2) (by decide)) fun D h' tk vs F' N' l1 hl hv => ?_
  match vs, hl, hv with
  | [a, b], _, hv =>
    obtain ⟨k0, x0, e0, i0⟩ := hv 0 a rfl
    obtain ⟨k1, x1, e1, i1⟩ := hv 1 b rfl
    cases e0
    cases e1
    obtain ⟨t, rfl⟩ := Value.isInt_shape i0
    obtain ⟨u, rfl⟩ := Value.isInt_shape i1
    refine ksk_lsort (ns := [0, 1]) (news' := fun o => (D, o) :: news) F' N' (fun o => Upd.head (fun p hp => Nat.ne_of_lt (l1 p hp))) rfl (.cons 0 t (.cons 1 u .nil)) (by decide) fun vs' ns' c h'' F'' N'' hI hl hp hw _ => ?_
    have e : ns' = [0, 1] := lks_uniq hp hw (by decide)
    subst e
    cases hI with | cons _ t' hI =>
    cases hI with | cons _ u' hI =>
    cases hI
    exact h _ _ _ _ _ _ F'' N'' l1
section
variable {w : World} {A : Around} {E : Value → Shared → Prop} {s : Shared} {h₀ : Heap} {L a b : Addr} {news : Led} {Q : Value → Shared → Prop} {t u t' u' : Tok} {c c' : Nat}
theorem ne_two (N : News h₀ L s.heap news) (hm : (a, listOf [Value.int 0 t, .int 1 u].toArray c) ∈ news) (hm2 : (b, listOf [Value.int 0 t', .int 1 u'].toArray c') ∈ news) (hu : A.units + 64 < cLine) (h : Q (.bool false) s) : wpAny (model PG w) A (compareOp .NotEq (.ref a) (.ref b)) Q E s :=
  ne_intsK (News.isList N hm) (.cons 0 t (.cons 1 u .nil)) (News.isList N hm2) (.cons 0 t' (.cons 1 u' .nil)) hu h
theorem eq_nils (N : News h₀ L s.heap news) (hm : (a, LCg.lst ([] : List Value)) ∈ news) (hm2 : (b, listOf (List.toArray []) c) ∈ news) (hu : A.units + 64 < cLine) (h : Q (.bool true) s) : wpAny (model PG w) A (compareOp .Eq (.ref a) (.ref b)) Q E s :=
  eq_intsK (vs := []) (us := []) (News.isList N (n := 0) hm) .nil (News.isList N hm2) .nil hu h
end
theorem nodes_get {l : Led} : ∀ {us : List Value} {es : List Ex} (i : Nat) (v : Value), NodesAt l us es → us[i]? = some v → ∃ x e, v = .ref x ∧ ExAt l x e
  | [], _, i, v, _, h => by cases i <;> cases h
  | _ :: _, _, 0, v, hn, h => by
    cases hn with | cons a b =>
    cases h
    exact ⟨_, _, rfl, a⟩
  | _ :: _, _, i + 1, v, hn, h => by
    cases hn with | cons a b =>
    exact nodes_get i v b h
noncomputable def CompNo (h₀ : Heap) (L : Addr) (m : Str → Option Value) (s : Shared) (l : Led) (ok : Bool) (s' : Shared) : Prop := ok = false ∧ ∃ h' tk', s' = { s with heap := h', toks := tk' } ∧ Fr h₀ L h' m ∧ News h₀ L h' l
theorem CompNo.intro {h₀ h' : Heap} {L : Addr} {m : Str → Option Value} {s : Shared} {l : Led} {tk' : Nat} (F : Fr h₀ L h' m) (N : News h₀ L h' l) : CompNo h₀ L m s l false { s with heap := h', toks := tk' } := ⟨rfl, h', tk', rfl, F, N⟩
theorem compT_none {w : World} {A : Around} {h₀ : Heap} {L : Addr} {m : Str → Option Value} {env : Env} {ct elt : PySem.Expr} {x : Str} {scope : Scope} {cl : List (Str × Addr)} {s : Shared} {S : Led → Prop} {P : Nat → Value → Prop} {Fin : List Value → Led → Prop} {news : Led}
    (turn : ∀ i v I oI C oC D m₂ h tk (E' : Value → Shared → Prop), P i v → LCg.NsObj oC m₂ → m₂ x = some v → Fr h₀ L h m → News h₀ L h ((I, oI) :: (C, oC) :: (D, LCg.lst []) :: news) →
      wpAny (model PG w) A (isTrue ct (compEnvC scope cl C env) (eval ct (compEnvC scope cl C env))) (CompNo h₀ L m s ((I, oI) :: (C, oC) :: (D, LCg.lst []) :: news)) E' { s with heap := h, toks := tk })
    (hS : S news) (fin : Fin [] news) : ∀ k i, LCt.CompRestT PG w A h₀ L m env ct elt x scope cl s S P Fin k i [] news
  | 0, _ => fin
  | k + 1, i => fun v I oI C oC D m₂ h tk E' hp hC hx F N off _ => wpAny_mono (turn i v I oI C oC D m₂ h tk E' hp hC hx F N) (fun ok s' p => by
      obtain ⟨rfl, h', tk', rfl, F', N'⟩ := p
      simp only [Bool.false_eq_true, if_false]
      exact LCg.CompEnd.intro F' N' news (fun _ h => h) off hS (compT_none turn hS fin k (i + 1))) fun _ _ e => e
local macro_rules | `(tactic| walk_at "call ref") => `(tactic| (k_here; k_dflt (ktf_call (use_nodes (nodes_gives ?_ ?_)))))
local macro_rules | `(tactic| walk_at "CompSrcT") => `(tactic| refine hold ?_)
theorem law_z {w : World} {loose : List Str} {mean : ExcName → Option Value} {mg mb : Str → Option Value} {h₀ : Heap} {fa : Addr} {ccd : Value} {s : Shared} {Q : Flow → Shared → Prop} {E1 E2 : Value → Shared → Prop} (T : Top hd.view_39 loose mean mg mb h₀) (X : (hd.heap_39 w.params).In h₀) (B : Below callerA h₀ [] h₀) {m : Str → Option Value} {x dE dH : Addr} {G : Led} {e : Ex} {en : En} {hv : Two}
    (hx : ExAt G x e) (hg : e.good false) (ok : e.okB) (hn : e.need ≤ 600) (hsz : e.subs.length ≤ 1000) (hE : EnvAt w G dE en) (hH : HeldAt w G dH hv) (hsm : en.small) (hin : en.has hv)
    (m_e : m (Str.ofString "e") = some (.ref x)) (m_env : m (Str.ofString "env") = some (.ref dE)) (m_held : m (Str.ofString "held") = some (.ref dH)) (F : Fr h₀ h₀.objs.size s.heap m) (N : News h₀ h₀.objs.size s.heap G)
    (hret : ∀ h' tk' m', Fr h₀ h₀.objs.size h' m' → Q (.ret (.bool true)) { s with heap := h', toks := tk' }) :
    wpAny (model PG w) (callerA.deeper (lawE h₀ fa ccd)) (execs (hd.f_law.1.b.drop 8) (lawE h₀ fa ccd)) Q (fun e s' => wpAny (model PG w) (callerA.deeper (lawE h₀ fa ccd)) (leaving (lawE h₀ fa ccd) e) (fun _ s'' => E1 e s'') E2 s') s := by
  have em : m = fun z => if z = Str.ofString "e" then some (.ref x) else if z = Str.ofString "env" then some (.ref dE) else if z = Str.ofString "held" then some (.ref dH) else m z := by
    funext z
    repeat' split
    all_goals first | (subst z; assumption) | rfl
  rw [em] at F
  obtain ⟨mm, hm1, hm2, hm3⟩ := found_in (hv := hv) hg hsm hin
  have hvok := val_all (w := w) e
  have hE2 := hE
  have hH2 := hH
  cases hE with | mk e1 e2 e3 e4 e5 =>
  cases hH with | mk f1 f2 f3 =>
  cases e4
  cases e5
  simp only [En.has, En.within] at hm2 hm3
  dsimp only [hd.f_law, List.drop_succ_cons, List.drop_zero]
  try k_fold
  row_timed "" (first | (guard_target = wpAny _ _ (subscriptTail (Expr.Name ..) (Expr.Name ..) (Value.ref _) (Value.int _ _)) _ _ _; (k_here; (with_reducible show wpAny _ _ (subscriptTail _ _ (Value.ref _) (Value.int _ _)) _ _ _); k_dflt (refine kda_item (knd := PySem.intKind _ _) (by k_asm) (by k_mem) (by with_reducible assumption) (intKind_is _ _ _ _) (by rfl) ?_; k_whole); (try dsimp only))) | (guard_target = wpAny _ _ (compareOp CmpOp.Eq (Value.ref _) (Value.ref _)) _ _ _; (k_here; k_dflt (refine eq_nils (by k_asm) (by kct_strs) (by kct_strs) (by ktr_units) ?_))) | (guard_target = wpAny _ _ (compareOp CmpOp.NotEq (Value.ref _) (Value.ref _)) _ _ _; (k_here; k_dflt (refine ne_two (by k_asm) (by kct_strs) (by kct_strs) (by ktr_units) ?_))) | (guard_target = wpAny _ _ (call (Value.type "dict") _) _ _ _; (k_here; k_dflt ((refine dict_of (K := Int) (knd := intKind PG _) (by k_asm) (by k_asm) (Top.nolimit (by k_asm)) (by kct_strs) (by with_reducible assumption) (by with_reducible assumption) (by kob_size) ?_); intro d'z h'z o'z F'z N'z l1z lo'z hd'z; (try k_lt l1z)))) | (guard_target = wpAny _ _ (call (Value.builtin "sorted") _) _ _ _; (k_here; k_dflt (refine sorted_env (by rfl) (by k_asm) (by k_asm) (by kct_strs) (by with_reducible assumption) (by with_reducible assumption) ?_); intro D'z t'z u'z c'z h'z tk'z F'z N'z l1z; (have l2z := fun p hp => Nat.ne_of_lt (l1z p hp)); (try k_lt l1z))) | (guard_target = wpAny _ _ (pyIter (Value.ref _)) _ _ _; ((with_reducible show wpAny _ _ (pyIter (Value.ref _)) (fun it s₂ => LoopAtV _ _ _ _ _ _ _ _ _ it s₂) _ _); k_dflt (refine iter_rangeUnr (n := 2) rfl (by with_reducible assumption) (by decide) (by decide) (by k_asm) (by k_asm) ?_; k_whole; intro i'z l1z; (have l2z := fun p hp => Nat.ne_of_lt (l1z p hp)); (try k_lt l1z)))) | (guard_target = wpAny _ _ (call (Value.ref _) _) _ _ _; (first | (k_here; k_dflt (ktf_call (use_found (assumes_call ?_ ?_ ?_ ?_) ?_))) | (k_here; k_dflt (ktf_call (use_int (val_call ?_ ?_ ?_)))) | (k_here; k_dflt (first | ktf_call (use_nodes (nodes_gives ?_ ?_)) | ktf_call (use_bool (holds_gives ?_ ?_)))))) | (guard_target = wpAny _ _ (evalPairs _) _ _ _; ((try dsimp only); first | refine pairTrees_cons_walk ?_ | refine pairTrees_nil_walk ?_)) | (guard_target = RangeRest ..; (k_dflt (first | ((refine RangeRest.succ (fun t'z h'z tk'z F'z N'z => ?_)); (try rw [show (0 : Int) + ((0 : Nat) : Int) = 0 from rfl] at F'z); (try rw [show (0 : Int) + ((0 + 1 : Nat) : Int) = 1 from rfl] at F'z)) | (refine RangeRest.zero (fun h'z tk'z F'z N'z => ?_))))) | (guard_target = wpAny _ _ (testChain ..) _ _ _; (k_dflt (first | refine test_link ?_ | refine test_last ?_))) | (guard_target = UnrEnd ..; (k_dflt (refine UnrEnd.intro (by k_asm) (by k_asm) _ (FocusL.sub (by kts_caughtN)) (by k_all) ?_))))
  unfold Hold
  rename NodesAt _ _ _ => hnodes
  have hlen := hnodes.len
  refine' LCt.CompSrcT.ledger rfl ?F ?N ?m ?sz (fun g => ?_)
  case F => k_asm
  case N => k_asm
  case m => kct_strs
  case sz =>
    rw [List.size_toArray, hlen]
    exact kdl_size (Nat.le_trans hsz (by decide))
  refine' compT_none ?turn ?S ?fin _ _
  case S => exact srcAt_mem (by kct_strs)
  case turn =>
    intro i9 v9 I9 oI9 C9 oC9 D9 m9 h9 tk9 E9 hp9 hC9 hx9 F9 N9
    obtain ⟨x1, e1, rfl, hx1⟩ := nodes_get i9 v9 hnodes (by simpa using hp9)
    obtain ⟨op, ty, kids, value, hn1, _⟩ := node_of hx1
    cases hn1
    row_timed "" (first | (guard_target = wpAny _ _ (subscriptTail (Expr.Name ..) (Expr.Name ..) (Value.ref _) (Value.int _ _)) _ _ _; (k_here; (with_reducible show wpAny _ _ (subscriptTail _ _ (Value.ref _) (Value.int _ _)) _ _ _); k_dflt (refine kda_item (knd := PySem.intKind _ _) (by k_asm) (by k_mem) (by with_reducible assumption) (intKind_is _ _ _ _) (by rfl) ?_; k_whole); (try dsimp only))) | (guard_target = wpAny _ _ (compareOp CmpOp.Eq (Value.ref _) (Value.ref _)) _ _ _; (k_here; k_dflt (refine eq_nils (by k_asm) (by kct_strs) (by kct_strs) (by ktr_units) ?_))) | (guard_target = wpAny _ _ (compareOp CmpOp.NotEq (Value.ref _) (Value.ref _)) _ _ _; (k_here; k_dflt (refine ne_two (by k_asm) (by kct_strs) (by kct_strs) (by ktr_units) ?_))) | (guard_target = wpAny _ _ (call (Value.type "dict") _) _ _ _; (k_here; k_dflt ((refine dict_of (K := Int) (knd := intKind PG _) (by k_asm) (by k_asm) (Top.nolimit (by k_asm)) (by kct_strs) (by with_reducible assumption) (by with_reducible assumption) (by kob_size) ?_); intro d'z h'z o'z F'z N'z l1z lo'z hd'z; (try k_lt l1z)))) | (guard_target = wpAny _ _ (call (Value.builtin "sorted") _) _ _ _; (k_here; k_dflt (refine sorted_env (by rfl) (by k_asm) (by k_asm) (by kct_strs) (by with_reducible assumption) (by with_reducible assumption) ?_); intro D'z t'z u'z c'z h'z tk'z F'z N'z l1z; (have l2z := fun p hp => Nat.ne_of_lt (l1z p hp)); (try k_lt l1z))) | (guard_target = wpAny _ _ (pyIter (Value.ref _)) _ _ _; ((with_reducible show wpAny _ _ (pyIter (Value.ref _)) (fun it s₂ => LoopAtV _ _ _ _ _ _ _ _ _ it s₂) _ _); k_dflt (refine iter_rangeUnr (n := 2) rfl (by with_reducible assumption) (by decide) (by decide) (by k_asm) (by k_asm) ?_; k_whole; intro i'z l1z; (have l2z := fun p hp => Nat.ne_of_lt (l1z p hp)); (try k_lt l1z)))) | (guard_target = wpAny _ _ (call (Value.ref _) _) _ _ _; (first | (k_here; k_dflt (ktf_call (use_found (assumes_call ?_ ?_ ?_ ?_) ?_))) | (k_here; k_dflt (ktf_call (use_int (val_call ?_ ?_ ?_)))) | (k_here; k_dflt (first | ktf_call (use_nodes (nodes_gives ?_ ?_)) | ktf_call (use_bool (holds_gives ?_ ?_)))))) | (guard_target = wpAny _ _ (evalPairs _) _ _ _; ((try dsimp only); first | refine pairTrees_cons_walk ?_ | refine pairTrees_nil_walk ?_)) | (guard_target = RangeRest ..; (k_dflt (first | ((refine RangeRest.succ (fun t'z h'z tk'z F'z N'z => ?_)); (try rw [show (0 : Int) + ((0 : Nat) : Int) = 0 from rfl] at F'z); (try rw [show (0 : Int) + ((0 + 1 : Nat) : Int) = 1 from rfl] at F'z)) | (refine RangeRest.zero (fun h'z tk'z F'z N'z => ?_))))) | (guard_target = wpAny _ _ (testChain ..) _ _ _; (k_dflt (first | refine test_link ?_ | refine test_last ?_))) | (guard_target = UnrEnd ..; (k_dflt (refine UnrEnd.intro (by k_asm) (by k_asm) _ (FocusL.sub (by kts_caughtN)) (by k_all) ?_))))
    exact CompNo.intro (by k_asm) (by k_asm)
  case fin =>
    row_timed "" (first | (guard_target = wpAny _ _ (subscriptTail (Expr.Name ..) (Expr.Name ..) (Value.ref _) (Value.int _ _)) _ _ _; (k_here; (with_reducible show wpAny _ _ (subscriptTail _ _ (Value.ref _) (Value.int _ _)) _ _ _); k_dflt (refine kda_item (knd := PySem.intKind _ _) (by k_asm) (by k_mem) (by with_reducible assumption) (intKind_is _ _ _ _) (by rfl) ?_; k_whole); (try dsimp only))) | (guard_target = wpAny _ _ (compareOp CmpOp.Eq (Value.ref _) (Value.ref _)) _ _ _; (k_here; k_dflt (refine eq_nils (by k_asm) (by kct_strs) (by kct_strs) (by ktr_units) ?_))) | (guard_target = wpAny _ _ (compareOp CmpOp.NotEq (Value.ref _) (Value.ref _)) _ _ _; (k_here; k_dflt (refine ne_two (by k_asm) (by kct_strs) (by kct_strs) (by ktr_units) ?_))) | (guard_target = wpAny _ _ (call (Value.type "dict") _) _ _ _; (k_here; k_dflt ((refine dict_of (K := Int) (knd := intKind PG _) (by k_asm) (by k_asm) (Top.nolimit (by k_asm)) (by kct_strs) (by with_reducible assumption) (by with_reducible assumption) (by kob_size) ?_); intro d'z h'z o'z F'z N'z l1z lo'z hd'z; (try k_lt l1z)))) | (guard_target = wpAny _ _ (call (Value.builtin "sorted") _) _ _ _; (k_here; k_dflt (refine sorted_env (by rfl) (by k_asm) (by k_asm) (by kct_strs) (by with_reducible assumption) (by with_reducible assumption) ?_); intro D'z t'z u'z c'z h'z tk'z F'z N'z l1z; (have l2z := fun p hp => Nat.ne_of_lt (l1z p hp)); (try k_lt l1z))) | (guard_target = wpAny _ _ (pyIter (Value.ref _)) _ _ _; ((with_reducible show wpAny _ _ (pyIter (Value.ref _)) (fun it s₂ => LoopAtV _ _ _ _ _ _ _ _ _ it s₂) _ _); k_dflt (refine iter_rangeUnr (n := 2) rfl (by with_reducible assumption) (by decide) (by decide) (by k_asm) (by k_asm) ?_; k_whole; intro i'z l1z; (have l2z := fun p hp => Nat.ne_of_lt (l1z p hp)); (try k_lt l1z)))) | (guard_target = wpAny _ _ (call (Value.ref _) _) _ _ _; (first | (k_here; k_dflt (ktf_call (use_found (assumes_call ?_ ?_ ?_ ?_) ?_))) | (k_here; k_dflt (ktf_call (use_int (val_call ?_ ?_ ?_)))) | (k_here; k_dflt (first | ktf_call (use_nodes (nodes_gives ?_ ?_)) | ktf_call (use_bool (holds_gives ?_ ?_)))))) | (guard_target = wpAny _ _ (evalPairs _) _ _ _; ((try dsimp only); first | refine pairTrees_cons_walk ?_ | refine pairTrees_nil_walk ?_)) | (guard_target = RangeRest ..; (k_dflt (first | ((refine RangeRest.succ (fun t'z h'z tk'z F'z N'z => ?_)); (try rw [show (0 : Int) + ((0 : Nat) : Int) = 0 from rfl] at F'z); (try rw [show (0 : Int) + ((0 + 1 : Nat) : Int) = 1 from rfl] at F'z)) | (refine RangeRest.zero (fun h'z tk'z F'z N'z => ?_))))) | (guard_target = wpAny _ _ (testChain ..) _ _ _; (k_dflt (first | refine test_link ?_ | refine test_last ?_))) | (guard_target = UnrEnd ..; (k_dflt (refine UnrEnd.intro (by k_asm) (by k_asm) _ (FocusL.sub (by kts_caughtN)) (by k_all) ?_))))
    exact hret _ _ _ (by k_asm)
section
variable {w : World} {A : Around} {E : Value → Shared → Prop} {s : Shared} {h₀ : Heap} {L x : Addr} {news : Led} {Q : Value → Shared → Prop} {value slice : PySem.Expr} {i : Int} {t t0 t1 t2 : Tok} {n : Nat}
theorem ops3_item (N : News h₀ L s.heap news) (hm : (x, listOf [Value.str (Str.ofString "=") t0, .str (Str.ofString "#") t1, .str (Str.ofString ">") t2].toArray n) ∈ news) (h0 : 0 ≤ i) (h1 : i < 3) (h : ∀ (o : Rel) t', Q (.str o.txt t') s)
    (hs : subscripted slice false (.ref x) (.int i t) = operate [.ref x, .int i t] (getItem (.ref x) (.int i t)) := by with_unfolding_all rfl) : wpAny (model PG w) A (subscriptTail value slice (.ref x) (.int i t)) Q E s := by
  have hlt : i.toNat < 3 := by omega
  have key : ∃ (o : Rel) (t' : Tok), [Value.str (Str.ofString "=") t0, .str (Str.ofString "#") t1, .str (Str.ofString ">") t2][i.toNat]? = some (.str o.txt t') := by
    generalize i.toNat = j at hlt
    match j, hlt with
    | 0, _ => exact ⟨.eq, t0, rfl⟩
    | 1, _ => exact ⟨.ne, t1, rfl⟩
    | 2, _ => exact ⟨.gt, t2, rfl⟩
  obtain ⟨o, t', hx⟩ := key
  exact item_litK (News.isList N hm) h0 (by omega) hx (h o t') hs
end
theorem cond_go {nn mm : Nat} {o : Rel} {e : Ex} {n : Int} (h : CondP nn mm e) (hm : mm ≤ 1000) (a : -1000 ≤ n) (b : n ≤ 1000) : CondP (nn + 14) (mm + 3) (.rel o (.ord e) (.con n)) := by
  obtain ⟨h1, h2, h3, h4⟩ := h
  refine ⟨⟨h1, a, b⟩, ⟨rfl, rfl, ?_, ?_⟩, ?_, ?_⟩
  · simp only [Ex.subs, List.length_cons]; omega
  · simp only [Ex.subs, List.length_cons, List.length_nil]; omega
  · simp only [Ex.need]; omega
  · simp only [Ex.subs, List.length_cons, List.length_append, List.length_nil]; omega
theorem cond_go2 {nn mm : Nat} {e e2 : Ex} {b : Bool} (h : CondP (nn + 14) (mm + 3) e) (k : CondP 21 7 e2) (hn : 21 ≤ nn) : CondP (nn + 21) (mm + 11) (if b = true then .land e e2 else .lor e e2) := by
  obtain ⟨h1, h2, h3, h4⟩ := h
  obtain ⟨k1, k2, k3, k4⟩ := k
  cases b
  · refine ⟨⟨h1, k1⟩, ⟨h2, k2⟩, ?_, ?_⟩
    · show Ex.need (.lor e e2) ≤ _
      simp only [Ex.need]; omega
    · show (Ex.subs (.lor e e2)).length ≤ _
      simp only [Ex.subs, List.length_cons, List.length_append]; omega
  · refine ⟨⟨h1, k1⟩, ⟨h2, k2⟩, ?_, ?_⟩
    · show Ex.need (.land e e2) ≤ _
      simp only [Ex.need]; omega
    · show (Ex.subs (.land e e2)).length ≤ _
      simp only [Ex.subs, List.length_cons, List.length_append]; omega
theorem news2 {h₀ h : Heap} {L a b : Addr} {oa ob : Obj} {l l1 l2 : Led} (N : News h₀ L h l) (f1 : FocusL a oa l l1) (f2 : FocusL b ob l1 l2) : News h₀ L h ((a, oa) :: (b, ob) :: l2) := fun p hp => by
  rcases List.mem_cons.mp hp with rfl | hp
  · exact N _ (f1.sub _ (.head _))
  · exact N p (f1.sub p (.tail _ (f2.sub p hp)))
theorem news2b {h₀ h : Heap} {L a b : Addr} {oa ob : Obj} {l l1 l2 : Led} (N : News h₀ L h l) (f1 : FocusL a oa l l1) (f2 : FocusL b ob l1 l2) : News h₀ L h ((b, ob) :: (a, oa) :: l2) := fun p hp => by
  rcases List.mem_cons.mp hp with rfl | hp
  · exact news2 N f1 f2 _ (.tail _ (.head _))
  rcases List.mem_cons.mp hp with rfl | hp
  · exact news2 N f1 f2 _ (.head _)
  · exact news2 N f1 f2 p (.tail _ (.tail _ hp))
theorem FocusL.drop {d : Addr} {o : Obj} {l r : Led} (f : FocusL d o l r) (hm : Mut o = true) : ∀ p ∈ l, Mut p.2 = false → p ∈ r := by
  induction f with
  | head => exact drop_mut hm
  | tail _ ih =>
    intro p hp h
    rcases List.mem_cons.mp hp with rfl | hp
    · exact .head _
    · exact .tail _ (ih p hp h)
theorem off_ne4 {z : Str} (hz : ([Str.ofString "go_of", Str.ofString "inner", Str.ofString "op", Str.ofString "kind"].contains z) = false) : z ≠ Str.ofString "go_of" ∧ z ≠ Str.ofString "inner" ∧ z ≠ Str.ofString "op" ∧ z ≠ Str.ofString "kind" := by simpa using hz
theorem go_turn {w : World} {loose : List Str} {mean : ExcName → Option Value} {mg mb : Str → Option Value} {h₀ : Heap} {fa : Addr} {ccd : Value} {s : Shared} {Q : Flow → Shared → Prop} {E1 E2 : Value → Shared → Prop} (T : Top hd.view_39 loose mean mg mb h₀) (X : (hd.heap_39 w.params).In h₀) (B : Below callerA h₀ [] h₀) {m : Str → Option Value} {S R ty ti tb ob x I : Addr} {n nr : Nat} {k j : Int} {t tt : Tok} {vs : List Value} {ns : List Int} {it : Obj} {G : Led} {e : Ex}
    (hi : IntsAre vs ns) (hR : (R, listOf vs.toArray nr) ∈ G) (hl : ns.length ≤ 1000) (hk0 : 0 ≤ k) (hk1 : k ≤ 800) (hT : TypesAt G ty ti tb) (hO : ObjsAt G ob) (hx : ExAt G x e) (hb : BoolAt G x) {nn mm : Nat} (hc : CondP nn mm e) (hnn : 21 ≤ nn) (hmm : 7 ≤ mm) (hm2 : mm ≤ 1000)
    (hit : Mut it = true) (o1 : @LT.lt Nat _ S I) (gI : ∀ p ∈ G, p.1 ≠ I) (gS : ∀ p ∈ G, p.1 ≠ S)
    (m_e : m (Str.ofString "e") = some (.ref x)) (m_st : m (Str.ofString "state") = some (.ref S)) (m_ty : m (Str.ofString "types") = some (.ref ty)) (m_ob : m (Str.ofString "objs") = some (.ref ob))
    (F : Fr h₀ h₀.objs.size s.heap (fun z => if z = Str.ofString "go_of" then some (.int j tt) else m z)) (N : News h₀ h₀.objs.size s.heap ((I, it) :: (S, stO R k t n) :: G))
    (hret : ∀ (x' : Addr) (e' : Ex) (k' : Int) (t' : Tok) (n' : Nat) (G' : Led) (m' : Str → Option Value) h' tk', Fr h₀ h₀.objs.size h' m' → m' (Str.ofString "e") = some (.ref x') → (∀ z, z ≠ Str.ofString "e" → ([Str.ofString "go_of", Str.ofString "inner", Str.ofString "op", Str.ofString "kind"].contains z) = false → m' z = m z) →
      News h₀ h₀.objs.size h' ((I, it) :: (S, stO R k' t' n') :: G') → (∀ q ∈ G, q ∈ G') → (∀ p ∈ G', p.1 ≠ I) → (∀ p ∈ G', p.1 ≠ S) → k ≤ k' → k' ≤ k + 10 → ExAt G' x' e' → BoolAt G' x' → CondP (nn + 21) (mm + 11) e' → Q .next { s with heap := h', toks := tk' }) :
    wpAny (model PG w) (callerA.deeper (lawE h₀ fa ccd)) (execs goB (lawE h₀ fa ccd)) Q (fun e s' => wpAny (model PG w) (callerA.deeper (lawE h₀ fa ccd)) (leaving (lawE h₀ fa ccd) e) (fun _ s'' => E1 e s'') E2 s') s := by
  have em : m = fun z => if z = Str.ofString "e" then some (.ref x) else if z = Str.ofString "state" then some (.ref S) else if z = Str.ofString "types" then some (.ref ty) else if z = Str.ofString "objs" then some (.ref ob) else m z := by
    funext z
    repeat' split
    all_goals first | (subst z; assumption) | rfl
  rw [em] at F
  have fin : ∀ (x' : Addr) (e' : Ex) (k' : Int) (t' : Tok) (n' : Nat) (l l1 G' : Led) (m' : Str → Option Value) h' tk', Fr h₀ h₀.objs.size h' m' → m' (Str.ofString "e") = some (.ref x') → (∀ z, z ≠ Str.ofString "e" → ([Str.ofString "go_of", Str.ofString "inner", Str.ofString "op", Str.ofString "kind"].contains z) = false → m' z = m z) →
      News h₀ h₀.objs.size h' l → FocusL S (stO R k' t' n') l l1 → FocusL I it l1 G' → (∀ q ∈ G, q ∈ G') → (∀ p ∈ G', p.1 ≠ I) → (∀ p ∈ G', p.1 ≠ S) → k ≤ k' → k' ≤ k + 10 → ExAt l1 x' e' → BoolAt l1 x' → CondP (nn + 21) (mm + 11) e' → Q .next { s with heap := h', toks := tk' } :=
    fun x' e' k' t' n' l l1 G' m' h' tk' F m1 m2 N f1 f2 sub gI gS k1 k2 ex bo co => hret x' e' k' t' n' G' m' h' tk' F m1 m2 (news2b N f1 f2) sub gI gS k1 k2 (ex.stay (f2.drop hit)) (bo.stay (f2.drop hit)) co
  clear hret
  have hT2 := hT
  cases hT with | mk y1 y2 y3 y4 y5 y6 y7 =>
  dsimp only [goB, hd.f_law, List.getElem?_cons_zero, List.getElem?_cons_succ, forB]
  try k_fold
  row_timed "" (first | (guard_target = wpAny _ _ (subscriptTail (Expr.List ..) (Expr.BinOp ..) (Value.ref _) (Value.int _ _)) _ _ _; (k_here; k_dflt (refine ops2_item (by k_asm) (by kct_strs) (by omega) (by omega) ⟨?_, ?_⟩; (all_goals (intro b'z; (try dsimp only)))))) | (guard_target = wpAny _ _ (subscriptTail (Expr.List ..) (Expr.Call ..) (Value.ref _) (Value.int _ _)) _ _ _; (k_here; k_dflt (refine ops3_item (by k_asm) (by kct_strs) (by with_reducible assumption) (by with_reducible assumption) ?_; intro o'z b'z; (try dsimp only)))) | (guard_target = wpAny _ _ (call (Value.ref _) _) _ _ _; (first | (k_here; k_dflt (first | tbr_iter (use_take (take_call ?_ ?_ ?_ ?_ ?_ ?_)) | tbr_iter (use_node (node_gives ?_ ?_)) | tbr_iter (use_node (node_gives4 ?_ ?_)))) | (k_here; k_dflt (tbr_iter (use_exB (relation_call ?_ ?_ ?_ ?_ ?_ ?_ ?_)))))))
  · refine' fin _ (.land (.rel _ (.ord e) (.con _)) _) _ _ _ _ _ _ _ _ _ ?F ?m1 ?m2 ?N ?f1 ?f2 ?sub ?gI ?gS ?k1 ?k2 ?ex ?bo ?co
    case F => k_asm
    case m1 => rfl
    case N => k_asm
    case f1 => kts_caughtN
    case f2 => kts_caughtN
    case sub => kp_flats
    case gI => first | k_all | fail "gI"
    case gS => first | k_all | fail "gS"
    case k1 => omega
    case k2 => omega
    case ex => exact ExAt.land (by ktr_rel) (y7.mono (by kp_flats)) (ExAt.rel (by ktr_rel) (y7.mono (by kp_flats)) (ExAt.ord (by ktr_rel) (y6.mono (by kp_flats)) (hx.mono (by kp_flats)) (hb.mono (by kp_flats))) (ExAt.con (by ktr_rel) (y6.mono (by kp_flats)))) (by ktr_rel)
    case bo => exact boolAt_of (by ktr_rel) (y7.mono (by kp_flats))
    case co => exact cond_go2 (b := true) (cond_go hc hm2 (by omega) (by omega)) (by assumption) hnn
    case m2 =>
      intro z hz hc9
      have h0 := off_ne4 hc9
      conv => rhs; rw [em]
      simp only [h0.1, h0.2.1, h0.2.2.1, h0.2.2.2, hz, if_false]
  · refine' fin _ (.lor (.rel _ (.ord e) (.con _)) _) _ _ _ _ _ _ _ _ _ ?F ?m1 ?m2 ?N ?f1 ?f2 ?sub ?gI ?gS ?k1 ?k2 ?ex ?bo ?co
    case F => k_asm
    case m1 => rfl
    case N => k_asm
    case f1 => kts_caughtN
    case f2 => kts_caughtN
    case sub => kp_flats
    case gI => first | k_all | fail "gI"
    case gS => first | k_all | fail "gS"
    case k1 => omega
    case k2 => omega
    case ex => exact ExAt.lor (by ktr_rel) (y7.mono (by kp_flats)) (ExAt.rel (by ktr_rel) (y7.mono (by kp_flats)) (ExAt.ord (by ktr_rel) (y6.mono (by kp_flats)) (hx.mono (by kp_flats)) (hb.mono (by kp_flats))) (ExAt.con (by ktr_rel) (y6.mono (by kp_flats)))) (by ktr_rel)
    case bo => exact boolAt_of (by ktr_rel) (y7.mono (by kp_flats))
    case co => exact cond_go2 (b := false) (cond_go hc hm2 (by omega) (by omega)) (by assumption) hnn
    case m2 =>
      intro z hz hc9
      have h0 := off_ne4 hc9
      conv => rhs; rw [em]
      simp only [h0.1, h0.2.1, h0.2.2.1, h0.2.2.2, hz, if_false]
  · refine' fin _ (.rel _ (.ord e) (.con _)) _ _ _ _ _ _ _ _ _ ?F ?m1 ?m2 ?N ?f1 ?f2 ?sub ?gI ?gS ?k1 ?k2 ?ex ?bo ?co
    case F => k_asm
    case m1 => rfl
    case N => k_asm
    case f1 => kts_caughtN
    case f2 => kts_caughtN
    case sub => kp_flats
    case gI => first | k_all | fail "gI"
    case gS => first | k_all | fail "gS"
    case k1 => omega
    case k2 => omega
    case ex => exact ExAt.rel (by ktr_rel) (y7.mono (by kp_flats)) (ExAt.ord (by ktr_rel) (y6.mono (by kp_flats)) (hx.mono (by kp_flats)) (hb.mono (by kp_flats))) (ExAt.con (by ktr_rel) (y6.mono (by kp_flats)))
    case bo => exact boolAt_of (by ktr_rel) (y7.mono (by kp_flats))
    case co => exact CondP.mono (cond_go hc hm2 (by omega) (by omega)) (by omega) (by omega)
    case m2 =>
      intro z hz hc9
      have h0 := off_ne4 hc9
      conv => rhs; rw [em]
      simp only [h0.1, h0.2.1, h0.2.2.1, h0.2.2.2, hz, if_false]
theorem range21 {r : Int} (h0 : 0 ≤ r) (h1 : r < 21) : Builtin.Range.small 0 r 1 = true ∧ Builtin.Range.rangeSize 0 r 1 = ((r.toNat : Nat) : Int) := by
  obtain ⟨n, rfl⟩ := Int.eq_ofNat_of_zero_le h0
  have hn : n < 21 := by omega
  have key : ∀ n : Fin 21, Builtin.Range.small 0 (n.1 : Int) 1 = true ∧ Builtin.Range.rangeSize 0 (n.1 : Int) 1 = ((n.1 : Int).toNat : Int) := by decide
  exact key ⟨n, hn⟩
theorem go_range {w : World} {A : Around} {E : Value → Shared → Prop} {s : Shared} {env : Env} {h₀ : Heap} {x : Str} {body : List Stmt} {Q : Flow → Shared → Prop} {rr : Addr} {r : Int} {t u v : Tok} {m₀ : Str → Option Value} {news : Led} (hh : A.handled = none) (hr : IsRange s.heap rr 0 r 1 t u v) (h0 : 0 ≤ r) (h1 : r < 21) (F : Fr h₀ env.locals s.heap m₀) (N : News h₀ env.locals s.heap news)
    (rest : ∀ (I : Addr) (n : Nat), n ≤ 20 → (∀ p ∈ news, p.1 < I) → RangeRest PG w A E h₀ env x body Q s I 0 n n 0 m₀ news) : wpAny (model PG w) A (pyIter (.ref rr)) (fun it s₂ => LoopAtV PG w A h₀ env x body Q E it s₂) E s :=
  iter_rangeUnr hh hr (range21 h0 h1).1 (range21 h0 h1).2 F N fun I hI => rest I _ (by omega) hI
theorem mut_itR {a b : Int} : Mut (itR a b) = true := rfl
/-- the loop's invariant over names and ledger -/
noncomputable def GoI (S R : Addr) (G₀ : Led) (m₀ : Str → Option Value) (i : Nat) (m : Str → Option Value) (l : Led) : Prop := ∃ (x' : Addr) (e' : Ex) (k' : Int) (t' : Tok) (n' : Nat) (G' : Led), l = (S, stO R k' t' n') :: G' ∧ m (Str.ofString "e") = some (.ref x') ∧ (∀ z, z ≠ Str.ofString "e" → ([Str.ofString "go_of", Str.ofString "inner", Str.ofString "op", Str.ofString "kind"].contains z) = false → m z = m₀ z) ∧ (∀ q ∈ G₀, q ∈ G') ∧ (∀ p ∈ G', p.1 ≠ S) ∧ ExAt G' x' e' ∧ BoolAt G' x' ∧ CondP (35 + 21 * i) (31 + 11 * i) e' ∧ 0 ≤ k' ∧ k' ≤ 50 + 10 * (i : Int)
theorem law_y {w : World} {loose : List Str} {mean : ExcName → Option Value} {mg mb : Str → Option Value} {h₀ : Heap} {fa : Addr} {ccd : Value} {s : Shared} {Q : Flow → Shared → Prop} {E1 E2 : Value → Shared → Prop} (T : Top hd.view_39 loose mean mg mb h₀) (X : (hd.heap_39 w.params).In h₀) (B : Below callerA h₀ [] h₀) {m₀ : Str → Option Value} {S R ty ti tb ob x dE dH : Addr} {n nr : Nat} {k : Int} {t : Tok} {vs : List Value} {ns : List Int} {G : Led} {e : Ex} {en : En} {hv : Two}
    (hi : IntsAre vs ns) (hR : (R, listOf vs.toArray nr) ∈ G) (hl : ns.length ≤ 1000) (hk0 : 0 ≤ k) (hk1 : k ≤ 49) (hT : TypesAt G ty ti tb) (hO : ObjsAt G ob) (hx : ExAt G x e) (hb : BoolAt G x) (hc : CondP 35 31 e) (gS : ∀ p ∈ G, p.1 ≠ S)
    (hE : EnvAt w G dE en) (hH : HeldAt w G dH hv) (hsm : en.small) (hin : en.has hv)
    (m_e : m₀ (Str.ofString "e") = some (.ref x)) (m_st : m₀ (Str.ofString "state") = some (.ref S)) (m_ty : m₀ (Str.ofString "types") = some (.ref ty)) (m_ob : m₀ (Str.ofString "objs") = some (.ref ob)) (m_env : m₀ (Str.ofString "env") = some (.ref dE)) (m_held : m₀ (Str.ofString "held") = some (.ref dH))
    (F : Fr h₀ h₀.objs.size s.heap m₀) (N : News h₀ h₀.objs.size s.heap ((S, stO R k t n) :: G))
    (hret : ∀ h' tk' m', Fr h₀ h₀.objs.size h' m' → Q (.ret (.bool true)) { s with heap := h', toks := tk' }) :
    wpAny (model PG w) (callerA.deeper (lawE h₀ fa ccd)) (execs (hd.f_law.1.b.drop 7) (lawE h₀ fa ccd)) Q (fun e s' => wpAny (model PG w) (callerA.deeper (lawE h₀ fa ccd)) (leaving (lawE h₀ fa ccd) e) (fun _ s'' => E1 e s'') E2 s') s := by
  have em : m₀ = fun z => if z = Str.ofString "e" then some (.ref x) else if z = Str.ofString "state" then some (.ref S) else if z = Str.ofString "types" then some (.ref ty) else if z = Str.ofString "objs" then some (.ref ob) else if z = Str.ofString "env" then some (.ref dE) else if z = Str.ofString "held" then some (.ref dH) else m₀ z := by
    funext z
    repeat' split
    all_goals first | (subst z; assumption) | rfl
  rw [em] at F
  dsimp only [hd.f_law, List.drop_succ_cons, List.drop_zero]
  try k_fold
  row_timed "" (first | (guard_target = wpAny _ _ (exec (Stmt.For (Expr.Name ..) (Expr.Call ..) ..) _) _ _ _; (k_here; k_dflt (refine For_invVF (by k_asm) (by exact rfl) (by exact rfl) ?_; k_whole))) | (guard_target = wpAny _ _ (pyIter (Value.ref _)) _ _ _; ((with_reducible show wpAny _ _ (pyIter (Value.ref _)) (fun it s₂ => LoopAtV _ _ _ _ _ _ _ _ _ it s₂) _ _); refine hold ?_)) | (guard_target = wpAny _ _ (call (Value.ref _) _) _ _ _; (k_here; k_dflt (tbr_iter (use_take (take_call ?_ ?_ ?_ ?_ ?_ ?_))))))
  unfold Hold
  refine' go_range rfl ?hr ?h0 ?h1 ?F ?N (fun I n hn hI => ?_)
  case hr => with_reducible assumption
  case h0 => with_reducible assumption
  case h1 => with_reducible assumption
  case F => k_asm
  case N => k_asm
  rw [← em]
  refine range_ind (GoI S R G m₀) ?_ ?_ n 0 _ _ (Nat.zero_add n) ⟨x, e, k + 1, _, _, _, rfl, m_e, fun _ _ _ => rfl, by kp_flats, ?gS, hx.mono (by kp_flats), hb.mono (by kp_flats), hc, by omega, by omega⟩ (fun p hp => Nat.ne_of_lt (hI p hp))
  case gS => first | k_all | fail "gS"
  · rintro i m l hi9 ⟨x', e', k', t', n', G', rfl, me, mz, sub, gS', ex, bo, co, ka, kb⟩ hoff t9 h9 tk9 F9 N9
    have sI : @LT.lt Nat _ S I := hI (S, _) (.head _)
    refine go_turn T X B hi (sub _ hR) hl ka (by omega) (hT.mono sub) (hO.mono sub) ex bo co (by omega) (by omega) (by omega) mut_itR sI (fun p hp => hoff p (.tail _ hp)) gS' me (show m (Str.ofString "state") = some (.ref S) from (mz (Str.ofString "state") (by decide) (by decide)).trans m_st) (show m (Str.ofString "types") = some (.ref ty) from (mz (Str.ofString "types") (by decide) (by decide)).trans m_ty) (show m (Str.ofString "objs") = some (.ref ob) from (mz (Str.ofString "objs") (by decide) (by decide)).trans m_ob) F9 N9 ?_
    intro x2 e2 k2 t2 n2 G2 m2 h2 tk2 F2 me2 mz2 N2 sub2 gI2 gS2 kc kd ex2 bo2 co2
    exact ⟨h2, tk2, m2, (S, stO R k2 t2 n2) :: G2, rfl, F2, N2, off_cons (Nat.ne_of_lt sI) gI2, x2, e2, k2, t2, n2, G2, rfl, me2, fun z hz hc9 => (mz2 z hz hc9).trans (mz z hz hc9), fun q hq => sub2 q (sub q hq), gS2, ex2, bo2, CondP.mono co2 (by omega) (by omega), by omega, by omega⟩
  · rintro m l ⟨x', e', k', t', n', G', rfl, me, mz, sub, gS', ex, bo, co, ka, kb⟩ h9 tk9 F9 N9
    exact law_z T X B (ex.mono (fun _ h => .tail _ h)) co.1 co.2.1 (Nat.le_trans co.2.2.1 (by omega)) (Nat.le_trans co.2.2.2 (by omega)) (hE.mono fun q hq => .tail _ (sub q hq)) (hH.mono fun q hq => .tail _ (sub q hq)) hsm hin me (show m (Str.ofString "env") = some (.ref dE) from (mz (Str.ofString "env") (by decide) (by decide)).trans m_env) (show m (Str.ofString "held") = some (.ref dH) from (mz (Str.ofString "held") (by decide) (by decide)).trans m_held) F9 N9 (fun h' tk' m' F' => hret h' tk' m' F')
theorem push1 {x : Value} : (#[] : Array Value).push x = [x].toArray := rfl
theorem push2 {x y : Value} : [x].toArray.push y = [x, y].toArray := rfl
theorem objs_of {G : Led} {a b ob : Addr} {n : Nat} {m : Str → Option Value} (_ : m (Str.ofString "objs") = some (.ref ob)) (ha : ObjAt G a false) (hb : ObjAt G b true) : ObjsAt ((ob, listOf [Value.ref a, .ref b].toArray n) :: G) ob := .mk (.head _) (ha.mono fun _ h => .tail _ h) (hb.mono fun _ h => .tail _ h)
theorem map5 {m : Str → Option Value} {a b c d e : Option Value} (h1 : m (Str.ofString "held") = a) (h2 : m (Str.ofString "env") = b) (h3 : m (Str.ofString "objs") = c) (h4 : m (Str.ofString "types") = d) (h5 : m (Str.ofString "state") = e) : m = fun z => if z = Str.ofString "held" then a else if z = Str.ofString "env" then b else if z = Str.ofString "objs" then c else if z = Str.ofString "types" then d else if z = Str.ofString "state" then e else m z := by
  funext z
  repeat' split
  all_goals first | (subst z; assumption) | rfl
theorem law_x {w : World} {loose : List Str} {mean : ExcName → Option Value} {mg mb : Str → Option Value} {h₀ : Heap} {fa : Addr} {ccd : Value} {s : Shared} {Q : Flow → Shared → Prop} {E1 E2 : Value → Shared → Prop} (T : Top hd.view_39 loose mean mg mb h₀) (X : (hd.heap_39 w.params).In h₀) (B : Below callerA h₀ [] h₀) {sc : Addr} {vals : List Value} {ns : List Int}
    (hL : h₀.IsList sc vals.toArray) (hI : IntsAre vals ns) (hz : ns.length ≤ 63) (F : Fr h₀ h₀.objs.size s.heap (fun x => List.lookup x [(Str.ofString "script", Value.ref sc)])) (N : News h₀ h₀.objs.size s.heap [])
    (hret : ∀ h' tk' m', Fr h₀ h₀.objs.size h' m' → Q (.ret (.bool true)) { s with heap := h', toks := tk' }) :
    wpAny (model PG w) (callerA.deeper (lawE h₀ fa ccd)) (execs hd.f_law.1.b (lawE h₀ fa ccd)) Q (fun e s' => wpAny (model PG w) (callerA.deeper (lawE h₀ fa ccd)) (leaving (lawE h₀ fa ccd) e) (fun _ s'' => E1 e s'') E2 s') s := by
  row_timed "" (first | (guard_target = wpAny _ _ (exec (Stmt.For (Expr.Name ..) (Expr.Call ..) ..) _) _ _ _; (k_here; k_dflt (refine For_invVF (by k_asm) (by exact rfl) (by exact rfl) ?_; k_whole))) | (guard_target = wpAny _ _ (eval (Expr.Dict [] [] _) _) _ _ _; (k_here; k_dflt (refine newDict_K (by k_asm) (by k_asm) (TopRead.nolimit (by k_asm)) ?_; k_whole); intro d'z h'z o'z F'z N'z l1z lo'z hs'z fs'z hi'z fi'z; (have l2z := fun p hp => Nat.ne_of_lt (l1z p hp)); (have l3z := l1z); (try k_lt l1z))) | (guard_target = wpAny _ _ (pyIter (Value.ref _)) _ _ _; ((with_reducible show wpAny _ _ (pyIter (Value.ref _)) (fun it s₂ => LoopAtV _ _ _ _ _ _ _ _ _ it s₂) _ _); k_dflt (refine iter_rangeUnr (n := 2) rfl (by with_reducible assumption) (by decide) (by decide) (by k_asm) (by k_asm) ?_; k_whole; intro i'z l1z; (have l2z := fun p hp => Nat.ne_of_lt (l1z p hp)); (have l3z := l1z); (try k_lt l1z); refine hold ?_))) | ((with_reducible show wpAny _ _ (execs (Stmt.For (Expr.Name (Str.ofString "go_of") _) _ _ _ _ :: _) _) _ _ _); refine hold ?_) | (guard_target = wpAny _ _ (call (Value.ref _) _) _ _ _; (first | (k_here; k_dflt (tbr_iter (use_types types_gives))) | (k_here; k_dflt (tbr_iter (use_exB (joined_callS ?_ ?_ ?_ ?_ ?_ ?_ ?_ ?_ ?_)))))))
  unfold Hold
  rename TypesAt _ _ _ _ => hT
  refine' RangeRest.succ (fun t1 h1 tk1 F1 N1 => ?_)
  refine' slot_turn T X B false ?hi ?hR ?hl ?k0 ?k1 ?y1 ?y2 ?y3 ?o1 ?o2 ?o3 ?o4 ?gI ?gH ?gE ?gO ?gS ?m1 ?m2 ?m3 ?m4 ?m5 ?m6 F1 N1 ?dH ?dE ?zH ?zE ?zO ?_
  case hi => with_reducible assumption
  case hR => kct_strs
  case hl => omega
  case k0 => omega
  case k1 => omega
  case y1 => kct_strs
  case y2 => kct_strs
  case y3 => with_reducible assumption
  case o1 => (with_reducible refine' lt_at ?h ?m; (case h => with_reducible assumption); (case m => kct_strs))
  case o2 => (with_reducible refine' lt_at ?h ?m; (case h => with_reducible assumption); (case m => kct_strs))
  case o3 => (with_reducible refine' lt_at ?h ?m; (case h => with_reducible assumption); (case m => kct_strs))
  case o4 => (with_reducible refine' lt_at ?h ?m; (case h => with_reducible assumption); (case m => kct_strs))
  case gI => first | k_all | fail "gI"
  case gH => first | k_all | fail "gH"
  case gE => first | k_all | fail "gE"
  case gO => first | k_all | fail "gO"
  case gS => first | k_all | fail "gS"
  case m1 => rfl
  case m2 => rfl
  case m3 => rfl
  case m4 => rfl
  case m5 => rfl
  case m6 => rfl
  case dH => with_reducible assumption
  case dE => with_reducible assumption
  case zH => exact Nat.zero_le _
  case zE => exact Nat.zero_le _
  case zO => exact Nat.zero_le _
  intro x0 p0 lo0 hi0 v0 tv0 t0 n0 on0 oE0 oH0 G0 m0 h0 tk0 F0 mh0 me0 mo0 mt0 ms0 N0 sub0 gI0 gH0 gE0 gO0 gS0 dH0 dE0 ob0 iv0 q1 q2 q3 q4
  refine' ⟨h0, tk0, m0, _, rfl, F0, N0, ?off, ?rest⟩
  case off => first | k_all | fail "off"
  case rest =>
  refine' RangeRest.succ (fun t1 h1 tk1 F1 N1 => ?_)
  rw [push1] at N1
  refine' slot_turn (b := true) (m := fun y => if y = Str.ofString "slot" then some (.int (0 + ((0 + 1 : Nat) : Int)) t1) else m0 y) T X B ?hi (sub0 _ ?hR) ?hl ?k0 ?k1 (sub0 _ ?y1) (sub0 _ ?y2) ?y3 ?o1 ?o2 ?o3 ?o4 gI0 gH0 gE0 gO0 gS0 ?m1 mh0 me0 mo0 mt0 ms0 F1 N1 dH0 dE0 ?zH ?zE ?zO ?_
  case hi => with_reducible assumption
  case hR => kct_strs
  case hl => omega
  case k0 => omega
  case k1 => omega
  case y1 => kct_strs
  case y2 => kct_strs
  case y3 => with_reducible assumption
  case o1 => (with_reducible refine' lt_at ?h ?m; (case h => with_reducible assumption); (case m => kct_strs))
  case o2 => (with_reducible refine' lt_at ?h ?m; (case h => with_reducible assumption); (case m => kct_strs))
  case o3 => (with_reducible refine' lt_at ?h ?m; (case h => with_reducible assumption); (case m => kct_strs))
  case o4 => (with_reducible refine' lt_at ?h ?m; (case h => with_reducible assumption); (case m => kct_strs))
  case m1 => rfl
  case zH => exact Nat.le_of_ble_eq_true rfl
  case zE => exact Nat.le_of_ble_eq_true rfl
  case zO => exact Nat.le_of_ble_eq_true rfl
  intro x1 p1 lo1 hi1 v1 tv1 t2 n1 on1 oE1 oH1 G1 m1 h2 tk2 F2 mh1 me1 mo1 mt1 ms1 N2 sub1 gI1 gH1 gE1 gO1 gS1 dH1 dE1 ob1 iv1 r1 r2 r3 r4
  rw [push2] at N2
  refine' ⟨h2, tk2, m1, _, rfl, F2, N2, ?off, ?rest⟩
  case off => first | k_all | fail "off"
  case rest =>
  refine' RangeRest.zero (fun h3 tk3 F3 N3 => ?_)
  have em := map5 mh1 me1 mo1 mt1 ms1
  rw [em] at F3
  have hT1 := ((hT.mono (by kp_flats : ∀ p ∈ _, p ∈ _)).mono sub0).mono sub1
  have hR1 := sub1 _ (sub0 _ (.head _))
  have hO := objs_of (n := on1) mo1 (ob0.mono sub1) ob1
  have hJ := joined_2 (w := w)
  clear F0 N0 F1 N1 F2 N2
  row_timed "" (first | (guard_target = wpAny _ _ (exec (Stmt.For (Expr.Name ..) (Expr.Call ..) ..) _) _ _ _; (k_here; k_dflt (refine For_invVF (by k_asm) (by exact rfl) (by exact rfl) ?_; k_whole))) | (guard_target = wpAny _ _ (eval (Expr.Dict [] [] _) _) _ _ _; (k_here; k_dflt (refine newDict_K (by k_asm) (by k_asm) (TopRead.nolimit (by k_asm)) ?_; k_whole); intro d'z h'z o'z F'z N'z l1z lo'z hs'z fs'z hi'z fi'z; (have l2z := fun p hp => Nat.ne_of_lt (l1z p hp)); (have l3z := l1z); (try k_lt l1z))) | (guard_target = wpAny _ _ (pyIter (Value.ref _)) _ _ _; ((with_reducible show wpAny _ _ (pyIter (Value.ref _)) (fun it s₂ => LoopAtV _ _ _ _ _ _ _ _ _ it s₂) _ _); k_dflt (refine iter_rangeUnr (n := 2) rfl (by with_reducible assumption) (by decide) (by decide) (by k_asm) (by k_asm) ?_; k_whole; intro i'z l1z; (have l2z := fun p hp => Nat.ne_of_lt (l1z p hp)); (have l3z := l1z); (try k_lt l1z); refine hold ?_))) | ((with_reducible show wpAny _ _ (execs (Stmt.For (Expr.Name (Str.ofString "go_of") _) _ _ _ _ :: _) _) _ _ _); refine hold ?_) | (guard_target = wpAny _ _ (call (Value.ref _) _) _ _ _; (first | (k_here; k_dflt (tbr_iter (use_types types_gives))) | (k_here; k_dflt (tbr_iter (use_exB (joined_callS ?_ ?_ ?_ ?_ ?_ ?_ ?_ ?_ ?_)))))))
  unfold Hold
  rename ExAt _ _ _ => hx9
  rename BoolAt _ _ => hb9
  rename CondP _ _ _ => hc9
  refine' law_y T X B (en := ⟨lo0, hi0, lo1, hi1⟩) (hv := ⟨v0, v1⟩) ?hi ?hR ?hl ?k0 ?k1 ?hT ?hO (hx9.mono ?s1) (hb9.mono ?s2) hc9 ?gS ?hE ?hH ?sm ?inn ?m1 ?m2 ?m3 ?m4 ?m5 ?m6 ?F ?N (fun h' tk' m' F' => hret h' tk' m' F')
  case F => k_asm
  case N => k_asm
  case hi => with_reducible assumption
  case hR => kct_strs
  case hl => omega
  case k0 => omega
  case k1 => omega
  case hT => exact hT1.mono (by kp_flats)
  case hO => exact hO.mono (by kp_flats)
  case s1 => kp_flats
  case s2 => kp_flats
  case gS => first | k_all | fail "gS"
  case hE => exact EnvAt.mk (by kct_strs) dE1 (by with_reducible assumption) ((iv0.mono sub1).mono (by kp_flats)) (iv1.mono (by kp_flats))
  case hH => exact HeldAt.mk (by kct_strs) dH1 (by with_reducible assumption)
  case sm =>
    refine ⟨?_, ?_, ?_, ?_⟩
    · show (-1000 : Int) ≤ lo0
      omega
    · show hi0 ≤ 1000
      omega
    · show (-1000 : Int) ≤ lo1
      omega
    · show hi1 ≤ 1000
      omega
  case inn => exact ⟨q2, q3, r2, r3⟩
  case m1 => rfl
  case m2 => rfl
  case m3 => rfl
  case m4 => rfl
  case m5 => rfl
  case m6 => rfl
local macro_rules | `(tactic| k_qdec) => `(tactic| decide +kernel)
theorem law_holds : PySem.Challenge.rw_rr0072_01.Holds := by
  refine hd ?_
  k_go0
  refine' law_x ?T ?X ?B ?hL ?hI ?hz ?F ?N ?hret
  case T => k_asm
  case X => k_asm
  case B => k_asm
  case hL => k_asm
  case hI => k_asm
  case hz => omega
  case F => k_asm
  case N => k_asm
  case hret =>
    intro h' tk' m' F'
    wrow_close
end Mine
theorem PySem.Challenge.cw_rr0072_01_holds : PySem.Challenge.rw_rr0072_01.Holds := by
  exact Mine.law_holds
