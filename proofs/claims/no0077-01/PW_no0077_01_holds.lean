import PyProof.Rows.All
import Wide.All
import OpenK.AllK
import Wide.FinOn
import KE.KPairTest
import KE.KSortTup
import Lean
import PySem.Challenge.RW_no0077_01
set_option Elab.async false
set_option maxRecDepth 100000
set_option linter.unusedVariables false
set_option linter.unusedSimpArgs false
set_option rowWalk.seconds 0
set_option compiler.extract_closed false
set_option genSizeOfSpec false
set_option genInjectivity false
section
open PySem PySem.W PySem.W.X PyProof.Rows
namespace Mine
noncomputable abbrev pg : Program := PySem.Challenge.rw_no0077_01.row.toRowW.1
def q0 : Pos := ⟨0, 0, 0, 0⟩
noncomputable def sT (i : Nat) : Stmt := (PySem.Challenge.pw_no0077_01.main.body[i]?).getD (.Pass q0)
noncomputable def sM (i j : Nat) : Stmt := match sT i with
  | .ClassDef _ _ _ b .. => (b[j]?).getD (.Pass q0)
  | _ => .Pass q0
def fnO (s : Stmt) (cls : Value) (qual : Str) (g : Addr) (dV kV doc pm cd ct : Value) (bn : Addr) : Obj := match s with
  | .FunctionDef name args body _ _ _ scope _ _ _ => ⟨cls, none, .func ⟨name, qual, args, .stmts body, scope, g, [], dV, kV, doc, pm, none, cd, ct, bn⟩, #[]⟩
  | _ => ⟨.none, none, .plain, #[]⟩
noncomputable def env0 : Env := { scope := pg.main.scope, locals := mainNs, globals := mainNs, cells := [], code := Value.ref 13, frame := some 14 }
noncomputable def bd0 : List Stmt := behindTheImports pg
noncomputable def cE : Code := Code.body bd0 env0
noncomputable def sts1 : List Stmt := bd0.take 20
noncomputable def sts2 : List Stmt := (bd0.drop 20).take 1
noncomputable def sts3 : List Stmt := bd0.drop 21
def qa : Pos := ⟨54, 0, 62, 46⟩
def qb : Pos := ⟨63, 0, 143, 18⟩
def qc : Pos := ⟨209, 0, 232, 86⟩
noncomputable def vw : Program := view PySem.Challenge.pw_no0077_01 [0, 2, 3, 4, 5, 6, 7, 8, 10, 11, 12, 13, 14, 16, 18, 19, 20, 22, 23, 24, 25, 26, 27, 28, 29, 30]
noncomputable def o_p_11 (P : Params) : Obj := ⟨(.type "tuple"), none, (.seq #[] 0), #[]⟩
noncomputable def o_p_12 (P : Params) : Obj := ⟨.none, none, (.fields #[]), #[]⟩
noncomputable def o_p_13 (P : Params) : Obj := ⟨(.type "code"), none, (.fields #[(.str (Str.ofString "<module>") 182), (.str (Str.ofString "<module>") 183), (.str (Str.ofString "/claim/cut.py") 184), (.int 1 0), (.int 0 0), (.int 0 0), (.int 0 0), (.int 0 0), (.ref 11), (.bool false), (.int 181 0), (.ref 12), .none, .none, .none, .none, (.int 185 0), (.int 1 0), (.str (Str.ofString "/claim/cut.py") 186)]), #[]⟩
noncomputable def o_p_14 (P : Params) : Obj := ⟨(.type "frame"), none, .plain, #[(some (.ref 13)), (some (.ref 3)), (some (.ref 3)), none, (some (.str (Str.ofString "__main__") 164)), none, (some (.ref 0))]⟩
noncomputable def tr_p (P : Params) : BT := (.node (boot_o_0 P) (.node (boot_o_1 P) (.node (boot_o_3 P) (.node (boot_o_7 P) .nil .nil) (.node (o_p_11 P) .nil .nil)) (.node (boot_o_5 P) (.node (boot_o_9 P) .nil .nil) (.node (o_p_13 P) .nil .nil))) (.node (boot_o_2 P) (.node (boot_o_4 P) (.node (boot_o_8 P) .nil .nil) (.node (o_p_12 P) .nil .nil)) (.node (boot_o_6 P) (.node (boot_o_10 P) .nil .nil) (.node (o_p_14 P) .nil .nil))))
noncomputable def o_c19_3 (P : Params) : Obj := ⟨(.type "dict"), none, (.dict #[⟨PyData.keyHash P (Str.ofString "__name__"), (.str (Str.ofString "__name__") 165), (.str (Str.ofString "quic.spaces") 304)⟩, ⟨PyData.keyHash P (Str.ofString "__doc__"), (.str (Str.ofString "__doc__") 166), .none⟩, ⟨PyData.keyHash P (Str.ofString "__package__"), (.str (Str.ofString "__package__") 167), .none⟩, ⟨PyData.keyHash P (Str.ofString "__loader__"), (.str (Str.ofString "__loader__") 168), (.builtin "__main__.__loader__#opaque")⟩, ⟨PyData.keyHash P (Str.ofString "__spec__"), (.str (Str.ofString "__spec__") 169), .none⟩, ⟨PyData.keyHash P (Str.ofString "__annotations__"), (.str (Str.ofString "__annotations__") 170), (.ref 6)⟩, ⟨PyData.keyHash P (Str.ofString "__builtins__"), (.str (Str.ofString "__builtins__") 171), (.ref 4)⟩, ⟨PyData.keyHash P (Str.ofString "__file__"), (.str (Str.ofString "__file__") 173), (.str (Str.ofString "/claim/cut.py") 172)⟩, ⟨PyData.keyHash P (Str.ofString "__cached__"), (.str (Str.ofString "__cached__") 174), .none⟩, ⟨PyData.keyHash P (Str.ofString "_wall"), (.str (Str.ofString "_wall") 193), (.ref 21)⟩, ⟨PyData.keyHash P (Str.ofString "SPACE_ORDER"), (.str (Str.ofString "SPACE_ORDER") 199), (.ref 22)⟩, ⟨PyData.keyHash P (Str.ofString "probe_period"), (.str (Str.ofString "probe_period") 208), (.ref 29)⟩, ⟨PyData.keyHash P (Str.ofString "earliest_of"), (.str (Str.ofString "earliest_of") 218), (.ref 36)⟩, ⟨PyData.keyHash P (Str.ofString "probe_times"), (.str (Str.ofString "probe_times") 233), (.ref 43)⟩, ⟨PyData.keyHash P (Str.ofString "is_anything_asked"), (.str (Str.ofString "is_anything_asked") 239), (.ref 48)⟩, ⟨PyData.keyHash P (Str.ofString "probe_due"), (.str (Str.ofString "probe_due") 253), (.ref 55)⟩, ⟨PyData.keyHash P (Str.ofString "next_timer"), (.str (Str.ofString "next_timer") 263), (.ref 62)⟩, ⟨PyData.keyHash P (Str.ofString "NOT_ELICITING"), (.str (Str.ofString "NOT_ELICITING") 269), (.ref 63)⟩, ⟨PyData.keyHash P (Str.ofString "is_eliciting"), (.str (Str.ofString "is_eliciting") 276), (.ref 70)⟩, ⟨PyData.keyHash P (Str.ofString "counts_in_flight"), (.str (Str.ofString "counts_in_flight") 283), (.ref 77)⟩, ⟨PyData.keyHash P (Str.ofString "any_eliciting"), (.str (Str.ofString "any_eliciting") 289), (.ref 82)⟩, ⟨PyData.keyHash P (Str.ofString "any_in_flight"), (.str (Str.ofString "any_in_flight") 295), (.ref 87)⟩, ⟨PyData.keyHash P (Str.ofString "has_number"), (.str (Str.ofString "has_number") 303), (.ref 92)⟩, ⟨PyData.keyHash P (Str.ofString "KEPT_RANGES"), (.str (Str.ofString "KEPT_RANGES") 307), (.int 64 306)⟩, ⟨PyData.keyHash P (Str.ofString "SentPacket"), (.str (Str.ofString "SentPacket") 344), (.ref 109)⟩] 25), #[]⟩
noncomputable def o_c19_12 (P : Params) : Obj := ⟨.none, none, (.fields #[(.int 1 0), (.int 0 0), (.ref 20), (.int 6 0), (.int 0 0), (.ref 28), (.int 8 0), (.int 0 0), (.ref 35), (.int 15 0), (.int 0 0), (.ref 42), (.int 24 0), (.int 0 0), (.ref 47), (.int 26 0), (.int 0 0), (.ref 54), (.int 32 0), (.int 0 0), (.ref 61), (.int 41 0), (.int 0 0), (.ref 69), (.int 43 0), (.int 0 0), (.ref 76), (.int 45 0), (.int 0 0), (.ref 81), (.int 47 0), (.int 0 0), (.ref 86), (.int 50 0), (.int 0 0), (.ref 91), (.int 54 0), (.int 0 0), (.ref 98)]), #[]⟩
noncomputable def o_c19_15 (P : Params) : Obj := ⟨(.type "tuple"), none, (.seq #[] 0), #[]⟩
noncomputable def o_c19_16 (P : Params) : Obj := ⟨.none, none, (.fields #[]), #[]⟩
noncomputable def o_c19_17 (P : Params) : Obj := ⟨(.type "tuple"), none, (.seq #[(.str (Str.ofString "k") 190)] 0), #[]⟩
noncomputable def o_c19_18 (P : Params) : Obj := ⟨(.type "tuple"), none, (.seq #[] 0), #[]⟩
noncomputable def o_c19_19 (P : Params) : Obj := fnO (sT 0) .none (Str.ofString "_wall") 0 .none .none .none .none .none .none 0
noncomputable def o_c19_20 (P : Params) : Obj := ⟨(.type "code"), none, (.fields #[(.str (Str.ofString "_wall") 187), (.str (Str.ofString "_wall") 188), (.str (Str.ofString "/claim/cut.py") 189), (.int 1 0), (.int 1 0), (.int 0 0), (.int 0 0), (.int 3 0), (.ref 15), (.bool true), (.int 181 0), (.ref 16), .none, (.ref 17), (.ref 18), (.ref 19), (.int 191 0), (.int 1 0), (.str (Str.ofString "/claim/cut.py") 192)]), #[]⟩
noncomputable def o_c19_21 (P : Params) : Obj := fnO (sT 0) (.type "function") (Str.ofString "_wall") 3 .none .none .none (.str (Str.ofString "__main__") 164) (.ref 20) .none 0
noncomputable def o_c19_22 (P : Params) : Obj := ⟨(.type "tuple"), none, (.seq #[(.str (Str.ofString "initial") 196), (.str (Str.ofString "handshake") 197), (.str (Str.ofString "application") 198)] 0), #[]⟩
noncomputable def o_c19_23 (P : Params) : Obj := ⟨(.type "tuple"), none, (.seq #[] 0), #[]⟩
noncomputable def o_c19_24 (P : Params) : Obj := ⟨.none, none, (.fields #[]), #[]⟩
noncomputable def o_c19_25 (P : Params) : Obj := ⟨(.type "tuple"), none, (.seq #[(.str (Str.ofString "base") 203), (.str (Str.ofString "most_delay") 204), (.str (Str.ofString "count") 205)] 0), #[]⟩
noncomputable def o_c19_26 (P : Params) : Obj := ⟨(.type "tuple"), none, (.seq #[] 0), #[]⟩
noncomputable def o_c19_27 (P : Params) : Obj := fnO (sT 3) .none (Str.ofString "probe_period") 0 .none .none .none .none .none .none 0
noncomputable def o_c19_28 (P : Params) : Obj := ⟨(.type "code"), none, (.fields #[(.str (Str.ofString "probe_period") 200), (.str (Str.ofString "probe_period") 201), (.str (Str.ofString "/claim/cut.py") 202), (.int 6 0), (.int 3 0), (.int 0 0), (.int 0 0), (.int 3 0), (.ref 23), (.bool true), (.int 181 0), (.ref 24), .none, (.ref 25), (.ref 26), (.ref 27), (.int 206 0), (.int 6 0), (.str (Str.ofString "/claim/cut.py") 207)]), #[]⟩
noncomputable def o_c19_29 (P : Params) : Obj := fnO (sT 3) (.type "function") (Str.ofString "probe_period") 3 .none .none .none (.str (Str.ofString "quic.pto") 194) (.ref 28) .none 0
noncomputable def o_c19_30 (P : Params) : Obj := ⟨(.type "tuple"), none, (.seq #[] 0), #[]⟩
noncomputable def o_c19_31 (P : Params) : Obj := ⟨.none, none, (.fields #[]), #[]⟩
noncomputable def o_c19_32 (P : Params) : Obj := ⟨(.type "tuple"), none, (.seq #[(.str (Str.ofString "times") 212), (.str (Str.ofString "found") 213), (.str (Str.ofString "space") 214), (.str (Str.ofString "told") 215)] 0), #[]⟩
noncomputable def o_c19_33 (P : Params) : Obj := ⟨(.type "tuple"), none, (.seq #[] 0), #[]⟩
noncomputable def o_c19_34 (P : Params) : Obj := fnO (sT 4) .none (Str.ofString "earliest_of") 0 .none .none .none .none .none .none 0
noncomputable def o_c19_35 (P : Params) : Obj := ⟨(.type "code"), none, (.fields #[(.str (Str.ofString "earliest_of") 209), (.str (Str.ofString "earliest_of") 210), (.str (Str.ofString "/claim/cut.py") 211), (.int 8 0), (.int 1 0), (.int 0 0), (.int 0 0), (.int 3 0), (.ref 30), (.bool true), (.int 181 0), (.ref 31), .none, (.ref 32), (.ref 33), (.ref 34), (.int 216 0), (.int 8 0), (.str (Str.ofString "/claim/cut.py") 217)]), #[]⟩
noncomputable def o_c19_36 (P : Params) : Obj := fnO (sT 4) (.type "function") (Str.ofString "earliest_of") 3 .none .none .none (.str (Str.ofString "quic.pto") 194) (.ref 35) .none 0
noncomputable def o_c19_37 (P : Params) : Obj := ⟨(.type "tuple"), none, (.seq #[] 0), #[]⟩
noncomputable def o_c19_38 (P : Params) : Obj := ⟨.none, none, (.fields #[]), #[]⟩
noncomputable def o_c19_39 (P : Params) : Obj := ⟨(.type "tuple"), none, (.seq #[(.str (Str.ofString "last_asked") 222), (.str (Str.ofString "base") 223), (.str (Str.ofString "most_delay") 224), (.str (Str.ofString "count") 225), (.str (Str.ofString "is_confirmed") 226), (.str (Str.ofString "found") 227), (.str (Str.ofString "space") 228), (.str (Str.ofString "sent_at") 229), (.str (Str.ofString "delay") 230)] 0), #[]⟩
noncomputable def o_c19_40 (P : Params) : Obj := ⟨(.type "tuple"), none, (.seq #[] 0), #[]⟩
noncomputable def o_c19_41 (P : Params) : Obj := fnO (sT 5) .none (Str.ofString "probe_times") 0 .none .none .none .none .none .none 0
noncomputable def o_c19_42 (P : Params) : Obj := ⟨(.type "code"), none, (.fields #[(.str (Str.ofString "probe_times") 219), (.str (Str.ofString "probe_times") 220), (.str (Str.ofString "/claim/cut.py") 221), (.int 15 0), (.int 5 0), (.int 0 0), (.int 0 0), (.int 3 0), (.ref 37), (.bool true), (.int 181 0), (.ref 38), .none, (.ref 39), (.ref 40), (.ref 41), (.int 231 0), (.int 15 0), (.str (Str.ofString "/claim/cut.py") 232)]), #[]⟩
noncomputable def o_c19_43 (P : Params) : Obj := fnO (sT 5) (.type "function") (Str.ofString "probe_times") 3 .none .none .none (.str (Str.ofString "quic.pto") 194) (.ref 42) .none 0
noncomputable def o_c19_44 (P : Params) : Obj := ⟨(.type "tuple"), none, (.seq #[] 0), #[]⟩
noncomputable def o_c19_45 (P : Params) : Obj := ⟨.none, none, (.fields #[]), #[]⟩
noncomputable def o_c19_46 (P : Params) : Obj := fnO (sT 6) .none (Str.ofString "is_anything_asked") 0 .none .none .none .none .none .none 0
noncomputable def o_c19_47 (P : Params) : Obj := ⟨(.type "code"), none, (.fields #[(.str (Str.ofString "is_anything_asked") 234), (.str (Str.ofString "is_anything_asked") 235), (.str (Str.ofString "/claim/cut.py") 236), (.int 24 0), (.int 1 0), (.int 0 0), (.int 0 0), (.int 3 0), (.ref 44), (.bool true), (.int 181 0), (.ref 45), .none, .none, .none, (.ref 46), (.int 237 0), (.int 24 0), (.str (Str.ofString "/claim/cut.py") 238)]), #[]⟩
noncomputable def o_c19_48 (P : Params) : Obj := fnO (sT 6) (.type "function") (Str.ofString "is_anything_asked") 3 .none .none .none (.str (Str.ofString "quic.pto") 194) (.ref 47) .none 0
noncomputable def o_c19_49 (P : Params) : Obj := ⟨(.type "tuple"), none, (.seq #[] 0), #[]⟩
noncomputable def o_c19_50 (P : Params) : Obj := ⟨.none, none, (.fields #[]), #[]⟩
noncomputable def o_c19_51 (P : Params) : Obj := ⟨(.type "tuple"), none, (.seq #[(.str (Str.ofString "last_asked") 243), (.str (Str.ofString "base") 244), (.str (Str.ofString "most_delay") 245), (.str (Str.ofString "count") 246), (.str (Str.ofString "is_confirmed") 247), (.str (Str.ofString "is_validated") 248), (.str (Str.ofString "has_handshake_keys") 249), (.str (Str.ofString "now") 250)] 0), #[]⟩
noncomputable def o_c19_52 (P : Params) : Obj := ⟨(.type "tuple"), none, (.seq #[] 0), #[]⟩
noncomputable def o_c19_53 (P : Params) : Obj := fnO (sT 7) .none (Str.ofString "probe_due") 0 .none .none .none .none .none .none 0
noncomputable def o_c19_54 (P : Params) : Obj := ⟨(.type "code"), none, (.fields #[(.str (Str.ofString "probe_due") 240), (.str (Str.ofString "probe_due") 241), (.str (Str.ofString "/claim/cut.py") 242), (.int 26 0), (.int 8 0), (.int 0 0), (.int 0 0), (.int 3 0), (.ref 49), (.bool true), (.int 181 0), (.ref 50), .none, (.ref 51), (.ref 52), (.ref 53), (.int 251 0), (.int 26 0), (.str (Str.ofString "/claim/cut.py") 252)]), #[]⟩
noncomputable def o_c19_55 (P : Params) : Obj := fnO (sT 7) (.type "function") (Str.ofString "probe_due") 3 .none .none .none (.str (Str.ofString "quic.pto") 194) (.ref 54) .none 0
noncomputable def o_c19_56 (P : Params) : Obj := ⟨(.type "tuple"), none, (.seq #[] 0), #[]⟩
noncomputable def o_c19_57 (P : Params) : Obj := ⟨.none, none, (.fields #[]), #[]⟩
noncomputable def o_c19_58 (P : Params) : Obj := ⟨(.type "tuple"), none, (.seq #[(.str (Str.ofString "loss_times") 257), (.str (Str.ofString "told_probe") 258), (.str (Str.ofString "is_blocked") 259), (.str (Str.ofString "told") 260)] 0), #[]⟩
noncomputable def o_c19_59 (P : Params) : Obj := ⟨(.type "tuple"), none, (.seq #[] 0), #[]⟩
noncomputable def o_c19_60 (P : Params) : Obj := fnO (sT 8) .none (Str.ofString "next_timer") 0 .none .none .none .none .none .none 0
noncomputable def o_c19_61 (P : Params) : Obj := ⟨(.type "code"), none, (.fields #[(.str (Str.ofString "next_timer") 254), (.str (Str.ofString "next_timer") 255), (.str (Str.ofString "/claim/cut.py") 256), (.int 32 0), (.int 3 0), (.int 0 0), (.int 0 0), (.int 3 0), (.ref 56), (.bool true), (.int 181 0), (.ref 57), .none, (.ref 58), (.ref 59), (.ref 60), (.int 261 0), (.int 32 0), (.str (Str.ofString "/claim/cut.py") 262)]), #[]⟩
noncomputable def o_c19_62 (P : Params) : Obj := fnO (sT 8) (.type "function") (Str.ofString "next_timer") 3 .none .none .none (.str (Str.ofString "quic.pto") 194) (.ref 61) .none 0
noncomputable def o_c19_63 (P : Params) : Obj := ⟨(.type "tuple"), none, (.seq #[(.str (Str.ofString "ack") 266), (.str (Str.ofString "padding") 267), (.str (Str.ofString "close") 268)] 0), #[]⟩
noncomputable def o_c19_64 (P : Params) : Obj := ⟨(.type "tuple"), none, (.seq #[] 0), #[]⟩
noncomputable def o_c19_65 (P : Params) : Obj := ⟨.none, none, (.fields #[]), #[]⟩
noncomputable def o_c19_66 (P : Params) : Obj := ⟨(.type "tuple"), none, (.seq #[(.str (Str.ofString "f") 273)] 0), #[]⟩
noncomputable def o_c19_67 (P : Params) : Obj := ⟨(.type "tuple"), none, (.seq #[] 0), #[]⟩
noncomputable def o_c19_68 (P : Params) : Obj := fnO (sT 11) .none (Str.ofString "is_eliciting") 0 .none .none .none .none .none .none 0
noncomputable def o_c19_69 (P : Params) : Obj := ⟨(.type "code"), none, (.fields #[(.str (Str.ofString "is_eliciting") 270), (.str (Str.ofString "is_eliciting") 271), (.str (Str.ofString "/claim/cut.py") 272), (.int 41 0), (.int 1 0), (.int 0 0), (.int 0 0), (.int 3 0), (.ref 64), (.bool true), (.int 181 0), (.ref 65), .none, (.ref 66), (.ref 67), (.ref 68), (.int 274 0), (.int 41 0), (.str (Str.ofString "/claim/cut.py") 275)]), #[]⟩
noncomputable def o_c19_70 (P : Params) : Obj := fnO (sT 11) (.type "function") (Str.ofString "is_eliciting") 3 .none .none .none (.str (Str.ofString "quic.framerules") 264) (.ref 69) .none 0
noncomputable def o_c19_71 (P : Params) : Obj := ⟨(.type "tuple"), none, (.seq #[] 0), #[]⟩
noncomputable def o_c19_72 (P : Params) : Obj := ⟨.none, none, (.fields #[]), #[]⟩
noncomputable def o_c19_73 (P : Params) : Obj := ⟨(.type "tuple"), none, (.seq #[(.str (Str.ofString "f") 280)] 0), #[]⟩
noncomputable def o_c19_74 (P : Params) : Obj := ⟨(.type "tuple"), none, (.seq #[] 0), #[]⟩
noncomputable def o_c19_75 (P : Params) : Obj := fnO (sT 12) .none (Str.ofString "counts_in_flight") 0 .none .none .none .none .none .none 0
noncomputable def o_c19_76 (P : Params) : Obj := ⟨(.type "code"), none, (.fields #[(.str (Str.ofString "counts_in_flight") 277), (.str (Str.ofString "counts_in_flight") 278), (.str (Str.ofString "/claim/cut.py") 279), (.int 43 0), (.int 1 0), (.int 0 0), (.int 0 0), (.int 3 0), (.ref 71), (.bool true), (.int 181 0), (.ref 72), .none, (.ref 73), (.ref 74), (.ref 75), (.int 281 0), (.int 43 0), (.str (Str.ofString "/claim/cut.py") 282)]), #[]⟩
noncomputable def o_c19_77 (P : Params) : Obj := fnO (sT 12) (.type "function") (Str.ofString "counts_in_flight") 3 .none .none .none (.str (Str.ofString "quic.framerules") 264) (.ref 76) .none 0
noncomputable def o_c19_78 (P : Params) : Obj := ⟨(.type "tuple"), none, (.seq #[] 0), #[]⟩
noncomputable def o_c19_79 (P : Params) : Obj := ⟨.none, none, (.fields #[]), #[]⟩
noncomputable def o_c19_80 (P : Params) : Obj := fnO (sT 13) .none (Str.ofString "any_eliciting") 0 .none .none .none .none .none .none 0
noncomputable def o_c19_81 (P : Params) : Obj := ⟨(.type "code"), none, (.fields #[(.str (Str.ofString "any_eliciting") 284), (.str (Str.ofString "any_eliciting") 285), (.str (Str.ofString "/claim/cut.py") 286), (.int 45 0), (.int 1 0), (.int 0 0), (.int 0 0), (.int 3 0), (.ref 78), (.bool true), (.int 181 0), (.ref 79), .none, .none, .none, (.ref 80), (.int 287 0), (.int 45 0), (.str (Str.ofString "/claim/cut.py") 288)]), #[]⟩
noncomputable def o_c19_82 (P : Params) : Obj := fnO (sT 13) (.type "function") (Str.ofString "any_eliciting") 3 .none .none .none (.str (Str.ofString "quic.framerules") 264) (.ref 81) .none 0
noncomputable def o_c19_83 (P : Params) : Obj := ⟨(.type "tuple"), none, (.seq #[] 0), #[]⟩
noncomputable def o_c19_84 (P : Params) : Obj := ⟨.none, none, (.fields #[]), #[]⟩
noncomputable def o_c19_85 (P : Params) : Obj := fnO (sT 14) .none (Str.ofString "any_in_flight") 0 .none .none .none .none .none .none 0
noncomputable def o_c19_86 (P : Params) : Obj := ⟨(.type "code"), none, (.fields #[(.str (Str.ofString "any_in_flight") 290), (.str (Str.ofString "any_in_flight") 291), (.str (Str.ofString "/claim/cut.py") 292), (.int 47 0), (.int 1 0), (.int 0 0), (.int 0 0), (.int 3 0), (.ref 83), (.bool true), (.int 181 0), (.ref 84), .none, .none, .none, (.ref 85), (.int 293 0), (.int 47 0), (.str (Str.ofString "/claim/cut.py") 294)]), #[]⟩
noncomputable def o_c19_87 (P : Params) : Obj := fnO (sT 14) (.type "function") (Str.ofString "any_in_flight") 3 .none .none .none (.str (Str.ofString "quic.framerules") 264) (.ref 86) .none 0
noncomputable def o_c19_88 (P : Params) : Obj := ⟨(.type "tuple"), none, (.seq #[] 0), #[]⟩
noncomputable def o_c19_89 (P : Params) : Obj := ⟨.none, none, (.fields #[]), #[]⟩
noncomputable def o_c19_90 (P : Params) : Obj := fnO (sT 16) .none (Str.ofString "has_number") 0 .none .none .none .none .none .none 0
noncomputable def o_c19_91 (P : Params) : Obj := ⟨(.type "code"), none, (.fields #[(.str (Str.ofString "has_number") 298), (.str (Str.ofString "has_number") 299), (.str (Str.ofString "/claim/cut.py") 300), (.int 50 0), (.int 2 0), (.int 0 0), (.int 0 0), (.int 3 0), (.ref 88), (.bool true), (.int 181 0), (.ref 89), .none, .none, .none, (.ref 90), (.int 301 0), (.int 50 0), (.str (Str.ofString "/claim/cut.py") 302)]), #[]⟩
noncomputable def o_c19_92 (P : Params) : Obj := fnO (sT 16) (.type "function") (Str.ofString "has_number") 3 .none .none .none (.str (Str.ofString "quic.ranges") 296) (.ref 91) .none 0
noncomputable def o_c19_93 (P : Params) : Obj := ⟨(.type "tuple"), none, (.seq #[] 0), #[]⟩
noncomputable def o_c19_94 (P : Params) : Obj := ⟨(.type "builtin_function_or_method"), none, (.fields #[(.builtin "type.__prepare__"), (.type "type")]), #[]⟩
noncomputable def o_c19_95 (P : Params) : Obj := ⟨(.type "dict"), none, (.dict #[⟨PyData.keyHash P (Str.ofString "__module__"), (.str (Str.ofString "__module__") 315), (.str (Str.ofString "quic.spaces") 304)⟩, ⟨PyData.keyHash P (Str.ofString "__qualname__"), (.str (Str.ofString "__qualname__") 317), (.str (Str.ofString "SentPacket") 316)⟩, ⟨PyData.keyHash P (Str.ofString "__firstlineno__"), (.str (Str.ofString "__firstlineno__") 319), (.int 54 318)⟩, ⟨PyData.keyHash P (Str.ofString "__init__"), (.str (Str.ofString "__init__") 330), (.ref 106)⟩, ⟨PyData.keyHash P (Str.ofString "__static_attributes__"), (.str (Str.ofString "__static_attributes__") 337), (.ref 107)⟩] 5), #[]⟩
noncomputable def o_c19_96 (P : Params) : Obj := ⟨(.type "tuple"), none, (.seq #[] 0), #[]⟩
noncomputable def o_c19_97 (P : Params) : Obj := ⟨.none, none, (.fields #[(.int 56 0), (.int 4 0), (.ref 105)]), #[]⟩
noncomputable def o_c19_98 (P : Params) : Obj := ⟨(.type "code"), none, (.fields #[(.str (Str.ofString "SentPacket") 310), (.str (Str.ofString "SentPacket") 311), (.str (Str.ofString "/claim/cut.py") 312), (.int 54 0), (.int 0 0), (.int 0 0), (.int 0 0), (.int 0 0), (.ref 96), (.bool false), (.int 181 0), (.ref 97), .none, .none, .none, .none, (.int 313 0), (.int 54 0), (.str (Str.ofString "/claim/cut.py") 314)]), #[]⟩
noncomputable def o_c19_99 (P : Params) : Obj := ⟨(.type "frame"), none, .plain, #[(some (.ref 98)), (some (.ref 3)), (some (.ref 95)), none, (some (.str (Str.ofString "quic.spaces") 304)), none, (some (.ref 0))]⟩
noncomputable def o_c19_100 (P : Params) : Obj := ⟨(.type "tuple"), none, (.seq #[] 0), #[]⟩
noncomputable def o_c19_101 (P : Params) : Obj := ⟨.none, none, (.fields #[]), #[]⟩
noncomputable def o_c19_102 (P : Params) : Obj := ⟨(.type "tuple"), none, (.seq #[(.str (Str.ofString "self") 323), (.str (Str.ofString "number") 324), (.str (Str.ofString "time") 325), (.str (Str.ofString "size") 326), (.str (Str.ofString "frames") 327)] 0), #[]⟩
noncomputable def o_c19_103 (P : Params) : Obj := ⟨(.type "tuple"), none, (.seq #[] 0), #[]⟩
noncomputable def o_c19_104 (P : Params) : Obj := fnO (sM 19 0) .none (Str.ofString "SentPacket.__init__") 0 .none .none .none .none .none .none 0
noncomputable def o_c19_105 (P : Params) : Obj := ⟨(.type "code"), none, (.fields #[(.str (Str.ofString "__init__") 320), (.str (Str.ofString "SentPacket.__init__") 321), (.str (Str.ofString "/claim/cut.py") 322), (.int 56 0), (.int 5 0), (.int 0 0), (.int 0 0), (.int 3 0), (.ref 100), (.bool true), (.int 181 0), (.ref 101), .none, (.ref 102), (.ref 103), (.ref 104), (.int 328 0), (.int 56 0), (.str (Str.ofString "/claim/cut.py") 329)]), #[]⟩
noncomputable def o_c19_106 (P : Params) : Obj := fnO (sM 19 0) (.type "function") (Str.ofString "SentPacket.__init__") 3 .none .none .none (.str (Str.ofString "quic.spaces") 304) (.ref 105) .none 0
noncomputable def o_c19_107 (P : Params) : Obj := ⟨(.type "tuple"), none, (.seq #[(.str (Str.ofString "frames") 331), (.str (Str.ofString "in_flight") 332), (.str (Str.ofString "is_eliciting") 333), (.str (Str.ofString "number") 334), (.str (Str.ofString "size") 335), (.str (Str.ofString "time") 336)] 0), #[]⟩
noncomputable def o_c19_108 (P : Params) : Obj := ⟨(.type "dict"), none, (.dict #[⟨PyData.keyHash P (Str.ofString "__module__"), (.str (Str.ofString "__module__") 315), (.str (Str.ofString "quic.spaces") 304)⟩, ⟨PyData.keyHash P (Str.ofString "__firstlineno__"), (.str (Str.ofString "__firstlineno__") 319), (.int 54 318)⟩, ⟨PyData.keyHash P (Str.ofString "__init__"), (.str (Str.ofString "__init__") 330), (.ref 106)⟩, ⟨PyData.keyHash P (Str.ofString "__static_attributes__"), (.str (Str.ofString "__static_attributes__") 337), (.ref 107)⟩, ⟨PyData.keyHash P (Str.ofString "__dict__"), (.str (Str.ofString "__dict__") 339), (.ref 110)⟩, ⟨PyData.keyHash P (Str.ofString "__weakref__"), (.str (Str.ofString "__weakref__") 341), (.ref 111)⟩, ⟨PyData.keyHash P (Str.ofString "__doc__"), (.str (Str.ofString "__doc__") 342), .none⟩] 4), #[]⟩
noncomputable def o_c19_109 (P : Params) : Obj := ⟨(.type "type"), none, (.cls ⟨(Str.ofString "SentPacket"), [(.type "object")], [(.ref 109), (.type "object")], 108, (Str.ofString "SentPacket"), true, [], [], false, none, false⟩), #[none, none, (some (.str (Str.ofString "SentPacket") 308)), (some (.str (Str.ofString "SentPacket") 316)), (some (.builtin "object.__new__")), (some (.bool true))]⟩
noncomputable def o_c19_110 (P : Params) : Obj := ⟨(.type "getset_descriptor"), none, (.fields #[(.str (Str.ofString "__dict__") 338), (.ref 109), (.builtin "function.__dict__"), (.builtin "function.__dict__#set")]), #[]⟩
noncomputable def o_c19_111 (P : Params) : Obj := ⟨(.type "getset_descriptor"), none, (.fields #[(.str (Str.ofString "__weakref__") 340), (.ref 109), (.builtin "ExceptionGroup.__weakref__"), .none]), #[]⟩
noncomputable def o_c19_112 (P : Params) : Obj := ⟨(.type "super"), none, (.fields #[(.ref 109), (.ref 109), (.ref 109)]), #[]⟩
noncomputable def o_c19_113 (P : Params) : Obj := ⟨(.type "builtin_function_or_method"), none, (.fields #[(.builtin "object.__init_subclass__"), (.ref 109)]), #[]⟩
noncomputable def tr_c19 (P : Params) : BT := (.node (boot_o_0 P) (.node (boot_o_1 P) (.node (o_c19_3 P) (.node (boot_o_7 P) (.node (o_c19_15 P) (.node (o_c19_31 P) (.node (o_c19_63 P) .nil .nil) (.node (o_c19_95 P) .nil .nil)) (.node (o_c19_47 P) (.node (o_c19_79 P) .nil .nil) (.node (o_c19_111 P) .nil .nil))) (.node (o_c19_23 P) (.node (o_c19_39 P) (.node (o_c19_71 P) .nil .nil) (.node (o_c19_103 P) .nil .nil)) (.node (o_c19_55 P) (.node (o_c19_87 P) .nil .nil) .nil))) (.node (o_p_11 P) (.node (o_c19_19 P) (.node (o_c19_35 P) (.node (o_c19_67 P) .nil .nil) (.node (o_c19_99 P) .nil .nil)) (.node (o_c19_51 P) (.node (o_c19_83 P) .nil .nil) .nil)) (.node (o_c19_27 P) (.node (o_c19_43 P) (.node (o_c19_75 P) .nil .nil) (.node (o_c19_107 P) .nil .nil)) (.node (o_c19_59 P) (.node (o_c19_91 P) .nil .nil) .nil)))) (.node (boot_o_5 P) (.node (boot_o_9 P) (.node (o_c19_17 P) (.node (o_c19_33 P) (.node (o_c19_65 P) .nil .nil) (.node (o_c19_97 P) .nil .nil)) (.node (o_c19_49 P) (.node (o_c19_81 P) .nil .nil) (.node (o_c19_113 P) .nil .nil))) (.node (o_c19_25 P) (.node (o_c19_41 P) (.node (o_c19_73 P) .nil .nil) (.node (o_c19_105 P) .nil .nil)) (.node (o_c19_57 P) (.node (o_c19_89 P) .nil .nil) .nil))) (.node (o_p_13 P) (.node (o_c19_21 P) (.node (o_c19_37 P) (.node (o_c19_69 P) .nil .nil) (.node (o_c19_101 P) .nil .nil)) (.node (o_c19_53 P) (.node (o_c19_85 P) .nil .nil) .nil)) (.node (o_c19_29 P) (.node (o_c19_45 P) (.node (o_c19_77 P) .nil .nil) (.node (o_c19_109 P) .nil .nil)) (.node (o_c19_61 P) (.node (o_c19_93 P) .nil .nil) .nil))))) (.node (boot_o_2 P) (.node (boot_o_4 P) (.node (boot_o_8 P) (.node (o_c19_16 P) (.node (o_c19_32 P) (.node (o_c19_64 P) .nil .nil) (.node (o_c19_96 P) .nil .nil)) (.node (o_c19_48 P) (.node (o_c19_80 P) .nil .nil) (.node (o_c19_112 P) .nil .nil))) (.node (o_c19_24 P) (.node (o_c19_40 P) (.node (o_c19_72 P) .nil .nil) (.node (o_c19_104 P) .nil .nil)) (.node (o_c19_56 P) (.node (o_c19_88 P) .nil .nil) .nil))) (.node (o_c19_12 P) (.node (o_c19_20 P) (.node (o_c19_36 P) (.node (o_c19_68 P) .nil .nil) (.node (o_c19_100 P) .nil .nil)) (.node (o_c19_52 P) (.node (o_c19_84 P) .nil .nil) .nil)) (.node (o_c19_28 P) (.node (o_c19_44 P) (.node (o_c19_76 P) .nil .nil) (.node (o_c19_108 P) .nil .nil)) (.node (o_c19_60 P) (.node (o_c19_92 P) .nil .nil) .nil)))) (.node (boot_o_6 P) (.node (boot_o_10 P) (.node (o_c19_18 P) (.node (o_c19_34 P) (.node (o_c19_66 P) .nil .nil) (.node (o_c19_98 P) .nil .nil)) (.node (o_c19_50 P) (.node (o_c19_82 P) .nil .nil) .nil)) (.node (o_c19_26 P) (.node (o_c19_42 P) (.node (o_c19_74 P) .nil .nil) (.node (o_c19_106 P) .nil .nil)) (.node (o_c19_58 P) (.node (o_c19_90 P) .nil .nil) .nil))) (.node (o_p_14 P) (.node (o_c19_22 P) (.node (o_c19_38 P) (.node (o_c19_70 P) .nil .nil) (.node (o_c19_102 P) .nil .nil)) (.node (o_c19_54 P) (.node (o_c19_86 P) .nil .nil) .nil)) (.node (o_c19_30 P) (.node (o_c19_46 P) (.node (o_c19_78 P) .nil .nil) (.node (o_c19_110 P) .nil .nil)) (.node (o_c19_62 P) (.node (o_c19_94 P) .nil .nil) .nil))))))
noncomputable def o_c20_3 (P : Params) : Obj := ⟨(.type "dict"), none, (.dict #[⟨PyData.keyHash P (Str.ofString "__name__"), (.str (Str.ofString "__name__") 165), (.str (Str.ofString "quic.spaces") 304)⟩, ⟨PyData.keyHash P (Str.ofString "__doc__"), (.str (Str.ofString "__doc__") 166), .none⟩, ⟨PyData.keyHash P (Str.ofString "__package__"), (.str (Str.ofString "__package__") 167), .none⟩, ⟨PyData.keyHash P (Str.ofString "__loader__"), (.str (Str.ofString "__loader__") 168), (.builtin "__main__.__loader__#opaque")⟩, ⟨PyData.keyHash P (Str.ofString "__spec__"), (.str (Str.ofString "__spec__") 169), .none⟩, ⟨PyData.keyHash P (Str.ofString "__annotations__"), (.str (Str.ofString "__annotations__") 170), (.ref 6)⟩, ⟨PyData.keyHash P (Str.ofString "__builtins__"), (.str (Str.ofString "__builtins__") 171), (.ref 4)⟩, ⟨PyData.keyHash P (Str.ofString "__file__"), (.str (Str.ofString "__file__") 173), (.str (Str.ofString "/claim/cut.py") 172)⟩, ⟨PyData.keyHash P (Str.ofString "__cached__"), (.str (Str.ofString "__cached__") 174), .none⟩, ⟨PyData.keyHash P (Str.ofString "_wall"), (.str (Str.ofString "_wall") 193), (.ref 21)⟩, ⟨PyData.keyHash P (Str.ofString "SPACE_ORDER"), (.str (Str.ofString "SPACE_ORDER") 199), (.ref 22)⟩, ⟨PyData.keyHash P (Str.ofString "probe_period"), (.str (Str.ofString "probe_period") 208), (.ref 29)⟩, ⟨PyData.keyHash P (Str.ofString "earliest_of"), (.str (Str.ofString "earliest_of") 218), (.ref 36)⟩, ⟨PyData.keyHash P (Str.ofString "probe_times"), (.str (Str.ofString "probe_times") 233), (.ref 43)⟩, ⟨PyData.keyHash P (Str.ofString "is_anything_asked"), (.str (Str.ofString "is_anything_asked") 239), (.ref 48)⟩, ⟨PyData.keyHash P (Str.ofString "probe_due"), (.str (Str.ofString "probe_due") 253), (.ref 55)⟩, ⟨PyData.keyHash P (Str.ofString "next_timer"), (.str (Str.ofString "next_timer") 263), (.ref 62)⟩, ⟨PyData.keyHash P (Str.ofString "NOT_ELICITING"), (.str (Str.ofString "NOT_ELICITING") 269), (.ref 63)⟩, ⟨PyData.keyHash P (Str.ofString "is_eliciting"), (.str (Str.ofString "is_eliciting") 276), (.ref 70)⟩, ⟨PyData.keyHash P (Str.ofString "counts_in_flight"), (.str (Str.ofString "counts_in_flight") 283), (.ref 77)⟩, ⟨PyData.keyHash P (Str.ofString "any_eliciting"), (.str (Str.ofString "any_eliciting") 289), (.ref 82)⟩, ⟨PyData.keyHash P (Str.ofString "any_in_flight"), (.str (Str.ofString "any_in_flight") 295), (.ref 87)⟩, ⟨PyData.keyHash P (Str.ofString "has_number"), (.str (Str.ofString "has_number") 303), (.ref 92)⟩, ⟨PyData.keyHash P (Str.ofString "KEPT_RANGES"), (.str (Str.ofString "KEPT_RANGES") 307), (.int 64 306)⟩, ⟨PyData.keyHash P (Str.ofString "SentPacket"), (.str (Str.ofString "SentPacket") 344), (.ref 109)⟩, ⟨PyData.keyHash P (Str.ofString "Space"), (.str (Str.ofString "Space") 505), (.ref 229)⟩] 26), #[]⟩
noncomputable def o_c20_12 (P : Params) : Obj := ⟨.none, none, (.fields #[(.int 1 0), (.int 0 0), (.ref 20), (.int 6 0), (.int 0 0), (.ref 28), (.int 8 0), (.int 0 0), (.ref 35), (.int 15 0), (.int 0 0), (.ref 42), (.int 24 0), (.int 0 0), (.ref 47), (.int 26 0), (.int 0 0), (.ref 54), (.int 32 0), (.int 0 0), (.ref 61), (.int 41 0), (.int 0 0), (.ref 69), (.int 43 0), (.int 0 0), (.ref 76), (.int 45 0), (.int 0 0), (.ref 81), (.int 47 0), (.int 0 0), (.ref 86), (.int 50 0), (.int 0 0), (.ref 91), (.int 54 0), (.int 0 0), (.ref 98), (.int 63 0), (.int 0 0), (.ref 119)]), #[]⟩
noncomputable def o_c20_114 (P : Params) : Obj := ⟨(.type "tuple"), none, (.seq #[] 0), #[]⟩
noncomputable def o_c20_115 (P : Params) : Obj := ⟨(.type "builtin_function_or_method"), none, (.fields #[(.builtin "type.__prepare__"), (.type "type")]), #[]⟩
noncomputable def o_c20_116 (P : Params) : Obj := ⟨(.type "dict"), none, (.dict #[⟨PyData.keyHash P (Str.ofString "__module__"), (.str (Str.ofString "__module__") 352), (.str (Str.ofString "quic.spaces") 304)⟩, ⟨PyData.keyHash P (Str.ofString "__qualname__"), (.str (Str.ofString "__qualname__") 354), (.str (Str.ofString "Space") 353)⟩, ⟨PyData.keyHash P (Str.ofString "__firstlineno__"), (.str (Str.ofString "__firstlineno__") 356), (.int 63 355)⟩, ⟨PyData.keyHash P (Str.ofString "__init__"), (.str (Str.ofString "__init__") 364), (.ref 127)⟩, ⟨PyData.keyHash P (Str.ofString "is_known"), (.str (Str.ofString "is_known") 372), (.ref 134)⟩, ⟨PyData.keyHash P (Str.ofString "on_received"), (.str (Str.ofString "on_received") 383), (.ref 141)⟩, ⟨PyData.keyHash P (Str.ofString "ack_frame"), (.str (Str.ofString "ack_frame") 392), (.ref 148)⟩, ⟨PyData.keyHash P (Str.ofString "on_ack_sent"), (.str (Str.ofString "on_ack_sent") 399), (.ref 155)⟩, ⟨PyData.keyHash P (Str.ofString "owes_ack"), (.str (Str.ofString "owes_ack") 406), (.ref 162)⟩, ⟨PyData.keyHash P (Str.ofString "take_number"), (.str (Str.ofString "take_number") 413), (.ref 169)⟩, ⟨PyData.keyHash P (Str.ofString "on_sent"), (.str (Str.ofString "on_sent") 425), (.ref 176)⟩, ⟨PyData.keyHash P (Str.ofString "take"), (.str (Str.ofString "take") 431), (.ref 181)⟩, ⟨PyData.keyHash P (Str.ofString "acked_by"), (.str (Str.ofString "acked_by") 439), (.ref 188)⟩, ⟨PyData.keyHash P (Str.ofString "is_beyond"), (.str (Str.ofString "is_beyond") 447), (.ref 195)⟩, ⟨PyData.keyHash P (Str.ofString "note_largest"), (.str (Str.ofString "note_largest") 455), (.ref 202)⟩, ⟨PyData.keyHash P (Str.ofString "eliciting_left"), (.str (Str.ofString "eliciting_left") 461), (.ref 207)⟩, ⟨PyData.keyHash P (Str.ofString "octets_out"), (.str (Str.ofString "octets_out") 467), (.ref 212)⟩, ⟨PyData.keyHash P (Str.ofString "sent_rows"), (.str (Str.ofString "sent_rows") 474), (.ref 219)⟩, ⟨PyData.keyHash P (Str.ofString "forget"), (.str (Str.ofString "forget") 482), (.ref 226)⟩, ⟨PyData.keyHash P (Str.ofString "__static_attributes__"), (.str (Str.ofString "__static_attributes__") 498), (.ref 227)⟩] 20), #[]⟩
noncomputable def o_c20_117 (P : Params) : Obj := ⟨(.type "tuple"), none, (.seq #[] 0), #[]⟩
noncomputable def o_c20_118 (P : Params) : Obj := ⟨.none, none, (.fields #[(.int 65 0), (.int 4 0), (.ref 126), (.int 82 0), (.int 4 0), (.ref 133), (.int 87 0), (.int 4 0), (.ref 140), (.int 90 0), (.int 4 0), (.ref 147), (.int 93 0), (.int 4 0), (.ref 154), (.int 99 0), (.int 4 0), (.ref 161), (.int 102 0), (.int 4 0), (.ref 168), (.int 106 0), (.int 4 0), (.ref 175), (.int 113 0), (.int 4 0), (.ref 180), (.int 117 0), (.int 4 0), (.ref 187), (.int 120 0), (.int 4 0), (.ref 194), (.int 123 0), (.int 4 0), (.ref 201), (.int 126 0), (.int 4 0), (.ref 206), (.int 129 0), (.int 4 0), (.ref 211), (.int 132 0), (.int 4 0), (.ref 218), (.int 135 0), (.int 4 0), (.ref 225)]), #[]⟩
noncomputable def o_c20_119 (P : Params) : Obj := ⟨(.type "code"), none, (.fields #[(.str (Str.ofString "Space") 347), (.str (Str.ofString "Space") 348), (.str (Str.ofString "/claim/cut.py") 349), (.int 63 0), (.int 0 0), (.int 0 0), (.int 0 0), (.int 0 0), (.ref 117), (.bool false), (.int 181 0), (.ref 118), .none, .none, .none, .none, (.int 350 0), (.int 63 0), (.str (Str.ofString "/claim/cut.py") 351)]), #[]⟩
noncomputable def o_c20_120 (P : Params) : Obj := ⟨(.type "frame"), none, .plain, #[(some (.ref 119)), (some (.ref 3)), (some (.ref 116)), none, (some (.str (Str.ofString "quic.spaces") 304)), none, (some (.ref 0))]⟩
noncomputable def o_c20_121 (P : Params) : Obj := ⟨(.type "tuple"), none, (.seq #[] 0), #[]⟩
noncomputable def o_c20_122 (P : Params) : Obj := ⟨.none, none, (.fields #[]), #[]⟩
noncomputable def o_c20_123 (P : Params) : Obj := ⟨(.type "tuple"), none, (.seq #[(.str (Str.ofString "self") 360), (.str (Str.ofString "name") 361)] 0), #[]⟩
noncomputable def o_c20_124 (P : Params) : Obj := ⟨(.type "tuple"), none, (.seq #[] 0), #[]⟩
noncomputable def o_c20_125 (P : Params) : Obj := fnO (sM 20 0) .none (Str.ofString "Space.__init__") 0 .none .none .none .none .none .none 0
noncomputable def o_c20_126 (P : Params) : Obj := ⟨(.type "code"), none, (.fields #[(.str (Str.ofString "__init__") 357), (.str (Str.ofString "Space.__init__") 358), (.str (Str.ofString "/claim/cut.py") 359), (.int 65 0), (.int 2 0), (.int 0 0), (.int 0 0), (.int 3 0), (.ref 121), (.bool true), (.int 181 0), (.ref 122), .none, (.ref 123), (.ref 124), (.ref 125), (.int 362 0), (.int 65 0), (.str (Str.ofString "/claim/cut.py") 363)]), #[]⟩
noncomputable def o_c20_127 (P : Params) : Obj := fnO (sM 20 0) (.type "function") (Str.ofString "Space.__init__") 3 .none .none .none (.str (Str.ofString "quic.spaces") 304) (.ref 126) .none 0
noncomputable def o_c20_128 (P : Params) : Obj := ⟨(.type "tuple"), none, (.seq #[] 0), #[]⟩
noncomputable def o_c20_129 (P : Params) : Obj := ⟨.none, none, (.fields #[]), #[]⟩
noncomputable def o_c20_130 (P : Params) : Obj := ⟨(.type "tuple"), none, (.seq #[(.str (Str.ofString "self") 368), (.str (Str.ofString "number") 369)] 0), #[]⟩
noncomputable def o_c20_131 (P : Params) : Obj := ⟨(.type "tuple"), none, (.seq #[] 0), #[]⟩
noncomputable def o_c20_132 (P : Params) : Obj := fnO (sM 20 1) .none (Str.ofString "Space.is_known") 0 .none .none .none .none .none .none 0
noncomputable def o_c20_133 (P : Params) : Obj := ⟨(.type "code"), none, (.fields #[(.str (Str.ofString "is_known") 365), (.str (Str.ofString "Space.is_known") 366), (.str (Str.ofString "/claim/cut.py") 367), (.int 82 0), (.int 2 0), (.int 0 0), (.int 0 0), (.int 3 0), (.ref 128), (.bool true), (.int 181 0), (.ref 129), .none, (.ref 130), (.ref 131), (.ref 132), (.int 370 0), (.int 82 0), (.str (Str.ofString "/claim/cut.py") 371)]), #[]⟩
noncomputable def o_c20_134 (P : Params) : Obj := fnO (sM 20 1) (.type "function") (Str.ofString "Space.is_known") 3 .none .none .none (.str (Str.ofString "quic.spaces") 304) (.ref 133) .none 0
noncomputable def o_c20_135 (P : Params) : Obj := ⟨(.type "tuple"), none, (.seq #[] 0), #[]⟩
noncomputable def o_c20_136 (P : Params) : Obj := ⟨.none, none, (.fields #[]), #[]⟩
noncomputable def o_c20_137 (P : Params) : Obj := ⟨(.type "tuple"), none, (.seq #[(.str (Str.ofString "self") 376), (.str (Str.ofString "number") 377), (.str (Str.ofString "now") 378), (.str (Str.ofString "has_eliciting") 379), (.str (Str.ofString "mark") 380)] 0), #[]⟩
noncomputable def o_c20_138 (P : Params) : Obj := ⟨(.type "tuple"), none, (.seq #[] 0), #[]⟩
noncomputable def o_c20_139 (P : Params) : Obj := fnO (sM 20 2) .none (Str.ofString "Space.on_received") 0 .none .none .none .none .none .none 0
noncomputable def o_c20_140 (P : Params) : Obj := ⟨(.type "code"), none, (.fields #[(.str (Str.ofString "on_received") 373), (.str (Str.ofString "Space.on_received") 374), (.str (Str.ofString "/claim/cut.py") 375), (.int 87 0), (.int 5 0), (.int 0 0), (.int 0 0), (.int 3 0), (.ref 135), (.bool true), (.int 181 0), (.ref 136), .none, (.ref 137), (.ref 138), (.ref 139), (.int 381 0), (.int 87 0), (.str (Str.ofString "/claim/cut.py") 382)]), #[]⟩
noncomputable def o_c20_141 (P : Params) : Obj := fnO (sM 20 2) (.type "function") (Str.ofString "Space.on_received") 3 .none .none .none (.str (Str.ofString "quic.spaces") 304) (.ref 140) .none 0
noncomputable def o_c20_142 (P : Params) : Obj := ⟨(.type "tuple"), none, (.seq #[] 0), #[]⟩
noncomputable def o_c20_143 (P : Params) : Obj := ⟨.none, none, (.fields #[]), #[]⟩
noncomputable def o_c20_144 (P : Params) : Obj := ⟨(.type "tuple"), none, (.seq #[(.str (Str.ofString "self") 387), (.str (Str.ofString "now") 388), (.str (Str.ofString "exponent") 389)] 0), #[]⟩
noncomputable def o_c20_145 (P : Params) : Obj := ⟨(.type "tuple"), none, (.seq #[] 0), #[]⟩
noncomputable def o_c20_146 (P : Params) : Obj := fnO (sM 20 3) .none (Str.ofString "Space.ack_frame") 0 .none .none .none .none .none .none 0
noncomputable def o_c20_147 (P : Params) : Obj := ⟨(.type "code"), none, (.fields #[(.str (Str.ofString "ack_frame") 384), (.str (Str.ofString "Space.ack_frame") 385), (.str (Str.ofString "/claim/cut.py") 386), (.int 90 0), (.int 3 0), (.int 0 0), (.int 0 0), (.int 3 0), (.ref 142), (.bool true), (.int 181 0), (.ref 143), .none, (.ref 144), (.ref 145), (.ref 146), (.int 390 0), (.int 90 0), (.str (Str.ofString "/claim/cut.py") 391)]), #[]⟩
noncomputable def o_c20_148 (P : Params) : Obj := fnO (sM 20 3) (.type "function") (Str.ofString "Space.ack_frame") 3 .none .none .none (.str (Str.ofString "quic.spaces") 304) (.ref 147) .none 0
noncomputable def o_c20_149 (P : Params) : Obj := ⟨(.type "tuple"), none, (.seq #[] 0), #[]⟩
noncomputable def o_c20_150 (P : Params) : Obj := ⟨.none, none, (.fields #[]), #[]⟩
noncomputable def o_c20_151 (P : Params) : Obj := ⟨(.type "tuple"), none, (.seq #[(.str (Str.ofString "self") 396)] 0), #[]⟩
noncomputable def o_c20_152 (P : Params) : Obj := ⟨(.type "tuple"), none, (.seq #[] 0), #[]⟩
noncomputable def o_c20_153 (P : Params) : Obj := fnO (sM 20 4) .none (Str.ofString "Space.on_ack_sent") 0 .none .none .none .none .none .none 0
noncomputable def o_c20_154 (P : Params) : Obj := ⟨(.type "code"), none, (.fields #[(.str (Str.ofString "on_ack_sent") 393), (.str (Str.ofString "Space.on_ack_sent") 394), (.str (Str.ofString "/claim/cut.py") 395), (.int 93 0), (.int 1 0), (.int 0 0), (.int 0 0), (.int 3 0), (.ref 149), (.bool true), (.int 181 0), (.ref 150), .none, (.ref 151), (.ref 152), (.ref 153), (.int 397 0), (.int 93 0), (.str (Str.ofString "/claim/cut.py") 398)]), #[]⟩
noncomputable def o_c20_155 (P : Params) : Obj := fnO (sM 20 4) (.type "function") (Str.ofString "Space.on_ack_sent") 3 .none .none .none (.str (Str.ofString "quic.spaces") 304) (.ref 154) .none 0
noncomputable def o_c20_156 (P : Params) : Obj := ⟨(.type "tuple"), none, (.seq #[] 0), #[]⟩
noncomputable def o_c20_157 (P : Params) : Obj := ⟨.none, none, (.fields #[]), #[]⟩
noncomputable def o_c20_158 (P : Params) : Obj := ⟨(.type "tuple"), none, (.seq #[(.str (Str.ofString "self") 403)] 0), #[]⟩
noncomputable def o_c20_159 (P : Params) : Obj := ⟨(.type "tuple"), none, (.seq #[] 0), #[]⟩
noncomputable def o_c20_160 (P : Params) : Obj := fnO (sM 20 5) .none (Str.ofString "Space.owes_ack") 0 .none .none .none .none .none .none 0
noncomputable def o_c20_161 (P : Params) : Obj := ⟨(.type "code"), none, (.fields #[(.str (Str.ofString "owes_ack") 400), (.str (Str.ofString "Space.owes_ack") 401), (.str (Str.ofString "/claim/cut.py") 402), (.int 99 0), (.int 1 0), (.int 0 0), (.int 0 0), (.int 3 0), (.ref 156), (.bool true), (.int 181 0), (.ref 157), .none, (.ref 158), (.ref 159), (.ref 160), (.int 404 0), (.int 99 0), (.str (Str.ofString "/claim/cut.py") 405)]), #[]⟩
noncomputable def o_c20_162 (P : Params) : Obj := fnO (sM 20 5) (.type "function") (Str.ofString "Space.owes_ack") 3 .none .none .none (.str (Str.ofString "quic.spaces") 304) (.ref 161) .none 0
noncomputable def o_c20_163 (P : Params) : Obj := ⟨(.type "tuple"), none, (.seq #[] 0), #[]⟩
noncomputable def o_c20_164 (P : Params) : Obj := ⟨.none, none, (.fields #[]), #[]⟩
noncomputable def o_c20_165 (P : Params) : Obj := ⟨(.type "tuple"), none, (.seq #[(.str (Str.ofString "self") 410)] 0), #[]⟩
noncomputable def o_c20_166 (P : Params) : Obj := ⟨(.type "tuple"), none, (.seq #[] 0), #[]⟩
noncomputable def o_c20_167 (P : Params) : Obj := fnO (sM 20 6) .none (Str.ofString "Space.take_number") 0 .none .none .none .none .none .none 0
noncomputable def o_c20_168 (P : Params) : Obj := ⟨(.type "code"), none, (.fields #[(.str (Str.ofString "take_number") 407), (.str (Str.ofString "Space.take_number") 408), (.str (Str.ofString "/claim/cut.py") 409), (.int 102 0), (.int 1 0), (.int 0 0), (.int 0 0), (.int 3 0), (.ref 163), (.bool true), (.int 181 0), (.ref 164), .none, (.ref 165), (.ref 166), (.ref 167), (.int 411 0), (.int 102 0), (.str (Str.ofString "/claim/cut.py") 412)]), #[]⟩
noncomputable def o_c20_169 (P : Params) : Obj := fnO (sM 20 6) (.type "function") (Str.ofString "Space.take_number") 3 .none .none .none (.str (Str.ofString "quic.spaces") 304) (.ref 168) .none 0
noncomputable def o_c20_170 (P : Params) : Obj := ⟨(.type "tuple"), none, (.seq #[] 0), #[]⟩
noncomputable def o_c20_171 (P : Params) : Obj := ⟨.none, none, (.fields #[]), #[]⟩
noncomputable def o_c20_172 (P : Params) : Obj := ⟨(.type "tuple"), none, (.seq #[(.str (Str.ofString "self") 417), (.str (Str.ofString "number") 418), (.str (Str.ofString "now") 419), (.str (Str.ofString "size") 420), (.str (Str.ofString "frames") 421), (.str (Str.ofString "packet") 422)] 0), #[]⟩
noncomputable def o_c20_173 (P : Params) : Obj := ⟨(.type "tuple"), none, (.seq #[] 0), #[]⟩
noncomputable def o_c20_174 (P : Params) : Obj := fnO (sM 20 7) .none (Str.ofString "Space.on_sent") 0 .none .none .none .none .none .none 0
noncomputable def o_c20_175 (P : Params) : Obj := ⟨(.type "code"), none, (.fields #[(.str (Str.ofString "on_sent") 414), (.str (Str.ofString "Space.on_sent") 415), (.str (Str.ofString "/claim/cut.py") 416), (.int 106 0), (.int 5 0), (.int 0 0), (.int 0 0), (.int 3 0), (.ref 170), (.bool true), (.int 181 0), (.ref 171), .none, (.ref 172), (.ref 173), (.ref 174), (.int 423 0), (.int 106 0), (.str (Str.ofString "/claim/cut.py") 424)]), #[]⟩
noncomputable def o_c20_176 (P : Params) : Obj := fnO (sM 20 7) (.type "function") (Str.ofString "Space.on_sent") 3 .none .none .none (.str (Str.ofString "quic.spaces") 304) (.ref 175) .none 0
noncomputable def o_c20_177 (P : Params) : Obj := ⟨(.type "tuple"), none, (.seq #[] 0), #[]⟩
noncomputable def o_c20_178 (P : Params) : Obj := ⟨.none, none, (.fields #[]), #[]⟩
noncomputable def o_c20_179 (P : Params) : Obj := fnO (sM 20 8) .none (Str.ofString "Space.take") 0 .none .none .none .none .none .none 0
noncomputable def o_c20_180 (P : Params) : Obj := ⟨(.type "code"), none, (.fields #[(.str (Str.ofString "take") 426), (.str (Str.ofString "Space.take") 427), (.str (Str.ofString "/claim/cut.py") 428), (.int 113 0), (.int 2 0), (.int 0 0), (.int 0 0), (.int 3 0), (.ref 177), (.bool true), (.int 181 0), (.ref 178), .none, .none, .none, (.ref 179), (.int 429 0), (.int 113 0), (.str (Str.ofString "/claim/cut.py") 430)]), #[]⟩
noncomputable def o_c20_181 (P : Params) : Obj := fnO (sM 20 8) (.type "function") (Str.ofString "Space.take") 3 .none .none .none (.str (Str.ofString "quic.spaces") 304) (.ref 180) .none 0
noncomputable def o_c20_182 (P : Params) : Obj := ⟨(.type "tuple"), none, (.seq #[] 0), #[]⟩
noncomputable def o_c20_183 (P : Params) : Obj := ⟨.none, none, (.fields #[]), #[]⟩
noncomputable def o_c20_184 (P : Params) : Obj := ⟨(.type "tuple"), none, (.seq #[(.str (Str.ofString "self") 435), (.str (Str.ofString "ranges") 436)] 0), #[]⟩
noncomputable def o_c20_185 (P : Params) : Obj := ⟨(.type "tuple"), none, (.seq #[] 0), #[]⟩
noncomputable def o_c20_186 (P : Params) : Obj := fnO (sM 20 9) .none (Str.ofString "Space.acked_by") 0 .none .none .none .none .none .none 0
noncomputable def o_c20_187 (P : Params) : Obj := ⟨(.type "code"), none, (.fields #[(.str (Str.ofString "acked_by") 432), (.str (Str.ofString "Space.acked_by") 433), (.str (Str.ofString "/claim/cut.py") 434), (.int 117 0), (.int 2 0), (.int 0 0), (.int 0 0), (.int 3 0), (.ref 182), (.bool true), (.int 181 0), (.ref 183), .none, (.ref 184), (.ref 185), (.ref 186), (.int 437 0), (.int 117 0), (.str (Str.ofString "/claim/cut.py") 438)]), #[]⟩
noncomputable def o_c20_188 (P : Params) : Obj := fnO (sM 20 9) (.type "function") (Str.ofString "Space.acked_by") 3 .none .none .none (.str (Str.ofString "quic.spaces") 304) (.ref 187) .none 0
noncomputable def o_c20_189 (P : Params) : Obj := ⟨(.type "tuple"), none, (.seq #[] 0), #[]⟩
noncomputable def o_c20_190 (P : Params) : Obj := ⟨.none, none, (.fields #[]), #[]⟩
noncomputable def o_c20_191 (P : Params) : Obj := ⟨(.type "tuple"), none, (.seq #[(.str (Str.ofString "self") 443), (.str (Str.ofString "ranges") 444)] 0), #[]⟩
noncomputable def o_c20_192 (P : Params) : Obj := ⟨(.type "tuple"), none, (.seq #[] 0), #[]⟩
noncomputable def o_c20_193 (P : Params) : Obj := fnO (sM 20 10) .none (Str.ofString "Space.is_beyond") 0 .none .none .none .none .none .none 0
noncomputable def o_c20_194 (P : Params) : Obj := ⟨(.type "code"), none, (.fields #[(.str (Str.ofString "is_beyond") 440), (.str (Str.ofString "Space.is_beyond") 441), (.str (Str.ofString "/claim/cut.py") 442), (.int 120 0), (.int 2 0), (.int 0 0), (.int 0 0), (.int 3 0), (.ref 189), (.bool true), (.int 181 0), (.ref 190), .none, (.ref 191), (.ref 192), (.ref 193), (.int 445 0), (.int 120 0), (.str (Str.ofString "/claim/cut.py") 446)]), #[]⟩
noncomputable def o_c20_195 (P : Params) : Obj := fnO (sM 20 10) (.type "function") (Str.ofString "Space.is_beyond") 3 .none .none .none (.str (Str.ofString "quic.spaces") 304) (.ref 194) .none 0
noncomputable def o_c20_196 (P : Params) : Obj := ⟨(.type "tuple"), none, (.seq #[] 0), #[]⟩
noncomputable def o_c20_197 (P : Params) : Obj := ⟨.none, none, (.fields #[]), #[]⟩
noncomputable def o_c20_198 (P : Params) : Obj := ⟨(.type "tuple"), none, (.seq #[(.str (Str.ofString "self") 451), (.str (Str.ofString "number") 452)] 0), #[]⟩
noncomputable def o_c20_199 (P : Params) : Obj := ⟨(.type "tuple"), none, (.seq #[] 0), #[]⟩
noncomputable def o_c20_200 (P : Params) : Obj := fnO (sM 20 11) .none (Str.ofString "Space.note_largest") 0 .none .none .none .none .none .none 0
noncomputable def o_c20_201 (P : Params) : Obj := ⟨(.type "code"), none, (.fields #[(.str (Str.ofString "note_largest") 448), (.str (Str.ofString "Space.note_largest") 449), (.str (Str.ofString "/claim/cut.py") 450), (.int 123 0), (.int 2 0), (.int 0 0), (.int 0 0), (.int 3 0), (.ref 196), (.bool true), (.int 181 0), (.ref 197), .none, (.ref 198), (.ref 199), (.ref 200), (.int 453 0), (.int 123 0), (.str (Str.ofString "/claim/cut.py") 454)]), #[]⟩
noncomputable def o_c20_202 (P : Params) : Obj := fnO (sM 20 11) (.type "function") (Str.ofString "Space.note_largest") 3 .none .none .none (.str (Str.ofString "quic.spaces") 304) (.ref 201) .none 0
noncomputable def o_c20_203 (P : Params) : Obj := ⟨(.type "tuple"), none, (.seq #[] 0), #[]⟩
noncomputable def o_c20_204 (P : Params) : Obj := ⟨.none, none, (.fields #[]), #[]⟩
noncomputable def o_c20_205 (P : Params) : Obj := fnO (sM 20 12) .none (Str.ofString "Space.eliciting_left") 0 .none .none .none .none .none .none 0
noncomputable def o_c20_206 (P : Params) : Obj := ⟨(.type "code"), none, (.fields #[(.str (Str.ofString "eliciting_left") 456), (.str (Str.ofString "Space.eliciting_left") 457), (.str (Str.ofString "/claim/cut.py") 458), (.int 126 0), (.int 1 0), (.int 0 0), (.int 0 0), (.int 3 0), (.ref 203), (.bool true), (.int 181 0), (.ref 204), .none, .none, .none, (.ref 205), (.int 459 0), (.int 126 0), (.str (Str.ofString "/claim/cut.py") 460)]), #[]⟩
noncomputable def o_c20_207 (P : Params) : Obj := fnO (sM 20 12) (.type "function") (Str.ofString "Space.eliciting_left") 3 .none .none .none (.str (Str.ofString "quic.spaces") 304) (.ref 206) .none 0
noncomputable def o_c20_208 (P : Params) : Obj := ⟨(.type "tuple"), none, (.seq #[] 0), #[]⟩
noncomputable def o_c20_209 (P : Params) : Obj := ⟨.none, none, (.fields #[]), #[]⟩
noncomputable def o_c20_210 (P : Params) : Obj := fnO (sM 20 13) .none (Str.ofString "Space.octets_out") 0 .none .none .none .none .none .none 0
noncomputable def o_c20_211 (P : Params) : Obj := ⟨(.type "code"), none, (.fields #[(.str (Str.ofString "octets_out") 462), (.str (Str.ofString "Space.octets_out") 463), (.str (Str.ofString "/claim/cut.py") 464), (.int 129 0), (.int 1 0), (.int 0 0), (.int 0 0), (.int 3 0), (.ref 208), (.bool true), (.int 181 0), (.ref 209), .none, .none, .none, (.ref 210), (.int 465 0), (.int 129 0), (.str (Str.ofString "/claim/cut.py") 466)]), #[]⟩
noncomputable def o_c20_212 (P : Params) : Obj := fnO (sM 20 13) (.type "function") (Str.ofString "Space.octets_out") 3 .none .none .none (.str (Str.ofString "quic.spaces") 304) (.ref 211) .none 0
noncomputable def o_c20_213 (P : Params) : Obj := ⟨(.type "tuple"), none, (.seq #[] 0), #[]⟩
noncomputable def o_c20_214 (P : Params) : Obj := ⟨.none, none, (.fields #[]), #[]⟩
noncomputable def o_c20_215 (P : Params) : Obj := ⟨(.type "tuple"), none, (.seq #[(.str (Str.ofString "self") 471)] 0), #[]⟩
noncomputable def o_c20_216 (P : Params) : Obj := ⟨(.type "tuple"), none, (.seq #[] 0), #[]⟩
noncomputable def o_c20_217 (P : Params) : Obj := fnO (sM 20 14) .none (Str.ofString "Space.sent_rows") 0 .none .none .none .none .none .none 0
noncomputable def o_c20_218 (P : Params) : Obj := ⟨(.type "code"), none, (.fields #[(.str (Str.ofString "sent_rows") 468), (.str (Str.ofString "Space.sent_rows") 469), (.str (Str.ofString "/claim/cut.py") 470), (.int 132 0), (.int 1 0), (.int 0 0), (.int 0 0), (.int 3 0), (.ref 213), (.bool true), (.int 181 0), (.ref 214), .none, (.ref 215), (.ref 216), (.ref 217), (.int 472 0), (.int 132 0), (.str (Str.ofString "/claim/cut.py") 473)]), #[]⟩
noncomputable def o_c20_219 (P : Params) : Obj := fnO (sM 20 14) (.type "function") (Str.ofString "Space.sent_rows") 3 .none .none .none (.str (Str.ofString "quic.spaces") 304) (.ref 218) .none 0
noncomputable def o_c20_220 (P : Params) : Obj := ⟨(.type "tuple"), none, (.seq #[] 0), #[]⟩
noncomputable def o_c20_221 (P : Params) : Obj := ⟨.none, none, (.fields #[]), #[]⟩
noncomputable def o_c20_222 (P : Params) : Obj := ⟨(.type "tuple"), none, (.seq #[(.str (Str.ofString "self") 478), (.str (Str.ofString "out") 479)] 0), #[]⟩
noncomputable def o_c20_223 (P : Params) : Obj := ⟨(.type "tuple"), none, (.seq #[] 0), #[]⟩
noncomputable def o_c20_224 (P : Params) : Obj := fnO (sM 20 15) .none (Str.ofString "Space.forget") 0 .none .none .none .none .none .none 0
noncomputable def o_c20_225 (P : Params) : Obj := ⟨(.type "code"), none, (.fields #[(.str (Str.ofString "forget") 475), (.str (Str.ofString "Space.forget") 476), (.str (Str.ofString "/claim/cut.py") 477), (.int 135 0), (.int 1 0), (.int 0 0), (.int 0 0), (.int 3 0), (.ref 220), (.bool true), (.int 181 0), (.ref 221), .none, (.ref 222), (.ref 223), (.ref 224), (.int 480 0), (.int 135 0), (.str (Str.ofString "/claim/cut.py") 481)]), #[]⟩
noncomputable def o_c20_226 (P : Params) : Obj := fnO (sM 20 15) (.type "function") (Str.ofString "Space.forget") 3 .none .none .none (.str (Str.ofString "quic.spaces") 304) (.ref 225) .none 0
noncomputable def o_c20_227 (P : Params) : Obj := ⟨(.type "tuple"), none, (.seq #[(.str (Str.ofString "ecn") 483), (.str (Str.ofString "first_unacked") 484), (.str (Str.ofString "has_new") 485), (.str (Str.ofString "is_gone") 486), (.str (Str.ofString "largest_acked") 487), (.str (Str.ofString "largest_seen") 488), (.str (Str.ofString "largest_time") 489), (.str (Str.ofString "last_eliciting_time") 490), (.str (Str.ofString "loss_time") 491), (.str (Str.ofString "name") 492), (.str (Str.ofString "next_number") 493), (.str (Str.ofString "received") 494), (.str (Str.ofString "sent") 495), (.str (Str.ofString "unacked") 496), (.str (Str.ofString "wants_now") 497)] 0), #[]⟩
noncomputable def o_c20_228 (P : Params) : Obj := ⟨(.type "dict"), none, (.dict #[⟨PyData.keyHash P (Str.ofString "__module__"), (.str (Str.ofString "__module__") 352), (.str (Str.ofString "quic.spaces") 304)⟩, ⟨PyData.keyHash P (Str.ofString "__firstlineno__"), (.str (Str.ofString "__firstlineno__") 356), (.int 63 355)⟩, ⟨PyData.keyHash P (Str.ofString "__init__"), (.str (Str.ofString "__init__") 364), (.ref 127)⟩, ⟨PyData.keyHash P (Str.ofString "is_known"), (.str (Str.ofString "is_known") 372), (.ref 134)⟩, ⟨PyData.keyHash P (Str.ofString "on_received"), (.str (Str.ofString "on_received") 383), (.ref 141)⟩, ⟨PyData.keyHash P (Str.ofString "ack_frame"), (.str (Str.ofString "ack_frame") 392), (.ref 148)⟩, ⟨PyData.keyHash P (Str.ofString "on_ack_sent"), (.str (Str.ofString "on_ack_sent") 399), (.ref 155)⟩, ⟨PyData.keyHash P (Str.ofString "owes_ack"), (.str (Str.ofString "owes_ack") 406), (.ref 162)⟩, ⟨PyData.keyHash P (Str.ofString "take_number"), (.str (Str.ofString "take_number") 413), (.ref 169)⟩, ⟨PyData.keyHash P (Str.ofString "on_sent"), (.str (Str.ofString "on_sent") 425), (.ref 176)⟩, ⟨PyData.keyHash P (Str.ofString "take"), (.str (Str.ofString "take") 431), (.ref 181)⟩, ⟨PyData.keyHash P (Str.ofString "acked_by"), (.str (Str.ofString "acked_by") 439), (.ref 188)⟩, ⟨PyData.keyHash P (Str.ofString "is_beyond"), (.str (Str.ofString "is_beyond") 447), (.ref 195)⟩, ⟨PyData.keyHash P (Str.ofString "note_largest"), (.str (Str.ofString "note_largest") 455), (.ref 202)⟩, ⟨PyData.keyHash P (Str.ofString "eliciting_left"), (.str (Str.ofString "eliciting_left") 461), (.ref 207)⟩, ⟨PyData.keyHash P (Str.ofString "octets_out"), (.str (Str.ofString "octets_out") 467), (.ref 212)⟩, ⟨PyData.keyHash P (Str.ofString "sent_rows"), (.str (Str.ofString "sent_rows") 474), (.ref 219)⟩, ⟨PyData.keyHash P (Str.ofString "forget"), (.str (Str.ofString "forget") 482), (.ref 226)⟩, ⟨PyData.keyHash P (Str.ofString "__static_attributes__"), (.str (Str.ofString "__static_attributes__") 498), (.ref 227)⟩, ⟨PyData.keyHash P (Str.ofString "__dict__"), (.str (Str.ofString "__dict__") 500), (.ref 230)⟩, ⟨PyData.keyHash P (Str.ofString "__weakref__"), (.str (Str.ofString "__weakref__") 502), (.ref 231)⟩, ⟨PyData.keyHash P (Str.ofString "__doc__"), (.str (Str.ofString "__doc__") 503), .none⟩] 4), #[]⟩
noncomputable def o_c20_229 (P : Params) : Obj := ⟨(.type "type"), none, (.cls ⟨(Str.ofString "Space"), [(.type "object")], [(.ref 229), (.type "object")], 228, (Str.ofString "Space"), true, [], [], false, none, false⟩), #[none, none, (some (.str (Str.ofString "Space") 345)), (some (.str (Str.ofString "Space") 353)), (some (.builtin "object.__new__")), (some (.bool true))]⟩
noncomputable def o_c20_230 (P : Params) : Obj := ⟨(.type "getset_descriptor"), none, (.fields #[(.str (Str.ofString "__dict__") 499), (.ref 229), (.builtin "function.__dict__"), (.builtin "function.__dict__#set")]), #[]⟩
noncomputable def o_c20_231 (P : Params) : Obj := ⟨(.type "getset_descriptor"), none, (.fields #[(.str (Str.ofString "__weakref__") 501), (.ref 229), (.builtin "ExceptionGroup.__weakref__"), .none]), #[]⟩
noncomputable def o_c20_232 (P : Params) : Obj := ⟨(.type "super"), none, (.fields #[(.ref 229), (.ref 229), (.ref 229)]), #[]⟩
noncomputable def o_c20_233 (P : Params) : Obj := ⟨(.type "builtin_function_or_method"), none, (.fields #[(.builtin "object.__init_subclass__"), (.ref 229)]), #[]⟩
noncomputable def tr_c20 (P : Params) : BT := (.node (boot_o_0 P) (.node (boot_o_1 P) (.node (o_c20_3 P) (.node (boot_o_7 P) (.node (o_c19_15 P) (.node (o_c19_31 P) (.node (o_c19_63 P) (.node (o_c20_127 P) .nil .nil) (.node (o_c20_191 P) .nil .nil)) (.node (o_c19_95 P) (.node (o_c20_159 P) .nil .nil) (.node (o_c20_223 P) .nil .nil))) (.node (o_c19_47 P) (.node (o_c19_79 P) (.node (o_c20_143 P) .nil .nil) (.node (o_c20_207 P) .nil .nil)) (.node (o_c19_111 P) (.node (o_c20_175 P) .nil .nil) .nil))) (.node (o_c19_23 P) (.node (o_c19_39 P) (.node (o_c19_71 P) (.node (o_c20_135 P) .nil .nil) (.node (o_c20_199 P) .nil .nil)) (.node (o_c19_103 P) (.node (o_c20_167 P) .nil .nil) (.node (o_c20_231 P) .nil .nil))) (.node (o_c19_55 P) (.node (o_c19_87 P) (.node (o_c20_151 P) .nil .nil) (.node (o_c20_215 P) .nil .nil)) (.node (o_c20_119 P) (.node (o_c20_183 P) .nil .nil) .nil)))) (.node (o_p_11 P) (.node (o_c19_19 P) (.node (o_c19_35 P) (.node (o_c19_67 P) (.node (o_c20_131 P) .nil .nil) (.node (o_c20_195 P) .nil .nil)) (.node (o_c19_99 P) (.node (o_c20_163 P) .nil .nil) (.node (o_c20_227 P) .nil .nil))) (.node (o_c19_51 P) (.node (o_c19_83 P) (.node (o_c20_147 P) .nil .nil) (.node (o_c20_211 P) .nil .nil)) (.node (o_c20_115 P) (.node (o_c20_179 P) .nil .nil) .nil))) (.node (o_c19_27 P) (.node (o_c19_43 P) (.node (o_c19_75 P) (.node (o_c20_139 P) .nil .nil) (.node (o_c20_203 P) .nil .nil)) (.node (o_c19_107 P) (.node (o_c20_171 P) .nil .nil) .nil)) (.node (o_c19_59 P) (.node (o_c19_91 P) (.node (o_c20_155 P) .nil .nil) (.node (o_c20_219 P) .nil .nil)) (.node (o_c20_123 P) (.node (o_c20_187 P) .nil .nil) .nil))))) (.node (boot_o_5 P) (.node (boot_o_9 P) (.node (o_c19_17 P) (.node (o_c19_33 P) (.node (o_c19_65 P) (.node (o_c20_129 P) .nil .nil) (.node (o_c20_193 P) .nil .nil)) (.node (o_c19_97 P) (.node (o_c20_161 P) .nil .nil) (.node (o_c20_225 P) .nil .nil))) (.node (o_c19_49 P) (.node (o_c19_81 P) (.node (o_c20_145 P) .nil .nil) (.node (o_c20_209 P) .nil .nil)) (.node (o_c19_113 P) (.node (o_c20_177 P) .nil .nil) .nil))) (.node (o_c19_25 P) (.node (o_c19_41 P) (.node (o_c19_73 P) (.node (o_c20_137 P) .nil .nil) (.node (o_c20_201 P) .nil .nil)) (.node (o_c19_105 P) (.node (o_c20_169 P) .nil .nil) (.node (o_c20_233 P) .nil .nil))) (.node (o_c19_57 P) (.node (o_c19_89 P) (.node (o_c20_153 P) .nil .nil) (.node (o_c20_217 P) .nil .nil)) (.node (o_c20_121 P) (.node (o_c20_185 P) .nil .nil) .nil)))) (.node (o_p_13 P) (.node (o_c19_21 P) (.node (o_c19_37 P) (.node (o_c19_69 P) (.node (o_c20_133 P) .nil .nil) (.node (o_c20_197 P) .nil .nil)) (.node (o_c19_101 P) (.node (o_c20_165 P) .nil .nil) (.node (o_c20_229 P) .nil .nil))) (.node (o_c19_53 P) (.node (o_c19_85 P) (.node (o_c20_149 P) .nil .nil) (.node (o_c20_213 P) .nil .nil)) (.node (o_c20_117 P) (.node (o_c20_181 P) .nil .nil) .nil))) (.node (o_c19_29 P) (.node (o_c19_45 P) (.node (o_c19_77 P) (.node (o_c20_141 P) .nil .nil) (.node (o_c20_205 P) .nil .nil)) (.node (o_c19_109 P) (.node (o_c20_173 P) .nil .nil) .nil)) (.node (o_c19_61 P) (.node (o_c19_93 P) (.node (o_c20_157 P) .nil .nil) (.node (o_c20_221 P) .nil .nil)) (.node (o_c20_125 P) (.node (o_c20_189 P) .nil .nil) .nil)))))) (.node (boot_o_2 P) (.node (boot_o_4 P) (.node (boot_o_8 P) (.node (o_c19_16 P) (.node (o_c19_32 P) (.node (o_c19_64 P) (.node (o_c20_128 P) .nil .nil) (.node (o_c20_192 P) .nil .nil)) (.node (o_c19_96 P) (.node (o_c20_160 P) .nil .nil) (.node (o_c20_224 P) .nil .nil))) (.node (o_c19_48 P) (.node (o_c19_80 P) (.node (o_c20_144 P) .nil .nil) (.node (o_c20_208 P) .nil .nil)) (.node (o_c19_112 P) (.node (o_c20_176 P) .nil .nil) .nil))) (.node (o_c19_24 P) (.node (o_c19_40 P) (.node (o_c19_72 P) (.node (o_c20_136 P) .nil .nil) (.node (o_c20_200 P) .nil .nil)) (.node (o_c19_104 P) (.node (o_c20_168 P) .nil .nil) (.node (o_c20_232 P) .nil .nil))) (.node (o_c19_56 P) (.node (o_c19_88 P) (.node (o_c20_152 P) .nil .nil) (.node (o_c20_216 P) .nil .nil)) (.node (o_c20_120 P) (.node (o_c20_184 P) .nil .nil) .nil)))) (.node (o_c20_12 P) (.node (o_c19_20 P) (.node (o_c19_36 P) (.node (o_c19_68 P) (.node (o_c20_132 P) .nil .nil) (.node (o_c20_196 P) .nil .nil)) (.node (o_c19_100 P) (.node (o_c20_164 P) .nil .nil) (.node (o_c20_228 P) .nil .nil))) (.node (o_c19_52 P) (.node (o_c19_84 P) (.node (o_c20_148 P) .nil .nil) (.node (o_c20_212 P) .nil .nil)) (.node (o_c20_116 P) (.node (o_c20_180 P) .nil .nil) .nil))) (.node (o_c19_28 P) (.node (o_c19_44 P) (.node (o_c19_76 P) (.node (o_c20_140 P) .nil .nil) (.node (o_c20_204 P) .nil .nil)) (.node (o_c19_108 P) (.node (o_c20_172 P) .nil .nil) .nil)) (.node (o_c19_60 P) (.node (o_c19_92 P) (.node (o_c20_156 P) .nil .nil) (.node (o_c20_220 P) .nil .nil)) (.node (o_c20_124 P) (.node (o_c20_188 P) .nil .nil) .nil))))) (.node (boot_o_6 P) (.node (boot_o_10 P) (.node (o_c19_18 P) (.node (o_c19_34 P) (.node (o_c19_66 P) (.node (o_c20_130 P) .nil .nil) (.node (o_c20_194 P) .nil .nil)) (.node (o_c19_98 P) (.node (o_c20_162 P) .nil .nil) (.node (o_c20_226 P) .nil .nil))) (.node (o_c19_50 P) (.node (o_c19_82 P) (.node (o_c20_146 P) .nil .nil) (.node (o_c20_210 P) .nil .nil)) (.node (o_c20_114 P) (.node (o_c20_178 P) .nil .nil) .nil))) (.node (o_c19_26 P) (.node (o_c19_42 P) (.node (o_c19_74 P) (.node (o_c20_138 P) .nil .nil) (.node (o_c20_202 P) .nil .nil)) (.node (o_c19_106 P) (.node (o_c20_170 P) .nil .nil) .nil)) (.node (o_c19_58 P) (.node (o_c19_90 P) (.node (o_c20_154 P) .nil .nil) (.node (o_c20_218 P) .nil .nil)) (.node (o_c20_122 P) (.node (o_c20_186 P) .nil .nil) .nil)))) (.node (o_p_14 P) (.node (o_c19_22 P) (.node (o_c19_38 P) (.node (o_c19_70 P) (.node (o_c20_134 P) .nil .nil) (.node (o_c20_198 P) .nil .nil)) (.node (o_c19_102 P) (.node (o_c20_166 P) .nil .nil) (.node (o_c20_230 P) .nil .nil))) (.node (o_c19_54 P) (.node (o_c19_86 P) (.node (o_c20_150 P) .nil .nil) (.node (o_c20_214 P) .nil .nil)) (.node (o_c20_118 P) (.node (o_c20_182 P) .nil .nil) .nil))) (.node (o_c19_30 P) (.node (o_c19_46 P) (.node (o_c19_78 P) (.node (o_c20_142 P) .nil .nil) (.node (o_c20_206 P) .nil .nil)) (.node (o_c19_110 P) (.node (o_c20_174 P) .nil .nil) .nil)) (.node (o_c19_62 P) (.node (o_c19_94 P) (.node (o_c20_158 P) .nil .nil) (.node (o_c20_222 P) .nil .nil)) (.node (o_c20_126 P) (.node (o_c20_190 P) .nil .nil) .nil)))))))
noncomputable def o_c30_3 (P : Params) : Obj := ⟨(.type "dict"), none, (.dict #[⟨PyData.keyHash P (Str.ofString "__name__"), (.str (Str.ofString "__name__") 165), (.str (Str.ofString "law_no0077_01") 506)⟩, ⟨PyData.keyHash P (Str.ofString "__doc__"), (.str (Str.ofString "__doc__") 166), .none⟩, ⟨PyData.keyHash P (Str.ofString "__package__"), (.str (Str.ofString "__package__") 167), .none⟩, ⟨PyData.keyHash P (Str.ofString "__loader__"), (.str (Str.ofString "__loader__") 168), (.builtin "__main__.__loader__#opaque")⟩, ⟨PyData.keyHash P (Str.ofString "__spec__"), (.str (Str.ofString "__spec__") 169), .none⟩, ⟨PyData.keyHash P (Str.ofString "__annotations__"), (.str (Str.ofString "__annotations__") 170), (.ref 6)⟩, ⟨PyData.keyHash P (Str.ofString "__builtins__"), (.str (Str.ofString "__builtins__") 171), (.ref 4)⟩, ⟨PyData.keyHash P (Str.ofString "__file__"), (.str (Str.ofString "__file__") 173), (.str (Str.ofString "/claim/cut.py") 172)⟩, ⟨PyData.keyHash P (Str.ofString "__cached__"), (.str (Str.ofString "__cached__") 174), .none⟩, ⟨PyData.keyHash P (Str.ofString "_wall"), (.str (Str.ofString "_wall") 193), (.ref 21)⟩, ⟨PyData.keyHash P (Str.ofString "SPACE_ORDER"), (.str (Str.ofString "SPACE_ORDER") 199), (.ref 22)⟩, ⟨PyData.keyHash P (Str.ofString "probe_period"), (.str (Str.ofString "probe_period") 208), (.ref 29)⟩, ⟨PyData.keyHash P (Str.ofString "earliest_of"), (.str (Str.ofString "earliest_of") 218), (.ref 36)⟩, ⟨PyData.keyHash P (Str.ofString "probe_times"), (.str (Str.ofString "probe_times") 233), (.ref 43)⟩, ⟨PyData.keyHash P (Str.ofString "is_anything_asked"), (.str (Str.ofString "is_anything_asked") 239), (.ref 48)⟩, ⟨PyData.keyHash P (Str.ofString "probe_due"), (.str (Str.ofString "probe_due") 253), (.ref 55)⟩, ⟨PyData.keyHash P (Str.ofString "next_timer"), (.str (Str.ofString "next_timer") 263), (.ref 62)⟩, ⟨PyData.keyHash P (Str.ofString "NOT_ELICITING"), (.str (Str.ofString "NOT_ELICITING") 269), (.ref 63)⟩, ⟨PyData.keyHash P (Str.ofString "is_eliciting"), (.str (Str.ofString "is_eliciting") 276), (.ref 70)⟩, ⟨PyData.keyHash P (Str.ofString "counts_in_flight"), (.str (Str.ofString "counts_in_flight") 283), (.ref 77)⟩, ⟨PyData.keyHash P (Str.ofString "any_eliciting"), (.str (Str.ofString "any_eliciting") 289), (.ref 82)⟩, ⟨PyData.keyHash P (Str.ofString "any_in_flight"), (.str (Str.ofString "any_in_flight") 295), (.ref 87)⟩, ⟨PyData.keyHash P (Str.ofString "has_number"), (.str (Str.ofString "has_number") 303), (.ref 92)⟩, ⟨PyData.keyHash P (Str.ofString "KEPT_RANGES"), (.str (Str.ofString "KEPT_RANGES") 307), (.int 64 306)⟩, ⟨PyData.keyHash P (Str.ofString "SentPacket"), (.str (Str.ofString "SentPacket") 344), (.ref 109)⟩, ⟨PyData.keyHash P (Str.ofString "Space"), (.str (Str.ofString "Space") 505), (.ref 229)⟩, ⟨PyData.keyHash P (Str.ofString "_law_names"), (.str (Str.ofString "_law_names") 513), (.ref 240)⟩, ⟨PyData.keyHash P (Str.ofString "_law_take"), (.str (Str.ofString "_law_take") 522), (.ref 247)⟩, ⟨PyData.keyHash P (Str.ofString "_law_draws"), (.str (Str.ofString "_law_draws") 528), (.ref 252)⟩, ⟨PyData.keyHash P (Str.ofString "_law_filled"), (.str (Str.ofString "_law_filled") 534), (.ref 257)⟩, ⟨PyData.keyHash P (Str.ofString "_law_end"), (.str (Str.ofString "_law_end") 540), (.ref 262)⟩, ⟨PyData.keyHash P (Str.ofString "_law_told"), (.str (Str.ofString "_law_told") 553), (.ref 269)⟩, ⟨PyData.keyHash P (Str.ofString "_law_due"), (.str (Str.ofString "_law_due") 559), (.ref 274)⟩, ⟨PyData.keyHash P (Str.ofString "_law_is_owed"), (.str (Str.ofString "_law_is_owed") 565), (.ref 279)⟩, ⟨PyData.keyHash P (Str.ofString "law"), (.str (Str.ofString "law") 571), (.ref 284)⟩] 35), #[]⟩
noncomputable def o_c30_12 (P : Params) : Obj := ⟨.none, none, (.fields #[(.int 1 0), (.int 0 0), (.ref 20), (.int 6 0), (.int 0 0), (.ref 28), (.int 8 0), (.int 0 0), (.ref 35), (.int 15 0), (.int 0 0), (.ref 42), (.int 24 0), (.int 0 0), (.ref 47), (.int 26 0), (.int 0 0), (.ref 54), (.int 32 0), (.int 0 0), (.ref 61), (.int 41 0), (.int 0 0), (.ref 69), (.int 43 0), (.int 0 0), (.ref 76), (.int 45 0), (.int 0 0), (.ref 81), (.int 47 0), (.int 0 0), (.ref 86), (.int 50 0), (.int 0 0), (.ref 91), (.int 54 0), (.int 0 0), (.ref 98), (.int 63 0), (.int 0 0), (.ref 119), (.int 145 0), (.int 0 0), (.ref 239), (.int 147 0), (.int 0 0), (.ref 246), (.int 153 0), (.int 0 0), (.ref 251), (.int 158 0), (.int 0 0), (.ref 256), (.int 175 0), (.int 0 0), (.ref 261), (.int 184 0), (.int 0 0), (.ref 268), (.int 190 0), (.int 0 0), (.ref 273), (.int 203 0), (.int 0 0), (.ref 278), (.int 209 0), (.int 0 0), (.ref 283)]), #[]⟩
noncomputable def o_c30_234 (P : Params) : Obj := ⟨(.type "tuple"), none, (.seq #[] 0), #[]⟩
noncomputable def o_c30_235 (P : Params) : Obj := ⟨.none, none, (.fields #[]), #[]⟩
noncomputable def o_c30_236 (P : Params) : Obj := ⟨(.type "tuple"), none, (.seq #[] 0), #[]⟩
noncomputable def o_c30_237 (P : Params) : Obj := ⟨(.type "tuple"), none, (.seq #[] 0), #[]⟩
noncomputable def o_c30_238 (P : Params) : Obj := fnO (sT 22) .none (Str.ofString "_law_names") 0 .none .none .none .none .none .none 0
noncomputable def o_c30_239 (P : Params) : Obj := ⟨(.type "code"), none, (.fields #[(.str (Str.ofString "_law_names") 508), (.str (Str.ofString "_law_names") 509), (.str (Str.ofString "/claim/cut.py") 510), (.int 145 0), (.int 0 0), (.int 0 0), (.int 0 0), (.int 3 0), (.ref 234), (.bool true), (.int 181 0), (.ref 235), .none, (.ref 236), (.ref 237), (.ref 238), (.int 511 0), (.int 145 0), (.str (Str.ofString "/claim/cut.py") 512)]), #[]⟩
noncomputable def o_c30_240 (P : Params) : Obj := fnO (sT 22) (.type "function") (Str.ofString "_law_names") 3 .none .none .none (.str (Str.ofString "law_no0077_01") 506) (.ref 239) .none 0
noncomputable def o_c30_241 (P : Params) : Obj := ⟨(.type "tuple"), none, (.seq #[] 0), #[]⟩
noncomputable def o_c30_242 (P : Params) : Obj := ⟨.none, none, (.fields #[]), #[]⟩
noncomputable def o_c30_243 (P : Params) : Obj := ⟨(.type "tuple"), none, (.seq #[(.str (Str.ofString "draws") 517), (.str (Str.ofString "many") 518), (.str (Str.ofString "found") 519)] 0), #[]⟩
noncomputable def o_c30_244 (P : Params) : Obj := ⟨(.type "tuple"), none, (.seq #[] 0), #[]⟩
noncomputable def o_c30_245 (P : Params) : Obj := fnO (sT 23) .none (Str.ofString "_law_take") 0 .none .none .none .none .none .none 0
noncomputable def o_c30_246 (P : Params) : Obj := ⟨(.type "code"), none, (.fields #[(.str (Str.ofString "_law_take") 514), (.str (Str.ofString "_law_take") 515), (.str (Str.ofString "/claim/cut.py") 516), (.int 147 0), (.int 2 0), (.int 0 0), (.int 0 0), (.int 3 0), (.ref 241), (.bool true), (.int 181 0), (.ref 242), .none, (.ref 243), (.ref 244), (.ref 245), (.int 520 0), (.int 147 0), (.str (Str.ofString "/claim/cut.py") 521)]), #[]⟩
noncomputable def o_c30_247 (P : Params) : Obj := fnO (sT 23) (.type "function") (Str.ofString "_law_take") 3 .none .none .none (.str (Str.ofString "law_no0077_01") 506) (.ref 246) .none 0
noncomputable def o_c30_248 (P : Params) : Obj := ⟨(.type "tuple"), none, (.seq #[] 0), #[]⟩
noncomputable def o_c30_249 (P : Params) : Obj := ⟨.none, none, (.fields #[]), #[]⟩
noncomputable def o_c30_250 (P : Params) : Obj := fnO (sT 24) .none (Str.ofString "_law_draws") 0 .none .none .none .none .none .none 0
noncomputable def o_c30_251 (P : Params) : Obj := ⟨(.type "code"), none, (.fields #[(.str (Str.ofString "_law_draws") 523), (.str (Str.ofString "_law_draws") 524), (.str (Str.ofString "/claim/cut.py") 525), (.int 153 0), (.int 1 0), (.int 0 0), (.int 0 0), (.int 3 0), (.ref 248), (.bool true), (.int 181 0), (.ref 249), .none, .none, .none, (.ref 250), (.int 526 0), (.int 153 0), (.str (Str.ofString "/claim/cut.py") 527)]), #[]⟩
noncomputable def o_c30_252 (P : Params) : Obj := fnO (sT 24) (.type "function") (Str.ofString "_law_draws") 3 .none .none .none (.str (Str.ofString "law_no0077_01") 506) (.ref 251) .none 0
noncomputable def o_c30_253 (P : Params) : Obj := ⟨(.type "tuple"), none, (.seq #[] 0), #[]⟩
noncomputable def o_c30_254 (P : Params) : Obj := ⟨.none, none, (.fields #[]), #[]⟩
noncomputable def o_c30_255 (P : Params) : Obj := fnO (sT 25) .none (Str.ofString "_law_filled") 0 .none .none .none .none .none .none 0
noncomputable def o_c30_256 (P : Params) : Obj := ⟨(.type "code"), none, (.fields #[(.str (Str.ofString "_law_filled") 529), (.str (Str.ofString "_law_filled") 530), (.str (Str.ofString "/claim/cut.py") 531), (.int 158 0), (.int 3 0), (.int 0 0), (.int 0 0), (.int 3 0), (.ref 253), (.bool true), (.int 181 0), (.ref 254), .none, .none, .none, (.ref 255), (.int 532 0), (.int 158 0), (.str (Str.ofString "/claim/cut.py") 533)]), #[]⟩
noncomputable def o_c30_257 (P : Params) : Obj := fnO (sT 25) (.type "function") (Str.ofString "_law_filled") 3 .none .none .none (.str (Str.ofString "law_no0077_01") 506) (.ref 256) .none 0
noncomputable def o_c30_258 (P : Params) : Obj := ⟨(.type "tuple"), none, (.seq #[] 0), #[]⟩
noncomputable def o_c30_259 (P : Params) : Obj := ⟨.none, none, (.fields #[]), #[]⟩
noncomputable def o_c30_260 (P : Params) : Obj := fnO (sT 26) .none (Str.ofString "_law_end") 0 .none .none .none .none .none .none 0
noncomputable def o_c30_261 (P : Params) : Obj := ⟨(.type "code"), none, (.fields #[(.str (Str.ofString "_law_end") 535), (.str (Str.ofString "_law_end") 536), (.str (Str.ofString "/claim/cut.py") 537), (.int 175 0), (.int 3 0), (.int 0 0), (.int 0 0), (.int 3 0), (.ref 258), (.bool true), (.int 181 0), (.ref 259), .none, .none, .none, (.ref 260), (.int 538 0), (.int 175 0), (.str (Str.ofString "/claim/cut.py") 539)]), #[]⟩
noncomputable def o_c30_262 (P : Params) : Obj := fnO (sT 26) (.type "function") (Str.ofString "_law_end") 3 .none .none .none (.str (Str.ofString "law_no0077_01") 506) (.ref 261) .none 0
noncomputable def o_c30_263 (P : Params) : Obj := ⟨(.type "tuple"), none, (.seq #[] 0), #[]⟩
noncomputable def o_c30_264 (P : Params) : Obj := ⟨.none, none, (.fields #[]), #[]⟩
noncomputable def o_c30_265 (P : Params) : Obj := ⟨(.type "tuple"), none, (.seq #[(.str (Str.ofString "end") 544), (.str (Str.ofString "base") 545), (.str (Str.ofString "delay") 546), (.str (Str.ofString "now") 547), (.str (Str.ofString "asked") 548), (.str (Str.ofString "space") 549), (.str (Str.ofString "probe") 550)] 0), #[]⟩
noncomputable def o_c30_266 (P : Params) : Obj := ⟨(.type "tuple"), none, (.seq #[] 0), #[]⟩
noncomputable def o_c30_267 (P : Params) : Obj := fnO (sT 27) .none (Str.ofString "_law_told") 0 .none .none .none .none .none .none 0
noncomputable def o_c30_268 (P : Params) : Obj := ⟨(.type "code"), none, (.fields #[(.str (Str.ofString "_law_told") 541), (.str (Str.ofString "_law_told") 542), (.str (Str.ofString "/claim/cut.py") 543), (.int 184 0), (.int 4 0), (.int 0 0), (.int 0 0), (.int 3 0), (.ref 263), (.bool true), (.int 181 0), (.ref 264), .none, (.ref 265), (.ref 266), (.ref 267), (.int 551 0), (.int 184 0), (.str (Str.ofString "/claim/cut.py") 552)]), #[]⟩
noncomputable def o_c30_269 (P : Params) : Obj := fnO (sT 27) (.type "function") (Str.ofString "_law_told") 3 .none .none .none (.str (Str.ofString "law_no0077_01") 506) (.ref 268) .none 0
noncomputable def o_c30_270 (P : Params) : Obj := ⟨(.type "tuple"), none, (.seq #[] 0), #[]⟩
noncomputable def o_c30_271 (P : Params) : Obj := ⟨.none, none, (.fields #[]), #[]⟩
noncomputable def o_c30_272 (P : Params) : Obj := fnO (sT 28) .none (Str.ofString "_law_due") 0 .none .none .none .none .none .none 0
noncomputable def o_c30_273 (P : Params) : Obj := ⟨(.type "code"), none, (.fields #[(.str (Str.ofString "_law_due") 554), (.str (Str.ofString "_law_due") 555), (.str (Str.ofString "/claim/cut.py") 556), (.int 190 0), (.int 4 0), (.int 0 0), (.int 0 0), (.int 3 0), (.ref 270), (.bool true), (.int 181 0), (.ref 271), .none, .none, .none, (.ref 272), (.int 557 0), (.int 190 0), (.str (Str.ofString "/claim/cut.py") 558)]), #[]⟩
noncomputable def o_c30_274 (P : Params) : Obj := fnO (sT 28) (.type "function") (Str.ofString "_law_due") 3 .none .none .none (.str (Str.ofString "law_no0077_01") 506) (.ref 273) .none 0
noncomputable def o_c30_275 (P : Params) : Obj := ⟨(.type "tuple"), none, (.seq #[] 0), #[]⟩
noncomputable def o_c30_276 (P : Params) : Obj := ⟨.none, none, (.fields #[]), #[]⟩
noncomputable def o_c30_277 (P : Params) : Obj := fnO (sT 29) .none (Str.ofString "_law_is_owed") 0 .none .none .none .none .none .none 0
noncomputable def o_c30_278 (P : Params) : Obj := ⟨(.type "code"), none, (.fields #[(.str (Str.ofString "_law_is_owed") 560), (.str (Str.ofString "_law_is_owed") 561), (.str (Str.ofString "/claim/cut.py") 562), (.int 203 0), (.int 1 0), (.int 0 0), (.int 0 0), (.int 3 0), (.ref 275), (.bool true), (.int 181 0), (.ref 276), .none, .none, .none, (.ref 277), (.int 563 0), (.int 203 0), (.str (Str.ofString "/claim/cut.py") 564)]), #[]⟩
noncomputable def o_c30_279 (P : Params) : Obj := fnO (sT 29) (.type "function") (Str.ofString "_law_is_owed") 3 .none .none .none (.str (Str.ofString "law_no0077_01") 506) (.ref 278) .none 0
noncomputable def o_c30_280 (P : Params) : Obj := ⟨(.type "tuple"), none, (.seq #[] 0), #[]⟩
noncomputable def o_c30_281 (P : Params) : Obj := ⟨.none, none, (.fields #[]), #[]⟩
noncomputable def o_c30_282 (P : Params) : Obj := fnO (sT 30) .none (Str.ofString "law") 0 .none .none .none .none .none .none 0
noncomputable def o_c30_283 (P : Params) : Obj := ⟨(.type "code"), none, (.fields #[(.str (Str.ofString "law") 566), (.str (Str.ofString "law") 567), (.str (Str.ofString "/claim/cut.py") 568), (.int 209 0), (.int 1 0), (.int 0 0), (.int 0 0), (.int 3 0), (.ref 280), (.bool true), (.int 181 0), (.ref 281), .none, .none, .none, (.ref 282), (.int 569 0), (.int 209 0), (.str (Str.ofString "/claim/cut.py") 570)]), #[]⟩
noncomputable def o_c30_284 (P : Params) : Obj := fnO (sT 30) (.type "function") (Str.ofString "law") 3 .none .none .none (.str (Str.ofString "law_no0077_01") 506) (.ref 283) .none 0
noncomputable def tr_c30 (P : Params) : BT := (.node (boot_o_0 P) (.node (boot_o_1 P) (.node (o_c30_3 P) (.node (boot_o_7 P) (.node (o_c19_15 P) (.node (o_c19_31 P) (.node (o_c19_63 P) (.node (o_c20_127 P) (.node (o_c30_255 P) .nil .nil) .nil) (.node (o_c20_191 P) .nil .nil)) (.node (o_c19_95 P) (.node (o_c20_159 P) .nil .nil) (.node (o_c20_223 P) .nil .nil))) (.node (o_c19_47 P) (.node (o_c19_79 P) (.node (o_c20_143 P) (.node (o_c30_271 P) .nil .nil) .nil) (.node (o_c20_207 P) .nil .nil)) (.node (o_c19_111 P) (.node (o_c20_175 P) .nil .nil) (.node (o_c30_239 P) .nil .nil)))) (.node (o_c19_23 P) (.node (o_c19_39 P) (.node (o_c19_71 P) (.node (o_c20_135 P) (.node (o_c30_263 P) .nil .nil) .nil) (.node (o_c20_199 P) .nil .nil)) (.node (o_c19_103 P) (.node (o_c20_167 P) .nil .nil) (.node (o_c20_231 P) .nil .nil))) (.node (o_c19_55 P) (.node (o_c19_87 P) (.node (o_c20_151 P) (.node (o_c30_279 P) .nil .nil) .nil) (.node (o_c20_215 P) .nil .nil)) (.node (o_c20_119 P) (.node (o_c20_183 P) .nil .nil) (.node (o_c30_247 P) .nil .nil))))) (.node (o_p_11 P) (.node (o_c19_19 P) (.node (o_c19_35 P) (.node (o_c19_67 P) (.node (o_c20_131 P) (.node (o_c30_259 P) .nil .nil) .nil) (.node (o_c20_195 P) .nil .nil)) (.node (o_c19_99 P) (.node (o_c20_163 P) .nil .nil) (.node (o_c20_227 P) .nil .nil))) (.node (o_c19_51 P) (.node (o_c19_83 P) (.node (o_c20_147 P) (.node (o_c30_275 P) .nil .nil) .nil) (.node (o_c20_211 P) .nil .nil)) (.node (o_c20_115 P) (.node (o_c20_179 P) .nil .nil) (.node (o_c30_243 P) .nil .nil)))) (.node (o_c19_27 P) (.node (o_c19_43 P) (.node (o_c19_75 P) (.node (o_c20_139 P) (.node (o_c30_267 P) .nil .nil) .nil) (.node (o_c20_203 P) .nil .nil)) (.node (o_c19_107 P) (.node (o_c20_171 P) .nil .nil) (.node (o_c30_235 P) .nil .nil))) (.node (o_c19_59 P) (.node (o_c19_91 P) (.node (o_c20_155 P) (.node (o_c30_283 P) .nil .nil) .nil) (.node (o_c20_219 P) .nil .nil)) (.node (o_c20_123 P) (.node (o_c20_187 P) .nil .nil) (.node (o_c30_251 P) .nil .nil)))))) (.node (boot_o_5 P) (.node (boot_o_9 P) (.node (o_c19_17 P) (.node (o_c19_33 P) (.node (o_c19_65 P) (.node (o_c20_129 P) (.node (o_c30_257 P) .nil .nil) .nil) (.node (o_c20_193 P) .nil .nil)) (.node (o_c19_97 P) (.node (o_c20_161 P) .nil .nil) (.node (o_c20_225 P) .nil .nil))) (.node (o_c19_49 P) (.node (o_c19_81 P) (.node (o_c20_145 P) (.node (o_c30_273 P) .nil .nil) .nil) (.node (o_c20_209 P) .nil .nil)) (.node (o_c19_113 P) (.node (o_c20_177 P) .nil .nil) (.node (o_c30_241 P) .nil .nil)))) (.node (o_c19_25 P) (.node (o_c19_41 P) (.node (o_c19_73 P) (.node (o_c20_137 P) (.node (o_c30_265 P) .nil .nil) .nil) (.node (o_c20_201 P) .nil .nil)) (.node (o_c19_105 P) (.node (o_c20_169 P) .nil .nil) (.node (o_c20_233 P) .nil .nil))) (.node (o_c19_57 P) (.node (o_c19_89 P) (.node (o_c20_153 P) (.node (o_c30_281 P) .nil .nil) .nil) (.node (o_c20_217 P) .nil .nil)) (.node (o_c20_121 P) (.node (o_c20_185 P) .nil .nil) (.node (o_c30_249 P) .nil .nil))))) (.node (o_p_13 P) (.node (o_c19_21 P) (.node (o_c19_37 P) (.node (o_c19_69 P) (.node (o_c20_133 P) (.node (o_c30_261 P) .nil .nil) .nil) (.node (o_c20_197 P) .nil .nil)) (.node (o_c19_101 P) (.node (o_c20_165 P) .nil .nil) (.node (o_c20_229 P) .nil .nil))) (.node (o_c19_53 P) (.node (o_c19_85 P) (.node (o_c20_149 P) (.node (o_c30_277 P) .nil .nil) .nil) (.node (o_c20_213 P) .nil .nil)) (.node (o_c20_117 P) (.node (o_c20_181 P) .nil .nil) (.node (o_c30_245 P) .nil .nil)))) (.node (o_c19_29 P) (.node (o_c19_45 P) (.node (o_c19_77 P) (.node (o_c20_141 P) (.node (o_c30_269 P) .nil .nil) .nil) (.node (o_c20_205 P) .nil .nil)) (.node (o_c19_109 P) (.node (o_c20_173 P) .nil .nil) (.node (o_c30_237 P) .nil .nil))) (.node (o_c19_61 P) (.node (o_c19_93 P) (.node (o_c20_157 P) .nil .nil) (.node (o_c20_221 P) .nil .nil)) (.node (o_c20_125 P) (.node (o_c20_189 P) .nil .nil) (.node (o_c30_253 P) .nil .nil))))))) (.node (boot_o_2 P) (.node (boot_o_4 P) (.node (boot_o_8 P) (.node (o_c19_16 P) (.node (o_c19_32 P) (.node (o_c19_64 P) (.node (o_c20_128 P) (.node (o_c30_256 P) .nil .nil) .nil) (.node (o_c20_192 P) .nil .nil)) (.node (o_c19_96 P) (.node (o_c20_160 P) .nil .nil) (.node (o_c20_224 P) .nil .nil))) (.node (o_c19_48 P) (.node (o_c19_80 P) (.node (o_c20_144 P) (.node (o_c30_272 P) .nil .nil) .nil) (.node (o_c20_208 P) .nil .nil)) (.node (o_c19_112 P) (.node (o_c20_176 P) .nil .nil) (.node (o_c30_240 P) .nil .nil)))) (.node (o_c19_24 P) (.node (o_c19_40 P) (.node (o_c19_72 P) (.node (o_c20_136 P) (.node (o_c30_264 P) .nil .nil) .nil) (.node (o_c20_200 P) .nil .nil)) (.node (o_c19_104 P) (.node (o_c20_168 P) .nil .nil) (.node (o_c20_232 P) .nil .nil))) (.node (o_c19_56 P) (.node (o_c19_88 P) (.node (o_c20_152 P) (.node (o_c30_280 P) .nil .nil) .nil) (.node (o_c20_216 P) .nil .nil)) (.node (o_c20_120 P) (.node (o_c20_184 P) .nil .nil) (.node (o_c30_248 P) .nil .nil))))) (.node (o_c30_12 P) (.node (o_c19_20 P) (.node (o_c19_36 P) (.node (o_c19_68 P) (.node (o_c20_132 P) (.node (o_c30_260 P) .nil .nil) .nil) (.node (o_c20_196 P) .nil .nil)) (.node (o_c19_100 P) (.node (o_c20_164 P) .nil .nil) (.node (o_c20_228 P) .nil .nil))) (.node (o_c19_52 P) (.node (o_c19_84 P) (.node (o_c20_148 P) (.node (o_c30_276 P) .nil .nil) .nil) (.node (o_c20_212 P) .nil .nil)) (.node (o_c20_116 P) (.node (o_c20_180 P) .nil .nil) (.node (o_c30_244 P) .nil .nil)))) (.node (o_c19_28 P) (.node (o_c19_44 P) (.node (o_c19_76 P) (.node (o_c20_140 P) (.node (o_c30_268 P) .nil .nil) .nil) (.node (o_c20_204 P) .nil .nil)) (.node (o_c19_108 P) (.node (o_c20_172 P) .nil .nil) (.node (o_c30_236 P) .nil .nil))) (.node (o_c19_60 P) (.node (o_c19_92 P) (.node (o_c20_156 P) (.node (o_c30_284 P) .nil .nil) .nil) (.node (o_c20_220 P) .nil .nil)) (.node (o_c20_124 P) (.node (o_c20_188 P) .nil .nil) (.node (o_c30_252 P) .nil .nil)))))) (.node (boot_o_6 P) (.node (boot_o_10 P) (.node (o_c19_18 P) (.node (o_c19_34 P) (.node (o_c19_66 P) (.node (o_c20_130 P) (.node (o_c30_258 P) .nil .nil) .nil) (.node (o_c20_194 P) .nil .nil)) (.node (o_c19_98 P) (.node (o_c20_162 P) .nil .nil) (.node (o_c20_226 P) .nil .nil))) (.node (o_c19_50 P) (.node (o_c19_82 P) (.node (o_c20_146 P) (.node (o_c30_274 P) .nil .nil) .nil) (.node (o_c20_210 P) .nil .nil)) (.node (o_c20_114 P) (.node (o_c20_178 P) .nil .nil) (.node (o_c30_242 P) .nil .nil)))) (.node (o_c19_26 P) (.node (o_c19_42 P) (.node (o_c19_74 P) (.node (o_c20_138 P) (.node (o_c30_266 P) .nil .nil) .nil) (.node (o_c20_202 P) .nil .nil)) (.node (o_c19_106 P) (.node (o_c20_170 P) .nil .nil) (.node (o_c30_234 P) .nil .nil))) (.node (o_c19_58 P) (.node (o_c19_90 P) (.node (o_c20_154 P) (.node (o_c30_282 P) .nil .nil) .nil) (.node (o_c20_218 P) .nil .nil)) (.node (o_c20_122 P) (.node (o_c20_186 P) .nil .nil) (.node (o_c30_250 P) .nil .nil))))) (.node (o_p_14 P) (.node (o_c19_22 P) (.node (o_c19_38 P) (.node (o_c19_70 P) (.node (o_c20_134 P) (.node (o_c30_262 P) .nil .nil) .nil) (.node (o_c20_198 P) .nil .nil)) (.node (o_c19_102 P) (.node (o_c20_166 P) .nil .nil) (.node (o_c20_230 P) .nil .nil))) (.node (o_c19_54 P) (.node (o_c19_86 P) (.node (o_c20_150 P) (.node (o_c30_278 P) .nil .nil) .nil) (.node (o_c20_214 P) .nil .nil)) (.node (o_c20_118 P) (.node (o_c20_182 P) .nil .nil) (.node (o_c30_246 P) .nil .nil)))) (.node (o_c19_30 P) (.node (o_c19_46 P) (.node (o_c19_78 P) (.node (o_c20_142 P) (.node (o_c30_270 P) .nil .nil) .nil) (.node (o_c20_206 P) .nil .nil)) (.node (o_c19_110 P) (.node (o_c20_174 P) .nil .nil) (.node (o_c30_238 P) .nil .nil))) (.node (o_c19_62 P) (.node (o_c19_94 P) (.node (o_c20_158 P) .nil .nil) (.node (o_c20_222 P) .nil .nil)) (.node (o_c20_126 P) (.node (o_c20_190 P) .nil .nil) (.node (o_c30_254 P) .nil .nil))))))))
noncomputable def heapF (P : Params) : Heap := ⟨⟨(boot_o_0 P) :: (boot_o_1 P) :: (boot_o_2 P) :: (o_c30_3 P) :: (boot_o_4 P) :: (boot_o_5 P) :: (boot_o_6 P) :: (boot_o_7 P) :: (boot_o_8 P) :: (boot_o_9 P) :: (boot_o_10 P) :: (o_p_11 P) :: (o_c30_12 P) :: (o_p_13 P) :: (o_p_14 P) :: (o_c19_15 P) :: (o_c19_16 P) :: (o_c19_17 P) :: (o_c19_18 P) :: (o_c19_19 P) :: (o_c19_20 P) :: (o_c19_21 P) :: (o_c19_22 P) :: (o_c19_23 P) :: (o_c19_24 P) :: (o_c19_25 P) :: (o_c19_26 P) :: (o_c19_27 P) :: (o_c19_28 P) :: (o_c19_29 P) :: (o_c19_30 P) :: (o_c19_31 P) :: (o_c19_32 P) :: (o_c19_33 P) :: (o_c19_34 P) :: (o_c19_35 P) :: (o_c19_36 P) :: (o_c19_37 P) :: (o_c19_38 P) :: (o_c19_39 P) :: (o_c19_40 P) :: (o_c19_41 P) :: (o_c19_42 P) :: (o_c19_43 P) :: (o_c19_44 P) :: (o_c19_45 P) :: (o_c19_46 P) :: (o_c19_47 P) :: (o_c19_48 P) :: (o_c19_49 P) :: (o_c19_50 P) :: (o_c19_51 P) :: (o_c19_52 P) :: (o_c19_53 P) :: (o_c19_54 P) :: (o_c19_55 P) :: (o_c19_56 P) :: (o_c19_57 P) :: (o_c19_58 P) :: (o_c19_59 P) :: (o_c19_60 P) :: (o_c19_61 P) :: (o_c19_62 P) :: (o_c19_63 P) :: (o_c19_64 P) :: (o_c19_65 P) :: (o_c19_66 P) :: (o_c19_67 P) :: (o_c19_68 P) :: (o_c19_69 P) :: (o_c19_70 P) :: (o_c19_71 P) :: (o_c19_72 P) :: (o_c19_73 P) :: (o_c19_74 P) :: (o_c19_75 P) :: (o_c19_76 P) :: (o_c19_77 P) :: (o_c19_78 P) :: (o_c19_79 P) :: (o_c19_80 P) :: (o_c19_81 P) :: (o_c19_82 P) :: (o_c19_83 P) :: (o_c19_84 P) :: (o_c19_85 P) :: (o_c19_86 P) :: (o_c19_87 P) :: (o_c19_88 P) :: (o_c19_89 P) :: (o_c19_90 P) :: (o_c19_91 P) :: (o_c19_92 P) :: (o_c19_93 P) :: (o_c19_94 P) :: (o_c19_95 P) :: (o_c19_96 P) :: (o_c19_97 P) :: (o_c19_98 P) :: (o_c19_99 P) :: (o_c19_100 P) :: (o_c19_101 P) :: (o_c19_102 P) :: (o_c19_103 P) :: (o_c19_104 P) :: (o_c19_105 P) :: (o_c19_106 P) :: (o_c19_107 P) :: (o_c19_108 P) :: (o_c19_109 P) :: (o_c19_110 P) :: (o_c19_111 P) :: (o_c19_112 P) :: (o_c19_113 P) :: (o_c20_114 P) :: (o_c20_115 P) :: (o_c20_116 P) :: (o_c20_117 P) :: (o_c20_118 P) :: (o_c20_119 P) :: (o_c20_120 P) :: (o_c20_121 P) :: (o_c20_122 P) :: (o_c20_123 P) :: (o_c20_124 P) :: (o_c20_125 P) :: (o_c20_126 P) :: (o_c20_127 P) :: (o_c20_128 P) :: (o_c20_129 P) :: (o_c20_130 P) :: (o_c20_131 P) :: (o_c20_132 P) :: (o_c20_133 P) :: (o_c20_134 P) :: (o_c20_135 P) :: (o_c20_136 P) :: (o_c20_137 P) :: (o_c20_138 P) :: (o_c20_139 P) :: (o_c20_140 P) :: (o_c20_141 P) :: (o_c20_142 P) :: (o_c20_143 P) :: (o_c20_144 P) :: (o_c20_145 P) :: (o_c20_146 P) :: (o_c20_147 P) :: (o_c20_148 P) :: (o_c20_149 P) :: (o_c20_150 P) :: (o_c20_151 P) :: (o_c20_152 P) :: (o_c20_153 P) :: (o_c20_154 P) :: (o_c20_155 P) :: (o_c20_156 P) :: (o_c20_157 P) :: (o_c20_158 P) :: (o_c20_159 P) :: (o_c20_160 P) :: (o_c20_161 P) :: (o_c20_162 P) :: (o_c20_163 P) :: (o_c20_164 P) :: (o_c20_165 P) :: (o_c20_166 P) :: (o_c20_167 P) :: (o_c20_168 P) :: (o_c20_169 P) :: (o_c20_170 P) :: (o_c20_171 P) :: (o_c20_172 P) :: (o_c20_173 P) :: (o_c20_174 P) :: (o_c20_175 P) :: (o_c20_176 P) :: (o_c20_177 P) :: (o_c20_178 P) :: (o_c20_179 P) :: (o_c20_180 P) :: (o_c20_181 P) :: (o_c20_182 P) :: (o_c20_183 P) :: (o_c20_184 P) :: (o_c20_185 P) :: (o_c20_186 P) :: (o_c20_187 P) :: (o_c20_188 P) :: (o_c20_189 P) :: (o_c20_190 P) :: (o_c20_191 P) :: (o_c20_192 P) :: (o_c20_193 P) :: (o_c20_194 P) :: (o_c20_195 P) :: (o_c20_196 P) :: (o_c20_197 P) :: (o_c20_198 P) :: (o_c20_199 P) :: (o_c20_200 P) :: (o_c20_201 P) :: (o_c20_202 P) :: (o_c20_203 P) :: (o_c20_204 P) :: (o_c20_205 P) :: (o_c20_206 P) :: (o_c20_207 P) :: (o_c20_208 P) :: (o_c20_209 P) :: (o_c20_210 P) :: (o_c20_211 P) :: (o_c20_212 P) :: (o_c20_213 P) :: (o_c20_214 P) :: (o_c20_215 P) :: (o_c20_216 P) :: (o_c20_217 P) :: (o_c20_218 P) :: (o_c20_219 P) :: (o_c20_220 P) :: (o_c20_221 P) :: (o_c20_222 P) :: (o_c20_223 P) :: (o_c20_224 P) :: (o_c20_225 P) :: (o_c20_226 P) :: (o_c20_227 P) :: (o_c20_228 P) :: (o_c20_229 P) :: (o_c20_230 P) :: (o_c20_231 P) :: (o_c20_232 P) :: (o_c20_233 P) :: (o_c30_234 P) :: (o_c30_235 P) :: (o_c30_236 P) :: (o_c30_237 P) :: (o_c30_238 P) :: (o_c30_239 P) :: (o_c30_240 P) :: (o_c30_241 P) :: (o_c30_242 P) :: (o_c30_243 P) :: (o_c30_244 P) :: (o_c30_245 P) :: (o_c30_246 P) :: (o_c30_247 P) :: (o_c30_248 P) :: (o_c30_249 P) :: (o_c30_250 P) :: (o_c30_251 P) :: (o_c30_252 P) :: (o_c30_253 P) :: (o_c30_254 P) :: (o_c30_255 P) :: (o_c30_256 P) :: (o_c30_257 P) :: (o_c30_258 P) :: (o_c30_259 P) :: (o_c30_260 P) :: (o_c30_261 P) :: (o_c30_262 P) :: (o_c30_263 P) :: (o_c30_264 P) :: (o_c30_265 P) :: (o_c30_266 P) :: (o_c30_267 P) :: (o_c30_268 P) :: (o_c30_269 P) :: (o_c30_270 P) :: (o_c30_271 P) :: (o_c30_272 P) :: (o_c30_273 P) :: (o_c30_274 P) :: (o_c30_275 P) :: (o_c30_276 P) :: (o_c30_277 P) :: (o_c30_278 P) :: (o_c30_279 P) :: (o_c30_280 P) :: (o_c30_281 P) :: (o_c30_282 P) :: (o_c30_283 P) :: (o_c30_284 P) :: []⟩, {}⟩
noncomputable def heapK (P : Params) : Frag := (nat_lit 2, (boot_o_2 P)) :: (nat_lit 3, (o_c30_3 P)) :: (nat_lit 15, (o_c19_15 P)) :: (nat_lit 17, (o_c19_17 P)) :: (nat_lit 18, (o_c19_18 P)) :: (nat_lit 20, (o_c19_20 P)) :: (nat_lit 21, (o_c19_21 P)) :: (nat_lit 22, (o_c19_22 P)) :: (nat_lit 23, (o_c19_23 P)) :: (nat_lit 25, (o_c19_25 P)) :: (nat_lit 26, (o_c19_26 P)) :: (nat_lit 28, (o_c19_28 P)) :: (nat_lit 29, (o_c19_29 P)) :: (nat_lit 30, (o_c19_30 P)) :: (nat_lit 32, (o_c19_32 P)) :: (nat_lit 33, (o_c19_33 P)) :: (nat_lit 35, (o_c19_35 P)) :: (nat_lit 36, (o_c19_36 P)) :: (nat_lit 37, (o_c19_37 P)) :: (nat_lit 39, (o_c19_39 P)) :: (nat_lit 40, (o_c19_40 P)) :: (nat_lit 42, (o_c19_42 P)) :: (nat_lit 43, (o_c19_43 P)) :: (nat_lit 44, (o_c19_44 P)) :: (nat_lit 47, (o_c19_47 P)) :: (nat_lit 48, (o_c19_48 P)) :: (nat_lit 49, (o_c19_49 P)) :: (nat_lit 51, (o_c19_51 P)) :: (nat_lit 52, (o_c19_52 P)) :: (nat_lit 54, (o_c19_54 P)) :: (nat_lit 55, (o_c19_55 P)) :: (nat_lit 56, (o_c19_56 P)) :: (nat_lit 58, (o_c19_58 P)) :: (nat_lit 59, (o_c19_59 P)) :: (nat_lit 61, (o_c19_61 P)) :: (nat_lit 62, (o_c19_62 P)) :: (nat_lit 63, (o_c19_63 P)) :: (nat_lit 64, (o_c19_64 P)) :: (nat_lit 66, (o_c19_66 P)) :: (nat_lit 67, (o_c19_67 P)) :: (nat_lit 69, (o_c19_69 P)) :: (nat_lit 70, (o_c19_70 P)) :: (nat_lit 71, (o_c19_71 P)) :: (nat_lit 73, (o_c19_73 P)) :: (nat_lit 74, (o_c19_74 P)) :: (nat_lit 76, (o_c19_76 P)) :: (nat_lit 77, (o_c19_77 P)) :: (nat_lit 78, (o_c19_78 P)) :: (nat_lit 81, (o_c19_81 P)) :: (nat_lit 82, (o_c19_82 P)) :: (nat_lit 83, (o_c19_83 P)) :: (nat_lit 86, (o_c19_86 P)) :: (nat_lit 87, (o_c19_87 P)) :: (nat_lit 88, (o_c19_88 P)) :: (nat_lit 91, (o_c19_91 P)) :: (nat_lit 92, (o_c19_92 P)) :: (nat_lit 100, (o_c19_100 P)) :: (nat_lit 102, (o_c19_102 P)) :: (nat_lit 103, (o_c19_103 P)) :: (nat_lit 105, (o_c19_105 P)) :: (nat_lit 106, (o_c19_106 P)) :: (nat_lit 107, (o_c19_107 P)) :: (nat_lit 108, (o_c19_108 P)) :: (nat_lit 109, (o_c19_109 P)) :: (nat_lit 110, (o_c19_110 P)) :: (nat_lit 111, (o_c19_111 P)) :: (nat_lit 121, (o_c20_121 P)) :: (nat_lit 123, (o_c20_123 P)) :: (nat_lit 124, (o_c20_124 P)) :: (nat_lit 126, (o_c20_126 P)) :: (nat_lit 127, (o_c20_127 P)) :: (nat_lit 128, (o_c20_128 P)) :: (nat_lit 130, (o_c20_130 P)) :: (nat_lit 131, (o_c20_131 P)) :: (nat_lit 133, (o_c20_133 P)) :: (nat_lit 134, (o_c20_134 P)) :: (nat_lit 135, (o_c20_135 P)) :: (nat_lit 137, (o_c20_137 P)) :: (nat_lit 138, (o_c20_138 P)) :: (nat_lit 140, (o_c20_140 P)) :: (nat_lit 141, (o_c20_141 P)) :: (nat_lit 142, (o_c20_142 P)) :: (nat_lit 144, (o_c20_144 P)) :: (nat_lit 145, (o_c20_145 P)) :: (nat_lit 147, (o_c20_147 P)) :: (nat_lit 148, (o_c20_148 P)) :: (nat_lit 149, (o_c20_149 P)) :: (nat_lit 151, (o_c20_151 P)) :: (nat_lit 152, (o_c20_152 P)) :: (nat_lit 154, (o_c20_154 P)) :: (nat_lit 155, (o_c20_155 P)) :: (nat_lit 156, (o_c20_156 P)) :: (nat_lit 158, (o_c20_158 P)) :: (nat_lit 159, (o_c20_159 P)) :: (nat_lit 161, (o_c20_161 P)) :: (nat_lit 162, (o_c20_162 P)) :: (nat_lit 163, (o_c20_163 P)) :: (nat_lit 165, (o_c20_165 P)) :: (nat_lit 166, (o_c20_166 P)) :: (nat_lit 168, (o_c20_168 P)) :: (nat_lit 169, (o_c20_169 P)) :: (nat_lit 170, (o_c20_170 P)) :: (nat_lit 172, (o_c20_172 P)) :: (nat_lit 173, (o_c20_173 P)) :: (nat_lit 175, (o_c20_175 P)) :: (nat_lit 176, (o_c20_176 P)) :: (nat_lit 177, (o_c20_177 P)) :: (nat_lit 180, (o_c20_180 P)) :: (nat_lit 181, (o_c20_181 P)) :: (nat_lit 182, (o_c20_182 P)) :: (nat_lit 184, (o_c20_184 P)) :: (nat_lit 185, (o_c20_185 P)) :: (nat_lit 187, (o_c20_187 P)) :: (nat_lit 188, (o_c20_188 P)) :: (nat_lit 189, (o_c20_189 P)) :: (nat_lit 191, (o_c20_191 P)) :: (nat_lit 192, (o_c20_192 P)) :: (nat_lit 194, (o_c20_194 P)) :: (nat_lit 195, (o_c20_195 P)) :: (nat_lit 196, (o_c20_196 P)) :: (nat_lit 198, (o_c20_198 P)) :: (nat_lit 199, (o_c20_199 P)) :: (nat_lit 201, (o_c20_201 P)) :: (nat_lit 202, (o_c20_202 P)) :: (nat_lit 203, (o_c20_203 P)) :: (nat_lit 206, (o_c20_206 P)) :: (nat_lit 207, (o_c20_207 P)) :: (nat_lit 208, (o_c20_208 P)) :: (nat_lit 211, (o_c20_211 P)) :: (nat_lit 212, (o_c20_212 P)) :: (nat_lit 213, (o_c20_213 P)) :: (nat_lit 215, (o_c20_215 P)) :: (nat_lit 216, (o_c20_216 P)) :: (nat_lit 218, (o_c20_218 P)) :: (nat_lit 219, (o_c20_219 P)) :: (nat_lit 220, (o_c20_220 P)) :: (nat_lit 222, (o_c20_222 P)) :: (nat_lit 223, (o_c20_223 P)) :: (nat_lit 225, (o_c20_225 P)) :: (nat_lit 226, (o_c20_226 P)) :: (nat_lit 227, (o_c20_227 P)) :: (nat_lit 228, (o_c20_228 P)) :: (nat_lit 229, (o_c20_229 P)) :: (nat_lit 230, (o_c20_230 P)) :: (nat_lit 231, (o_c20_231 P)) :: (nat_lit 234, (o_c30_234 P)) :: (nat_lit 236, (o_c30_236 P)) :: (nat_lit 237, (o_c30_237 P)) :: (nat_lit 239, (o_c30_239 P)) :: (nat_lit 240, (o_c30_240 P)) :: (nat_lit 241, (o_c30_241 P)) :: (nat_lit 243, (o_c30_243 P)) :: (nat_lit 244, (o_c30_244 P)) :: (nat_lit 246, (o_c30_246 P)) :: (nat_lit 247, (o_c30_247 P)) :: (nat_lit 248, (o_c30_248 P)) :: (nat_lit 251, (o_c30_251 P)) :: (nat_lit 252, (o_c30_252 P)) :: (nat_lit 253, (o_c30_253 P)) :: (nat_lit 256, (o_c30_256 P)) :: (nat_lit 257, (o_c30_257 P)) :: (nat_lit 258, (o_c30_258 P)) :: (nat_lit 261, (o_c30_261 P)) :: (nat_lit 262, (o_c30_262 P)) :: (nat_lit 263, (o_c30_263 P)) :: (nat_lit 265, (o_c30_265 P)) :: (nat_lit 266, (o_c30_266 P)) :: (nat_lit 268, (o_c30_268 P)) :: (nat_lit 269, (o_c30_269 P)) :: (nat_lit 270, (o_c30_270 P)) :: (nat_lit 273, (o_c30_273 P)) :: (nat_lit 274, (o_c30_274 P)) :: (nat_lit 275, (o_c30_275 P)) :: (nat_lit 278, (o_c30_278 P)) :: (nat_lit 279, (o_c30_279 P)) :: (nat_lit 280, (o_c30_280 P)) :: (nat_lit 283, (o_c30_283 P)) :: (nat_lit 284, (o_c30_284 P)) :: []
def addrsK : List Addr := nat_lit 2 :: nat_lit 3 :: nat_lit 15 :: nat_lit 17 :: nat_lit 18 :: nat_lit 20 :: nat_lit 21 :: nat_lit 22 :: nat_lit 23 :: nat_lit 25 :: nat_lit 26 :: nat_lit 28 :: nat_lit 29 :: nat_lit 30 :: nat_lit 32 :: nat_lit 33 :: nat_lit 35 :: nat_lit 36 :: nat_lit 37 :: nat_lit 39 :: nat_lit 40 :: nat_lit 42 :: nat_lit 43 :: nat_lit 44 :: nat_lit 47 :: nat_lit 48 :: nat_lit 49 :: nat_lit 51 :: nat_lit 52 :: nat_lit 54 :: nat_lit 55 :: nat_lit 56 :: nat_lit 58 :: nat_lit 59 :: nat_lit 61 :: nat_lit 62 :: nat_lit 63 :: nat_lit 64 :: nat_lit 66 :: nat_lit 67 :: nat_lit 69 :: nat_lit 70 :: nat_lit 71 :: nat_lit 73 :: nat_lit 74 :: nat_lit 76 :: nat_lit 77 :: nat_lit 78 :: nat_lit 81 :: nat_lit 82 :: nat_lit 83 :: nat_lit 86 :: nat_lit 87 :: nat_lit 88 :: nat_lit 91 :: nat_lit 92 :: nat_lit 100 :: nat_lit 102 :: nat_lit 103 :: nat_lit 105 :: nat_lit 106 :: nat_lit 107 :: nat_lit 108 :: nat_lit 109 :: nat_lit 110 :: nat_lit 111 :: nat_lit 121 :: nat_lit 123 :: nat_lit 124 :: nat_lit 126 :: nat_lit 127 :: nat_lit 128 :: nat_lit 130 :: nat_lit 131 :: nat_lit 133 :: nat_lit 134 :: nat_lit 135 :: nat_lit 137 :: nat_lit 138 :: nat_lit 140 :: nat_lit 141 :: nat_lit 142 :: nat_lit 144 :: nat_lit 145 :: nat_lit 147 :: nat_lit 148 :: nat_lit 149 :: nat_lit 151 :: nat_lit 152 :: nat_lit 154 :: nat_lit 155 :: nat_lit 156 :: nat_lit 158 :: nat_lit 159 :: nat_lit 161 :: nat_lit 162 :: nat_lit 163 :: nat_lit 165 :: nat_lit 166 :: nat_lit 168 :: nat_lit 169 :: nat_lit 170 :: nat_lit 172 :: nat_lit 173 :: nat_lit 175 :: nat_lit 176 :: nat_lit 177 :: nat_lit 180 :: nat_lit 181 :: nat_lit 182 :: nat_lit 184 :: nat_lit 185 :: nat_lit 187 :: nat_lit 188 :: nat_lit 189 :: nat_lit 191 :: nat_lit 192 :: nat_lit 194 :: nat_lit 195 :: nat_lit 196 :: nat_lit 198 :: nat_lit 199 :: nat_lit 201 :: nat_lit 202 :: nat_lit 203 :: nat_lit 206 :: nat_lit 207 :: nat_lit 208 :: nat_lit 211 :: nat_lit 212 :: nat_lit 213 :: nat_lit 215 :: nat_lit 216 :: nat_lit 218 :: nat_lit 219 :: nat_lit 220 :: nat_lit 222 :: nat_lit 223 :: nat_lit 225 :: nat_lit 226 :: nat_lit 227 :: nat_lit 228 :: nat_lit 229 :: nat_lit 230 :: nat_lit 231 :: nat_lit 234 :: nat_lit 236 :: nat_lit 237 :: nat_lit 239 :: nat_lit 240 :: nat_lit 241 :: nat_lit 243 :: nat_lit 244 :: nat_lit 246 :: nat_lit 247 :: nat_lit 248 :: nat_lit 251 :: nat_lit 252 :: nat_lit 253 :: nat_lit 256 :: nat_lit 257 :: nat_lit 258 :: nat_lit 261 :: nat_lit 262 :: nat_lit 263 :: nat_lit 265 :: nat_lit 266 :: nat_lit 268 :: nat_lit 269 :: nat_lit 270 :: nat_lit 273 :: nat_lit 274 :: nat_lit 275 :: nat_lit 278 :: nat_lit 279 :: nat_lit 280 :: nat_lit 283 :: nat_lit 284 :: []
abbrev an6 : Option Value := some (Value.ref 6)
theorem h_open : ∀ w : World, (fencedOpening treeTable pg w 3380).map (fun s => (s.heap, s.gens, s.drawn, s.toks)) = some (boot_heap w.params, Array.mk [], boot_drawn, boot_toks) :=
  boot_open (by kernel_rfl) (by decide) (fun s => by kernel_rfl)
theorem h_size (w : World) : ((boot_heap w.params).isNs mainGlobals && (Array.mk [] : Array GenState).size == 0, (boot_heap w.params).objs.size, (boot_heap w.params).nsMap mainGlobals (Str.ofString "__annotations__")) = (true, 11, an6) := by kernel_rfl
theorem h_pre (w : World) (os : OsState) : topGo treeTable pg w 11 an6 12 ⟨boot_heap w.params, Array.mk [], boot_drawn, boot_toks, os⟩ (topStub pg) =
    some ((⟨tr_p w.params, 15, {}, #[], {}, 187, os⟩ : SharedT).abs, ⟨denote treeTable cE, cE, q0, [topFrame q0]⟩) := by kernel_rfl
theorem h_block (w : World) (os : OsState) : segRun treeTable pg w 11 an6 1 1 (⟨tr_p w.params, 15, {}, #[], {}, 187, os⟩ : SharedT).abs (blockOf bd0 env0 cE q0 [topFrame q0]) =
    some (.next, (⟨tr_p w.params, 15, {}, #[], {}, 187, os⟩ : SharedT).abs, cE, q0) := by kernel_rfl
theorem h_run1 (w : World) (os : OsState) : segRunT treeTable pg w 11 an6 1 661 ⟨tr_p w.params, 15, {}, #[], {}, 187, os⟩ (piecesOf sts1 env0 cE q0 [topFrame q0]) =
    some (.next, ⟨tr_c19 w.params, 114, {}, #[], {}, 345, os⟩, cE, qa) := by kernel_rfl
theorem h_run2 (w : World) (os : OsState) : segRunT treeTable pg w 11 an6 1 709 ⟨tr_c19 w.params, 114, {}, #[], {}, 345, os⟩ (piecesOf sts2 env0 cE qa [topFrame q0]) =
    some (.next, ⟨tr_c20 w.params, 234, {}, #[], {}, 506, os⟩, cE, qb) := by kernel_rfl
theorem h_run3 (w : World) (os : OsState) : segRunT treeTable pg w 11 an6 1 260 ⟨tr_c20 w.params, 234, {}, #[], {}, 506, os⟩ (piecesOf sts3 env0 cE qb [topFrame q0]) =
    some (.next, ⟨tr_c30 w.params, 285, {}, #[], {}, 572, os⟩, cE, qc) := by kernel_rfl
theorem h_fin (w : World) (os : OsState) : topRun treeTable pg w 11 an6 2 (⟨tr_c30 w.params, 285, {}, #[], {}, 572, os⟩ : SharedT).abs (restOf [] env0 cE qc [topFrame q0]) =
    some ⟨heapF w.params, #[], {}, 572, os⟩ := by kernel_rfl
theorem h_bd : bd0 = sts1 ++ (sts2 ++ (sts3 ++ [])) := by kernel_rfl
theorem h_run (w : World) (os : OsState) : topRun treeTable pg w 11 an6 (12 + (1 + (661 + (709 + (260 + 2))))) ⟨boot_heap w.params, Array.mk [], boot_drawn, boot_toks, os⟩ (topStub pg) = some ⟨heapF w.params, #[], {}, 572, os⟩ := by
  refine go_top (h_pre w os) (piece_block (h_block w os) ?_)
  rw [h_bd]
  exact piece_app (segRun_of (h_run1 w os)) (piece_app (segRun_of (h_run2 w os)) (piece_app (segRun_of (h_run3 w os)) (h_fin w os)))
noncomputable abbrev Sf (w : World) (os : OsState) : Shared := ⟨heapF w.params, #[], {}, 572, os⟩
noncomputable abbrev Xt1 : Shared → Bool := fun s => xlAt vw [] s && recOk (RowW.records PySem.Challenge.rw_no0077_01.row.toRowW) s
noncomputable abbrev mods1 : List Str := importedModules pg.main.body
theorem l_0 (w : World) (os : OsState) : (staticsOk mods1 (boot_heap w.params) (heapF w.params) && namesBound pg (heapF w.params) && gensDone (Sf w os) && laidKept (boot_heap w.params) (heapF w.params)) = true := by kernel_rfl
theorem l_1 (w : World) (os : OsState) : seen ((recsOf vw).map (·.name)) (ownsOf vw) [] { Sf w os with gens := #[] } = expectedOf vw := by kernel_rfl
theorem l_2 (w : World) (os : OsState) : (Sf w os).heap.bltView = bltViewBooted := by kernel_rfl
theorem l_3 (w : World) (os : OsState) : ((Sf w os).heap.keysOk (looseW vw []) ((recsOf vw).map (·.name)) ((litsOf vw).map (·.1)) ((clssOf vw (looseW vw [])).map (·.name)) && (Sf w os).heap.accountedOkI mods1 && (Sf w os).heap.isNs mainGlobals && (Sf w os).heap.isNs builtinsNs && tablesOk vw (Sf w os).heap && Xt1 (Sf w os) && (if true then (Sf w os).gens.size == 0 else !leftWithCleanup (Sf w os).gens)) = true := by kernel_rfl
theorem l_4 (w : World) (os : OsState) : tabsOk vw (Sf w os) = true := by kernel_rfl
theorem l_5 (w : World) (os : OsState) : pinSeenD vw (drecsOf vw) (Sf w os) = pinGoodD (drecsOf vw) := by kernel_rfl
theorem l_6 (w : World) (os : OsState) : plainSeenE vw (looseW vw []) (Sf w os) = plainGoodE vw (looseW vw []) := by kernel_rfl
theorem l_7 (w : World) (os : OsState) : plainSeenD vw [] (Sf w os) = plainGoodD vw [] := by kernel_rfl
theorem l_8 (w : World) (os : OsState) : wideSeen vw (Sf w os) = wideGood vw := by kernel_rfl
theorem l_9 (w : World) (os : OsState) : clsSeenW vw [] (Sf w os) = clsGoodW vw [] := by kernel_rfl
theorem h_addrs : ∀ P, addrsK = (heapK P).map (·.1) := fun _ => by kernel_rfl
theorem l_10 (w : World) (os : OsState) : (kHook heapK addrsK h_addrs).obs (Sf w os) = (kHook heapK addrsK h_addrs).val w := by kernel_rfl
theorem l_seen (w : World) (os : OsState) : openSeen vw [] mods1 Xt1 true (Sf w os) = openGood vw [] :=
  looks_pair (l_1 w os) (looks_pair (l_2 w os) (looks_pair (l_3 w os) (looks_pair (l_4 w os) (looks_pair (l_5 w os) (looks_pair (l_6 w os) (looks_pair (l_7 w os) (looks_pair (l_8 w os) (l_9 w os))))))))
theorem h_left : LeftO pg vw [] Xt1 (kHook heapK addrsK h_addrs).obs (kHook heapK addrsK h_addrs).val 3380 :=
  LeftO.of_pieces (H₀ := boot_heap) (H₁ := heapF) (gs₀ := Array.mk []) (gs₁ := #[]) (d₀ := boot_drawn) (d₁ := {}) (k₀ := boot_toks) (k₁ := 572) (m₀ := 11) (ann := an6) (M := 12 + (1 + (661 + (709 + (260 + 2)))))
    h_open h_size h_run (by decide) (fun w => funext fun os => looks_pair (l_0 w os) (looks_pair (l_seen w os) (l_10 w os)))
section
abbrev rw1 : OpenLaw := PySem.Challenge.rw_no0077_01
set_option maxHeartbeats 0
theorem s_1 : sreFenced pg.main = true := by kernel_rfl
theorem s_2 : ((moduleNames pg.main.body).isEmpty || lookedIntoSs (moduleNames pg.main.body) pg.main.body) = true := by kernel_rfl
theorem s_3 : namesResolve pg = true := by kernel_rfl
theorem s_4 : (pg.boundNames.all (fun n => !worldNames.contains n)) = true := by kernel_rfl
theorem s_5 : noRoadLSs { strict := !(importedModules pg.main.body).all cThrough.contains, foot := none, bare := (["vars", "dir", "locals"] : List Str).filter (readsOut pg pg.main.body) } pg.main.body = true := by kernel_rfl
theorem s_6 : (namesMeet pg pg.main.body fun _ n => attrL n) = true := by kernel_rfl
theorem s_look : looksOpen pg = true := look_both (look_both (look_both (look_both (look_both s_1 s_2) s_3) s_4) s_5) s_6
theorem s_part : rw1.row.partSaid = true := by
  unfold OpenRow.partSaid
  repeat' (first | with_reducible exact s_look | with_reducible refine look_both ?_ ?_)
  all_goals kernel_rfl
theorem s_row : rw1.row.wellSaid = true := by
  unfold OpenRow.wellSaid
  repeat' (first | with_reducible exact s_part | with_reducible refine look_both ?_ ?_)
  all_goals kernel_rfl
theorem s_law : rw1.wellSaid = true := by
  unfold OpenLaw.wellSaid
  repeat' (first | with_reducible exact s_row | with_reducible refine look_both ?_ ?_)
  all_goals kernel_rfl
end
end Mine
end
section
open PySem PySem.W PySem.Spec PySem.Calls PyProof.Rows PyProof.V
namespace Mine
/-! words of the walks -/
theorem all_ne_of_lt {x : Addr} {l : List (Addr × Obj)} (h : AllLt x l) : ∀ p ∈ l, p.1 ≠ x := fun p hp => Nat.ne_of_lt (tb_ltOf h p hp)
theorem all_ne_app {x : Addr} {l l' : List (Addr × Obj)} (h : ∀ p ∈ l, p.1 ≠ x) (h' : ∀ p ∈ l', p.1 ≠ x) : ∀ p ∈ l ++ l', p.1 ≠ x := fun p hp => (List.mem_append.mp hp).elim (h p) (h' p)
abbrev Dz (w : World) := strKind PySem.Challenge.rw_no0077_01.row.prog w
abbrev Iz (w : World) := intKind PySem.Challenge.rw_no0077_01.row.prog w
/-- the dict that the draws are taken from -/
def IsDraws (w : World) (o : Obj) : Prop := ∃ g x tg tx, o.IsDictOf (Dz w) [(Str.ofString "great", .int g tg), (Str.ofString "mixed", .int x tx)] ∧ 0 ≤ g ∧ 0 ≤ x ∧ x < 2147483647
theorem flat_draws {g x : Int} {tg tx : Tok} : FlatPairs PyData.str [(Str.ofString "great", .int g tg), (Str.ofString "mixed", .int x tx)] [(.str (Str.ofString "great"), .int g), (.str (Str.ofString "mixed"), .int x)] :=
  .cons (Flat.int _ _) (.cons (Flat.int _ _) .nil)
theorem News.drop1 {h₀ h : Heap} {L : Addr} {p : Addr × Obj} {l : List (Addr × Obj)} (N : News h₀ L h (p :: l)) : News h₀ L h l := fun q hq => N q (.tail _ hq)
theorem room_of {A : Around} (h : A.depth < 500) : A.depth + Builtin.pylongFrames < recursionLimit := by
  have : Builtin.pylongFrames ≤ 400 := by decide +kernel
  simp only [recursionLimit]; omega
/-- asks a frame with this word for an answer? -/
def elc (c : Str) : Bool := !([Str.ofString "ack", Str.ofString "padding", Str.ofString "close"].any (· == c))
def flc (c : Str) : Bool := !([Str.ofString "ack", Str.ofString "close"].any (· == c))
theorem News.sub {h₀ h : Heap} {L : Addr} {l l' : List (Addr × Obj)} (N : News h₀ L h l) (hs : ∀ p ∈ l', p ∈ l) : News h₀ L h l' := fun p hp => N p (hs p hp)
/-- what a call that was given a part of the ledger leaves of the whole -/
theorem news_back {h₀ h g h' : Heap} {L L' : Addr} {m' : Str → Option Value} {led new rest : List (Addr × Obj)} (N : News h₀ L h (led ++ rest)) (G : GSub h g (led.map (·.1))) (F' : Fr g L' h' m') (K : News h₀ L h' new) (ho : ∀ p ∈ rest, p.1 ∉ led.map (·.1)) : News h₀ L h' (new ++ rest) := by
  intro p hp
  rcases List.mem_append.mp hp with hp | hp
  · exact K p hp
  · have := N p (List.mem_append.mpr (.inr hp))
    exact ⟨F'.keep _ _ (G _ _ this.1 (ho p hp)), this.2⟩
theorem seqIndex0 (v : Value) (tl : List Value) : seqIndex? 0 (v :: tl).length = some 0 := by
  have h : (0 : Int) < ((v :: tl).length : Nat) := by simp only [List.length_cons]; omega
  unfold seqIndex?
  simp [h]
theorem ne_nil_list {prog : Program} {w : World} {A : Around} {E : Value → Shared → Prop} {s : Shared} {l b : Addr} {items : Array Value} {Q : Value → Shared → Prop} (hl : s.heap.IsList l items) (hb : s.heap.IsList b #[]) (hu : A.units < cLine) (h : Q (.bool (items.size != 0)) s) :
    wpAny (model prog w) A (compareOp .NotEq (.ref l) (.ref b)) Q E s := by
  show wpAny _ _ (richCompare .NotEq (.ref l) (.ref b)) Q E s
  by_cases hz : items.size = 0
  · have := SeqAt.RcNeAt.lists (e := fun _ => true) hl hb (by simp [hz]) hu (fun j h1 h2 => absurd h1 (by omega)) prog w E Q
    refine this ?_
    have e : (items.size != 0) = false := by simp [hz]
    rw [e] at h
    rw [hz]
    exact h
  · refine SeqAt.RcNeAt.lists_lengths hl hb (by simp [hz]) hu prog w E Q ?_
    have e : (items.size != 0) = true := by simp [hz]
    rw [e] at h
    exact h
theorem off_two {a b : Addr} {oa ob : Obj} {rest : List (Addr × Obj)} (h1 : ∀ p ∈ rest, p.1 ≠ a) (h2 : ∀ p ∈ rest, p.1 ≠ b) : ∀ p ∈ rest, p.1 ∉ [(a, oa), (b, ob)].map (·.1) := fun p hp hm => by
  simp only [List.map_cons, List.map_nil, List.mem_cons, List.not_mem_nil, or_false] at hm
  exact hm.elim (h1 p hp) (h2 p hp)
/-- what was made stands as it stood -/
abbrev KeepsN (h₀ : Heap) (L : Addr) (h h' : Heap) : Prop := ∀ news, News h₀ L h news → News h₀ L h' news
theorem keepsN_of {h₀ h g h' : Heap} {L L' : Addr} {m' : Str → Option Value} {led : List (Addr × Obj)} (N : News h₀ L h led) (G : GSub h g (led.map (·.1))) (F' : Fr g L' h' m') (K : News h₀ L h' led) : KeepsN h₀ L h h' := by
  intro news M p hp
  have e := M p hp
  refine ⟨?_, e.2⟩
  by_cases hb : p.1 ∈ led.map (·.1)
  · obtain ⟨q, hq, hqe⟩ := List.mem_map.mp hb
    have h1 := (N q hq).1
    have h2 := (K q hq).1
    rw [hqe] at h1 h2
    rw [e.1] at h1
    rw [h2, h1]
  · exact F'.keep _ _ (G _ _ e.1 hb)
theorem AllLt.up {a b : Addr} {l : List (Addr × Obj)} (h : AllLt a l) (k : a < b) : AllLt b l := allLt_of fun p hp => Nat.lt_trans (tb_ltOf h p hp) k
theorem wpAny_toks {α : Type} {M : Model} {A : Around} {t : Sem α} {Q : α → Shared → Prop} {E : Value → Shared → Prop} {s : Shared} (h : ∀ tk, wpAny M A t Q E ⟨s.heap, s.gens, s.drawn, tk, s.os⟩) : wpAny M A t Q E s := h s.toks
theorem sub5 {α : Type} (a b c d e f g : α) (l : List α) : ∀ p ∈ a :: b :: c :: d :: e :: l, p ∈ a :: b :: c :: d :: e :: f :: g :: l := by
  intro p hp
  simp only [List.mem_cons] at hp ⊢
  rcases hp with h | h | h | h | h | h <;> simp [h]
structure SpV where
  (t0 t1 t2 t3 t4 t5 t6 t7 t8 t9 t10 t11 t12 t13 t14 : Tok)
  (v3 v5 v6 v7 v8 v9 v10 v11 v12 v13 v14 : Value)
abbrev SpE (P : Params) (c : SpV) (nm nn se lel : Value) : List DictEntry := [⟨PyData.keyHash P (Str.ofString "name"), .str (Str.ofString "name") c.t0, nm⟩,
    ⟨PyData.keyHash P (Str.ofString "next_number"), .str (Str.ofString "next_number") c.t1, nn⟩,
    ⟨PyData.keyHash P (Str.ofString "sent"), .str (Str.ofString "sent") c.t2, se⟩,
    ⟨PyData.keyHash P (Str.ofString "largest_acked"), .str (Str.ofString "largest_acked") c.t3, c.v3⟩,
    ⟨PyData.keyHash P (Str.ofString "last_eliciting_time"), .str (Str.ofString "last_eliciting_time") c.t4, lel⟩,
    ⟨PyData.keyHash P (Str.ofString "loss_time"), .str (Str.ofString "loss_time") c.t5, c.v5⟩,
    ⟨PyData.keyHash P (Str.ofString "received"), .str (Str.ofString "received") c.t6, c.v6⟩,
    ⟨PyData.keyHash P (Str.ofString "largest_seen"), .str (Str.ofString "largest_seen") c.t7, c.v7⟩,
    ⟨PyData.keyHash P (Str.ofString "largest_time"), .str (Str.ofString "largest_time") c.t8, c.v8⟩,
    ⟨PyData.keyHash P (Str.ofString "first_unacked"), .str (Str.ofString "first_unacked") c.t9, c.v9⟩,
    ⟨PyData.keyHash P (Str.ofString "unacked"), .str (Str.ofString "unacked") c.t10, c.v10⟩,
    ⟨PyData.keyHash P (Str.ofString "wants_now"), .str (Str.ofString "wants_now") c.t11, c.v11⟩,
    ⟨PyData.keyHash P (Str.ofString "has_new"), .str (Str.ofString "has_new") c.t12, c.v12⟩,
    ⟨PyData.keyHash P (Str.ofString "ecn"), .str (Str.ofString "ecn") c.t13, c.v13⟩,
    ⟨PyData.keyHash P (Str.ofString "is_gone"), .str (Str.ofString "is_gone") c.t14, c.v14⟩]
structure PkV where
  (t0 t1 t2 t3 t4 t5 : Tok)
  (v0 v1 v3 : Value)
abbrev PkE (P : Params) (c : PkV) (sz el fl : Value) : List DictEntry := [⟨PyData.keyHash P (Str.ofString "number"), .str (Str.ofString "number") c.t0, c.v0⟩,
    ⟨PyData.keyHash P (Str.ofString "time"), .str (Str.ofString "time") c.t1, c.v1⟩,
    ⟨PyData.keyHash P (Str.ofString "size"), .str (Str.ofString "size") c.t2, sz⟩,
    ⟨PyData.keyHash P (Str.ofString "frames"), .str (Str.ofString "frames") c.t3, c.v3⟩,
    ⟨PyData.keyHash P (Str.ofString "is_eliciting"), .str (Str.ofString "is_eliciting") c.t4, el⟩,
    ⟨PyData.keyHash P (Str.ofString "in_flight"), .str (Str.ofString "in_flight") c.t5, fl⟩]
/-- the dict of a Space's own names -/
def IsSp (P : Params) (o : Obj) (nm nn se lel : Value) : Prop := ∃ c : SpV, o = dictOf (SpE P c nm nn se lel) 15
/-- the dict of a packet's own names -/
def IsPk (P : Params) (o : Obj) (el fl : Bool) : Prop := ∃ (c : PkV) (t : Tok), o = dictOf (PkE P c (.int 50 t) (.bool el) (.bool fl)) 6
theorem SpV.is {P : Params} (c : SpV) (nm nn se lel : Value) : IsSp P (dictOf (SpE P c nm nn se lel) 15) nm nn se lel := ⟨c, rfl⟩
theorem PkV.is {P : Params} (c : PkV) (t : Tok) (el fl : Bool) : IsPk P (dictOf (PkE P c (.int 50 t) (.bool el) (.bool fl)) 6) el fl := ⟨c, t, rfl⟩
section
variable {prog : Program} {w : World} {A₀ A : Around} {s : Shared} {K : Frag} {L : Addr} {h₀ base : Heap} {m mg mb : Str → Option Value} {news : List (Addr × Obj)} {p : Program} {loose : List Str} {mean : ExcName → Option Value}
/-- the entry of a def with cells, with what stays of the heap beside the ledger -/
theorem enter_cells {env : Env} {outer : List Env} {R : Result → Shared → Prop} {name qual : Str} {params : Arguments} {body : List Stmt} {scope : Scope} {dV kV doc pm cdv ct oc : Value} {an od : Option Addr} {osl : Array (Option Value)} {f : Addr} {args : Args} {binds : List (Str × Value)}
    (B : Below A₀ base outer h₀) (F : Fr h₀ L s.heap m) (X₀ : K.In h₀) (N : News h₀ L s.heap news) (T : Top p loose mean mg mb h₀) (hA : A.frames = some (env :: outer)) (hf : env.frame = some L) (hke : env.scope.kind = .function)
    (ho : K.lookup f = some ⟨oc, od, .func (fnOf name qual params body scope dV kV doc pm an cdv ct), osl⟩) (hcd : codeIn K cdv qual = true) (hroom : A.depth < recursionLimit)
    (hbind : BindsTo s (fnOf name qual params body scope dV kV doc pm an cdv ct) args binds) (hkind : (binds.all fun y => scope.names.lookup y.1 == some .local || scope.names.lookup y.1 == some .cell) = true)
    (hnd : ((cellsFrom 0 scope.names []).map (·.1)).Nodup)
    (h : ∀ g L' h₁ tk cells, Fr h₀ L g m → Fr g L' h₁ (bindL (envOfC qual scope L' f cdv).kindOf binds fun _ => none) → News g L' h₁ (cells ++ news) →
      CellsAre (bindC (envOfC qual scope L' f cdv).kindOf binds fun _ => none) (cellsFrom (L' + 1) scope.names []) cells → Below A base (env :: outer) g → K.In g → Top p loose mean mg mb g → (∀ p ∈ news, p.1 < L') → GSub s.heap g (news.map (·.1)) →
      wpAny (model prog w) (A.deeper (envOfC qual scope L' f cdv)) (execs body (envOfC qual scope L' f cdv))
        (fun fl s' => LeaveK h₀ L m g R (match fl with | .ret v => v | _ => .none) s')
        (fun e s' => wpAny (model prog w) (A.deeper (envOfC qual scope L' f cdv)) (leaving (envOfC qual scope L' f cdv) e) (fun _ s'' => R (.error e) s'') (fun e' s'' => R (.error e') s'') s')
        { s with heap := h₁, toks := tk })
    (hco : scope.isCoroutine = false) (hgen : scope.isGenerator = false) (hk : scope.kind = .function) : codeAny (model prog w) A (.call (.ref f) args) R s := by
  obtain ⟨FG, BG, st, lv⟩ := groundX (R := R) B F N hA hf hke
  refine codeAny_call_function hroom ((X₀.keeps F.keep) _ _ ho) rfl hco hgen rfl (codeRec_of (X₀.keeps F.keep) hcd) (hbind _ _ _ _ ?_)
  refine wpAny_newFunctionEnv_cells hk (kindsX hkind _) fun env' he s' x => ?_
  subst he
  refine ⟨(T.nolimit.keeps F.keep).keeps x.toInCall.keep, codeAny_func ?_⟩
  obtain ⟨h₁, tk, rfl, _⟩ := x.done
  have hk₁ := x.toInCall.keep
  obtain ⟨cells, NC, Y⟩ := Cl.news (h₀ := s.heap) (Nat.le_refl _) fun n c hm => ⟨x.cell n c (lookup_of_mem_nodup (cellsFrom_names scope.names 0 (s.heap.objs.size + 1) [] [] rfl ▸ hnd) hm), x.above n c hm⟩
  refine wpAny_mono (h _ s.heap.objs.size h₁ tk cells FG ⟨x.toInCall.ns, fun b o e => hk₁ b o (of_hideAll _ e), Nat.le_of_eq (hideAll_size _ _)⟩ (fun p hp => ?_) Y BG (X₀.keeps st) (T.keeps st) (fun p hp => Heap.lt_size (N p hp).1) (fun b o e n => hideAll_get _ e n)) (fun fl s' hl => lv _ _ hl) fun _ _ y => y
  rcases List.mem_append.mp hp with hp | hp
  · refine ⟨(NC p hp).1, (NC p hp).2.1, ?_⟩
    cases q : (hideAll s.heap (news.map (·.1))).get? p.1 with
    | none => rfl
    | some o => have := of_hideAll _ q; rw [(NC p hp).2.2] at this; cases this
  · exact ⟨hk₁ _ _ (N p hp).1, Nat.ne_of_lt (Heap.lt_size (N p hp).1), hideAll_none _ (List.mem_map_of_mem hp)⟩
end
section
variable {prog : Program} {w : World} {A : Around} {E : Value → Shared → Prop} {s : Shared} {h₀ : Heap} {L : Addr} {env : Env}
/-- a thing that is walked and not turned, with what it gives -/
structure Src (prog : Program) (w : World) (A : Around) (h₀ : Heap) (L : Addr) (m : Str → Option Value) (news : List (Addr × Obj)) (vs : List Value) (xv : Value) (s : Shared) : Prop where
  F : Fr h₀ L s.heap m
  N : News h₀ L s.heap news
  sz : vs.length ≤ sizeLine
  it : ∀ (Q : Value → Shared → Prop) (E : Value → Shared → Prop), (∀ (I : Addr) (fp wr : List Addr) (P : Nat → Value → Prop) (St : Nat → Heap → Prop) h', Walks prog w A I fp wr vs.length P St → St 0 h' → (∀ b ∈ fp, b < h'.objs.size) → (∀ i v, P i v → vs[i]? = some v) →
      Fr h₀ L h' m → News h₀ L h' news → (∀ b ∈ wr, h₀.get? b = none ∧ b ≠ L ∧ ∀ q ∈ news, q.1 ≠ b) → Q (.ref I) { s with heap := h' }) → wpAny (model prog w) A (pyIter xv) Q E s
theorem fresh_of {m : Str → Option Value} {news : List (Addr × Obj)} {h : Heap} (F : Fr h₀ L h m) (N : News h₀ L h news) : ∀ b ∈ [h.objs.size], h₀.get? b = none ∧ b ≠ L ∧ ∀ q ∈ news, q.1 ≠ b := by
  intro b hb
  rw [List.mem_singleton.mp hb]
  refine ⟨next_is_new F, fun e => ?_, fun q hq e => ?_⟩
  · exact Nat.lt_irrefl _ (e ▸ F.ns.lt)
  · exact Nat.lt_irrefl _ (e ▸ Heap.lt_size (N q hq).1)
theorem Src.list {m : Str → Option Value} {news : List (Addr × Obj)} {ax : Addr} {vs : List Value} (hh : A.handled = none) (F : Fr h₀ L s.heap m) (N : News h₀ L s.heap news) (hl : s.heap.IsList ax vs.toArray) (hsz : vs.length ≤ sizeLine) : Src prog w A h₀ L m news vs (.ref ax) s where
  F := F
  N := N
  sz := hsz
  it := by
    intro Q E h
    have hlt : ax < s.heap.objs.size := by obtain ⟨_, e, _⟩ := hl; exact Heap.lt_size e
    refine wpAny_pyIter_list hl ?_
    refine h s.heap.objs.size _ _ _ _ _ (Walks.list hh _ _ (Nat.ne_of_lt hlt) vs.toArray) ⟨⟨_, Heap.get?_push_size _ rfl, rfl, rfl⟩, hl.push _⟩ ?_ (fun i v e => by simpa using e) (F.push _) (N.pushKeep _) (fresh_of F N)
    intro b hb
    show b < (s.heap.push _).objs.size
    rw [Heap.size_push]
    rcases List.mem_cons.mp hb with rfl | hb
    · exact Nat.lt_succ_self _
    · rcases List.mem_cons.mp hb with rfl | hb
      · exact Nat.lt_succ_of_lt hlt
      · cases hb
theorem Src.values {K : Type} [DecidableEq K] {knd : KeyKind prog w K} {m : Str → Option Value} {news : List (Addr × Obj)} {v d : Addr} {o : Obj} {kvs : List (K × Value)} (hh : A.handled = none) (F : Fr h₀ L s.heap m) (N : News h₀ L s.heap news)
    (hv : (v, { cls := .type "dict_values", data := .fields #[.ref d] }) ∈ news) (hp : (d, o) ∈ news) (hd : o.IsDictOf knd kvs) (hsz : kvs.length ≤ sizeLine) : Src prog w A h₀ L m news (kvs.map (·.2)) (.ref v) s where
  F := F
  N := N
  sz := by rw [List.length_map]; exact hsz
  it := by
    intro Q E h
    obtain ⟨ep, hD⟩ := KdkAt.of hd
    have hD := hD.dictAt (N _ hp).1
    have hlt : d < s.heap.objs.size := Heap.lt_size (N _ hp).1
    refine wpAny_pyIter_values ⟨_, (N _ hv).1, rfl, rfl⟩ hD ?_
    have W := Walks.dictValues (knd := knd) hh s.heap.objs.size d (Nat.ne_of_lt hlt) kvs ep
    rw [show kvs.length = (kvs.map (·.2)).length from (List.length_map ..).symm] at W
    refine h s.heap.objs.size _ _ _ _ _ W ⟨⟨_, Heap.get?_push_size _ rfl, rfl, ?_⟩, hD.push _⟩ ?_ (fun i v e => ?_) (F.push _) (N.pushKeep _) (fresh_of F N)
    · rw [List.length_map]; rfl
    · intro b hb
      show b < (s.heap.push _).objs.size
      rw [Heap.size_push]
      rcases List.mem_cons.mp hb with rfl | hb
      · exact Nat.lt_succ_self _
      · rcases List.mem_cons.mp hb with rfl | hb
        · exact Nat.lt_succ_of_lt hlt
        · cases hb
    · obtain ⟨k, e⟩ := e
      rw [List.getElem?_map, e]; rfl
def Cp (prog : Program) (w : World) (A : Around) (h₀ : Heap) (L : Addr) (c elt : Expr) (x : Str) (scope : Scope) (cl : List (Str × Addr)) (env : Env) (p : Value → Bool) (G : Value → Value → Prop) (m : Str → Option Value) (news : List (Addr × Obj)) (vs : List Value) : Prop :=
  (∀ C v s₂ m₂ E', v ∈ vs → s₂.heap.Ns C m₂ → m₂ x = some v → Fr h₀ L s₂.heap m → News h₀ L s₂.heap news →
    wpAny (model prog w) A (isTrue c (compEnvC scope cl C env) (eval c (compEnvC scope cl C env))) (fun ok s₃ => ok = p v ∧ Keeps s₂ s₃) E' s₂) ∧
  (∀ C v s₂ m₂ E', v ∈ vs → p v = true → s₂.heap.Ns C m₂ → m₂ x = some v → Fr h₀ L s₂.heap m → News h₀ L s₂.heap news →
    wpAny (model prog w) A (eval elt (compEnvC scope cl C env)) (fun y s₃ => G v y ∧ Keeps s₂ s₃) E' s₂)
def CpEnd (prog : Program) (w : World) (A : Around) (h₀ : Heap) (L : Addr) (c elt : Expr) (x : Str) (scope : Scope) (cl : List (Str × Addr)) (env : Env) (p : Value → Bool) (G : Value → Value → Prop) (Z : Shared → (Str → Option Value) → List (Addr × Obj) → List Value → Addr → Heap → Nat → Prop) (xv : Value) (s₁ : Shared) : Prop :=
  ∃ vs m news, Src prog w A h₀ L m news vs xv s₁ ∧ Cp prog w A h₀ L c elt x scope cl env p G m news vs ∧
      ∀ D ys k h' tk, News h₀ L h' ((D, { cls := .type "list", data := .seq ys.toArray k }) :: news) → (∀ q ∈ news, q.1 ≠ D) → Paired G (vs.filter p) ys → Z s₁ m news ys D h' tk
theorem Cp.quiet {c elt : Expr} {x : Str} {scope : Scope} {cl : List (Str × Addr)} {p : Value → Bool} {G : Value → Value → Prop} {m : Str → Option Value} {news : List (Addr × Obj)} {vs : List Value} {wr : List Addr} {P : Nat → Value → Prop}
    (h : Cp prog w A h₀ L c elt x scope cl env p G m news vs) (hP : ∀ i v, P i v → vs[i]? = some v) (F : Fr h₀ L s.heap m) (N : News h₀ L s.heap news) (hw : ∀ b ∈ wr, h₀.get? b = none ∧ b ≠ L ∧ ∀ q ∈ news, q.1 ≠ b) :
    QuietOnC prog w A env scope cl x [c] elt wr P p G s := by
  have up : ∀ s₃ : Shared, (∀ b o, b ∉ wr → s.heap.get? b = some o → s₃.heap.get? b = some o) → Fr h₀ L s₃.heap m ∧ News h₀ L s₃.heap news := by
    intro s₃ hk
    refine ⟨⟨F.ns.at' fun o e => hk _ o (fun hm => (hw _ hm).2.1 rfl) e, fun b o e => hk b o (fun hm => by rw [(hw b hm).1] at e; cases e) (F.keep b o e), F.above⟩, fun q hq => ⟨hk _ _ (fun hm => (hw _ hm).2.2 q hq rfl) (N q hq).1, (N q hq).2⟩⟩
  refine ⟨?_, ?_⟩
  · intro C i v s₃ m₃ E' _ hv hn hm hk _
    obtain ⟨F3, N3⟩ := up s₃ hk
    exact wpAny_tests_one (h.1 C v s₃ m₃ E' (List.mem_of_getElem? (hP i v hv)) hn hm F3 N3)
  · intro C i v s₃ m₃ E' _ hv hp hn hm hk _
    obtain ⟨F3, N3⟩ := up s₃ hk
    exact h.2 C v s₃ m₃ E' (List.mem_of_getElem? (hP i v hv)) hp hn hm F3 N3
theorem comp_e {c elt iter : Expr} {x : Str} {px : Pos} {scope : Scope} {cl : List (Str × Addr)} {pos : Pos} {Q : Value → Shared → Prop} (p : Value → Bool) (G : Value → Value → Prop)
    {m₀ : Str → Option Value} (F₀ : Fr h₀ L s.heap m₀) (hclos : closureFor scope env = pure cl) (hcell : ∀ y ∈ scope.names, y.2 ≠ .cell) (hkind : scope.kind = .function)
    (hnames : ∀ y ∈ scope.names, y.2 = .local → scope.names.lookup y.1 = some .local) (hx : scope.names.lookup x = some .local)
    (h : wpAny (model prog w) A (eval iter env) (CpEnd prog w A h₀ L c elt x scope cl env p G fun s₁ m news ys D h' tk => Fr h₀ L h' m → Q (.ref D) { s₁ with heap := h', toks := tk }) E s)
    (hs : ∀ x, foldedSetIterable iter env x = pure x := by intro _; rfl) :
    wpAny (model prog w) A (eval (.ListComp elt [⟨.Name x px, iter, [c], 0⟩] scope pos) env) Q E s := by
  refine wpAny_ListComp_free p G hclos hcell hkind hnames hx (wpAny_mono h (fun xv s₁ h₁ => ?_) fun _ _ e => e) hs
  obtain ⟨vs, m, news, S, hc, hQ⟩ := h₁
  refine S.it _ _ fun I fp wr P St h' W hst hfp hP F N hw => ?_
  refine ⟨I, fp, wr, vs.length, P, St, rfl, W, S.sz, hst, hfp, hc.quiet hP F N hw, ?_⟩
  intro D h₂ tk ys vs' hnew _ hpl hlen hP' hF hk
  have e : vs' = vs := by
    refine List.ext_getElem? fun j => ?_
    cases e1 : vs'[j]? with
    | none => rw [List.getElem?_eq_none_iff] at e1; exact (List.getElem?_eq_none_iff.mpr (by omega)).symm
    | some v => exact (hP j v (hP' j v e1)).symm
  subst e
  obtain ⟨k, hpl⟩ := hpl
  have up : ∀ b o, b ∉ wr → h'.get? b = some o → h₂.get? b = some o := hk
  refine hQ D ys.toList k h₂ tk ?_ ?_ hF ⟨F.ns.at' fun o e => up _ o (fun hm => (hw _ hm).2.1 rfl) e, fun b o e => up b o (fun hm => by rw [(hw b hm).1] at e; cases e) (F.keep b o e), F.above⟩
  · intro q hq
    rcases List.mem_cons.mp hq with rfl | hq
    · refine ⟨hpl, fun e => ?_, ?_⟩
      · obtain ⟨oL, _, _, hL, _⟩ := F.ns
        rw [show L = D from e.symm] at hL
        rw [show h'.get? D = none from hnew] at hL; cases hL
      · cases e : h₀.get? D with
        | none => rfl
        | some o' => have := F.keep _ _ e; rw [show h'.get? D = none from hnew] at this; cases this
    · exact ⟨up _ _ (fun hm => (hw _ hm).2.2 q hq rfl) (N q hq).1, (N q hq).2⟩
  · intro q hq e
    have := (N q hq).1
    rw [e, show h'.get? D = none from hnew] at this; cases this
theorem comp_a {c elt iter : Expr} {x y : Str} {px py : Pos} {scope : Scope} {cl : List (Str × Addr)} {pos spos : Pos} {Q : Flow → Shared → Prop} (p : Value → Bool) (G : Value → Value → Prop)
    {m₀ : Str → Option Value} (F₀ : Fr h₀ L s.heap m₀) (hsw : swapsWith (.ListComp elt [⟨.Name x px, iter, [c], 0⟩] scope pos) (some (.Name y py)) spos.line env = pure true) (hL : env.locals = L)
    (hclos : closureFor scope env = pure cl) (hcell : ∀ z ∈ scope.names, z.2 ≠ .cell) (hkind : scope.kind = .function)
    (hnames : ∀ z ∈ scope.names, z.2 = .local → scope.names.lookup z.1 = some .local) (hx : scope.names.lookup x = some .local)
    (hy : env.kindOf y = some .local) (hp : (env.scope.kind == .class || (env.scope.kind == .module && env.locals != env.globals)) = false)
    (h : wpAny (model prog w) A (eval iter env) (CpEnd prog w A h₀ L c elt x scope cl env p G fun s₁ m news ys D h' tk => Fr h₀ L h' (fun z => if z = y then some (.ref D) else m z) → Q .next { s₁ with heap := h', toks := tk }) E s)
    (hs : ∀ x, foldedSetIterable iter env x = pure x := by intro _; rfl) :
    wpAny (model prog w) A (exec (.Assign [.Name y py] (.ListComp elt [⟨.Name x px, iter, [c], 0⟩] scope pos) spos) env) Q E s := by
  subst hL
  refine wpAny_Assign_ListComp_free p G hsw hclos hcell hkind hnames hx hy hp (wpAny_mono h (fun xv s₁ h₁ => ?_) fun _ _ e => e) hs
  obtain ⟨vs, m, news, S, hc, hQ⟩ := h₁
  refine S.it _ _ fun I fp wr P St h' W hst hfp hP F N hw => ?_
  refine ⟨I, fp, wr, vs.length, P, St, m, rfl, W, S.sz, hst, hfp, fun hm => (hw _ hm).2.1 rfl, F.ns, hc.quiet hP F N hw, ?_⟩
  intro D h₂ tk ys vs' hnew _ hpl hlen hP' hF hn hk
  have e : vs' = vs := by
    refine List.ext_getElem? fun j => ?_
    cases e1 : vs'[j]? with
    | none => rw [List.getElem?_eq_none_iff] at e1; exact (List.getElem?_eq_none_iff.mpr (by omega)).symm
    | some v => exact (hP j v (hP' j v e1)).symm
  subst e
  obtain ⟨k, hpl⟩ := hpl
  refine hQ D ys.toList k h₂ tk ?_ ?_ hF ⟨hn, fun b o e => hk b o (Nat.ne_of_lt (Nat.lt_of_lt_of_le (Heap.lt_size e) F.above)) (fun hm => by rw [(hw b hm).1] at e; cases e) (F.keep b o e), F.above⟩
  · intro q hq
    rcases List.mem_cons.mp hq with rfl | hq
    · refine ⟨hpl, fun e => ?_, ?_⟩
      · obtain ⟨oL, _, _, hL, _⟩ := F.ns
        rw [show env.locals = D from e.symm] at hL
        rw [show h'.get? D = none from hnew] at hL; cases hL
      · cases e : h₀.get? D with
        | none => rfl
        | some o' => have := F.keep _ _ e; rw [show h'.get? D = none from hnew] at this; cases this
    · exact ⟨hk _ _ (N q hq).2.1 (fun hm => (hw _ hm).2.2 q hq rfl) (N q hq).1, (N q hq).2⟩
  · intro q hq e
    have := (N q hq).1
    rw [e, show h'.get? D = none from hnew] at this; cases this
end
/-- a packet in a ledger -/
def PkAt (P : Params) (led : List (Addr × Obj)) (v : Value) (el : Bool) : Prop := ∃ p pd op fl, v = .ref p ∧ (p, instObj 109 pd) ∈ led ∧ (pd, op) ∈ led ∧ IsPk P op el fl
/-- a row in a ledger -/
def RowAt (led : List (Addr × Obj)) (v : Value) (n : Int) (b : Bool) : Prop := ∃ r k tn tm tt, v = .ref r ∧ (r, ({ cls := .type "list", data := .seq #[.int n tn, .int tm tt, .bool b] k } : Obj)) ∈ led
/-- what was sent, and the law's own rows of it -/
inductive Tie (P : Params) (led : List (Addr × Obj)) : List (Int × Value) → List Value → List (Int × Bool) → Prop
  | nil : Tie P led [] [] []
  | cons {n : Int} {v r : Value} {b : Bool} {kvs rows els} : PkAt P led v b → RowAt led r n b → Tie P led kvs rows els → Tie P led ((n, v) :: kvs) (r :: rows) ((n, b) :: els)
theorem PkAt.mono {P : Params} {led led' : List (Addr × Obj)} {v : Value} {el : Bool} (h : PkAt P led v el) (k : ∀ p ∈ led, p ∈ led') : PkAt P led' v el := by
  obtain ⟨p, pd, op, fl, e, h1, h2, h3⟩ := h
  exact ⟨p, pd, op, fl, e, k _ h1, k _ h2, h3⟩
theorem RowAt.mono {led led' : List (Addr × Obj)} {v : Value} {n : Int} {b : Bool} (h : RowAt led v n b) (k : ∀ p ∈ led, p ∈ led') : RowAt led' v n b := by
  obtain ⟨r, q, tn, tm, tt, e, h1⟩ := h
  exact ⟨r, q, tn, tm, tt, e, k _ h1⟩
theorem Tie.mono {P : Params} {led led' : List (Addr × Obj)} (k : ∀ p ∈ led, p ∈ led') : ∀ {kvs rows els}, Tie P led kvs rows els → Tie P led' kvs rows els
  | _, _, _, .nil => .nil
  | _, _, _, .cons a b t => .cons (a.mono k) (b.mono k) (t.mono k)
theorem Tie.snoc {P : Params} {led : List (Addr × Obj)} {n : Int} {v r : Value} {b : Bool} (hv : PkAt P led v b) (hr : RowAt led r n b) : ∀ {kvs rows els}, Tie P led kvs rows els → Tie P led (kvs ++ [(n, v)]) (rows ++ [r]) (els ++ [(n, b)])
  | _, _, _, .nil => .cons hv hr .nil
  | _, _, _, .cons a c t => .cons a c (t.snoc hv hr)
theorem Tie.drop {P : Params} {led : List (Addr × Obj)} {n : Int} {p : Value → Bool} (hp : ∀ r k b, RowAt led r k b → p r = decide (k ≠ n)) : ∀ {kvs rows els}, Tie P led kvs rows els → Tie P led (without kvs n) (rows.filter p) (els.filter fun e => decide (e.1 ≠ n))
  | _, _, _, .nil => .nil
  | _, _, _, .cons (n := k) (b := b) a c t => by
    have ih := t.drop hp
    unfold without at ih ⊢
    simp only [List.filter_cons, hp _ _ _ c]
    by_cases h : k ≠ n
    · simp only [decide_eq_true h, if_true]
      exact .cons a c ih
    · simp only [decide_eq_false h, Bool.false_eq_true, if_false]
      exact ih
theorem Tie.len {P : Params} {led : List (Addr × Obj)} : ∀ {kvs rows els}, Tie P led kvs rows els → kvs.length = els.length ∧ rows.length = els.length
  | _, _, _, .nil => ⟨rfl, rfl⟩
  | _, _, _, .cons _ _ t => ⟨congrArg (· + 1) t.len.1, congrArg (· + 1) t.len.2⟩
theorem Tie.keys {P : Params} {led : List (Addr × Obj)} : ∀ {kvs rows els}, Tie P led kvs rows els → kvs.map (·.1) = els.map (·.1)
  | _, _, _, .nil => rfl
  | _, _, _, .cons _ _ t => congrArg (_ :: ·) t.keys
theorem Tie.pk {P : Params} {led : List (Addr × Obj)} : ∀ {kvs rows els}, Tie P led kvs rows els → ∀ v ∈ kvs.map (·.2), ∃ b, PkAt P led v b
  | _, _, _, .nil => fun _ h => nomatch h
  | _, _, _, .cons a _ t => fun v h => by
    rcases List.mem_cons.mp h with rfl | h
    · exact ⟨_, a⟩
    · exact t.pk v h
theorem Tie.row {P : Params} {led : List (Addr × Obj)} : ∀ {kvs rows els}, Tie P led kvs rows els → ∀ v ∈ rows, ∃ n b, RowAt led v n b
  | _, _, _, .nil => fun _ h => nomatch h
  | _, _, _, .cons _ c t => fun v h => by
    rcases List.mem_cons.mp h with rfl | h
    · exact ⟨_, _, c⟩
    · exact t.row v h
theorem Tie.anyPk {P : Params} {led : List (Addr × Obj)} {p : Value → Bool} (hp : ∀ v b, PkAt P led v b → p v = b) : ∀ {kvs rows els}, Tie P led kvs rows els → ((kvs.map (·.2)).filter p).length = (els.filter (·.2)).length
  | _, _, _, .nil => rfl
  | _, _, _, .cons (b := b) a c t => by
    have ih := t.anyPk hp
    simp only [List.map_cons, List.filter_cons, hp _ _ a]
    cases b
    · simpa using ih
    · simpa using ih
theorem Tie.anyRow {P : Params} {led : List (Addr × Obj)} {p : Value → Bool} (hp : ∀ v n b, RowAt led v n b → p v = b) : ∀ {kvs rows els}, Tie P led kvs rows els → (rows.filter p).length = (els.filter (·.2)).length
  | _, _, _, .nil => rfl
  | _, _, _, .cons (b := b) a c t => by
    have ih := t.anyRow hp
    simp only [List.filter_cons, hp _ _ _ c]
    cases b
    · simpa using ih
    · simpa using ih
theorem IsPk.el_eq {P : Params} {o : Obj} {e e' f f' : Bool} (h : IsPk P o e f) (k : IsPk P o e' f') : e = e' ∧ f = f' := by
  obtain ⟨c, t, rfl⟩ := h
  obtain ⟨c', t', h⟩ := k
  have := (Obj.mk.inj h)
  simp only [dictOf, Obj.mk.injEq, Data.dict.injEq] at h
  simp at h
  exact ⟨by simp_all, by simp_all⟩
section
variable {P : Params} {h₀ h : Heap} {L : Addr} {led : List (Addr × Obj)}
theorem News.one (N : News h₀ L h led) {a : Addr} {o o' : Obj} (h1 : (a, o) ∈ led) (h2 : (a, o') ∈ led) : o = o' := by
  have := (N _ h1).1
  rw [(N _ h2).1] at this
  exact (Option.some.inj this).symm
open Classical in
noncomputable def elP (P : Params) (led : List (Addr × Obj)) (v : Value) : Bool := decide (PkAt P led v true)
open Classical in
theorem elP_eq (N : News h₀ L h led) {v : Value} {b : Bool} (hv : PkAt P led v b) : elP P led v = b := by
  unfold elP
  cases b with
  | true => exact decide_eq_true hv
  | false =>
    refine decide_eq_false fun k => ?_
    obtain ⟨p, pd, op, fl, rfl, h1, h2, h3⟩ := hv
    obtain ⟨p', pd', op', fl', e, k1, k2, k3⟩ := k
    cases e
    have e := News.one N h1 k1
    have e2 : pd = pd' := by
      simp only [instObj, Obj.mk.injEq] at e
      simp_all
    subst e2
    have e3 := News.one N h2 k2
    subst e3
    exact absurd (h3.el_eq k3).1 (by decide)
open Classical in
noncomputable def rowP (led : List (Addr × Obj)) (n : Int) (v : Value) : Bool := !decide (∃ b, RowAt led v n b)
open Classical in
theorem rowP_eq (N : News h₀ L h led) {v : Value} {n k : Int} {b : Bool} (hv : RowAt led v k b) : rowP led n v = decide (k ≠ n) := by
  unfold rowP
  by_cases e : k = n
  · subst e
    rw [decide_eq_true ⟨b, hv⟩, decide_eq_false (by simp)]; rfl
  · rw [decide_eq_true e, decide_eq_false]; rfl
    rintro ⟨b', hb'⟩
    obtain ⟨r, q, tn, tm, tt, rfl, h1⟩ := hv
    obtain ⟨r', q', tn', tm', tt', e', h1'⟩ := hb'
    cases e'
    have e2 := News.one N h1 h1'
    simp only [Obj.mk.injEq, Data.seq.injEq] at e2
    simp at e2
    exact e e2.1.1.1
open Classical in
noncomputable def askP (led : List (Addr × Obj)) (v : Value) : Bool := decide (∃ n, RowAt led v n true)
open Classical in
theorem askP_eq (N : News h₀ L h led) {v : Value} {k : Int} {b : Bool} (hv : RowAt led v k b) : askP led v = b := by
  unfold askP
  cases b with
  | true => exact decide_eq_true ⟨_, hv⟩
  | false =>
    refine decide_eq_false fun ⟨k', hk⟩ => ?_
    obtain ⟨r, q, tn, tm, tt, rfl, h1⟩ := hv
    obtain ⟨r', q', tn', tm', tt', e', h1'⟩ := hk
    cases e'
    have e2 := News.one N h1 h1'
    simp only [Obj.mk.injEq, Data.seq.injEq] at e2
    simp at e2
noncomputable abbrev elPof {P : Params} {led : List (Addr × Obj)} {kvs rows els} (_ : Tie P led kvs rows els) := elP P led
noncomputable abbrev askPof {P : Params} {led : List (Addr × Obj)} {kvs rows els} (_ : Tie P led kvs rows els) := askP led
noncomputable abbrev rowPof {P : Params} {led : List (Addr × Obj)} {kvs rows els} (_ : Tie P led kvs rows els) (n : Int) := rowP led n
open Classical in
noncomputable def flP (P : Params) (led : List (Addr × Obj)) (v : Value) : Bool := decide (∃ p pd op el, v = .ref p ∧ (p, instObj 109 pd) ∈ led ∧ (pd, op) ∈ led ∧ IsPk P op el true)
open Classical in
theorem flP_eq (N : News h₀ L h led) {p pd : Addr} {op : Obj} {el fl : Bool} (h1 : (p, instObj 109 pd) ∈ led) (h2 : (pd, op) ∈ led) (h3 : IsPk P op el fl) : flP P led (.ref p) = fl := by
  unfold flP
  cases fl with
  | true => exact decide_eq_true ⟨_, _, _, _, rfl, h1, h2, h3⟩
  | false =>
    refine decide_eq_false fun k => ?_
    obtain ⟨p', pd', op', el', e, k1, k2, k3⟩ := k
    cases e
    have e := News.one N h1 k1
    have e2 : pd = pd' := by
      simp only [instObj, Obj.mk.injEq] at e
      simp_all
    subst e2
    have e3 := News.one N h2 k2
    subst e3
    exact absurd (h3.el_eq k3).2 (by decide)
noncomputable abbrev flPof {P : Params} {led : List (Addr × Obj)} {kvs rows els} (_ : Tie P led kvs rows els) := flP P led
theorem Paired.len {G : Value → Value → Prop} : ∀ {a b : List Value}, Paired G a b → b.length = a.length
  | _, _, .nil => rfl
  | _, _, .cons _ t => congrArg (· + 1) (Paired.len t)
def fifty (v y : Value) : Prop := ∃ t, y = Value.int 50 t
theorem fifty_ints {vs ys : List Value} (h : Paired fifty vs ys) : ∃ ns, IntsAre ys ns := by
  induction h with
  | nil => exact ⟨[], .nil⟩
  | cons a _ ih =>
    obtain ⟨t, rfl⟩ := a
    obtain ⟨ns, h1⟩ := ih
    exact ⟨_, .cons _ _ h1⟩
theorem two_of {α : Type} {a b : α} {l : List α} (h1 : a ∈ l) (h2 : b ∈ l) : ∀ p ∈ [a, b], p ∈ l := by
  intro p hp
  rcases List.mem_cons.mp hp with rfl | hp
  · exact h1
  · rw [List.mem_singleton.mp hp]; exact h2
theorem tail4 {α : Type} {a b c d x : α} {l : List α} (h : x ∈ l) : x ∈ a :: b :: c :: d :: l := .tail _ (.tail _ (.tail _ (.tail _ h)))
end
theorem held {P : Prop} (h : id P) : P := h
/-- one entry taken out of a ledger -/
inductive Pull (a : Addr × Obj) : List (Addr × Obj) → List (Addr × Obj) → Prop
  | head {l} : Pull a (a :: l) l
  | tail {b l r} : Pull a l r → Pull a (b :: l) (b :: r)
theorem Pull.mem {a : Addr × Obj} {l r : List (Addr × Obj)} (h : Pull a l r) : ∀ p, p ∈ a :: r ↔ p ∈ l := by
  induction h with
  | head => intro p; rfl
  | tail _ ih => intro p; have e := ih p; simp only [List.mem_cons] at e ⊢; rw [← e]; constructor <;> (rintro (h | h | h) <;> simp [h])
theorem Pull.news {h₀ h : Heap} {L : Addr} {a : Addr × Obj} {l r : List (Addr × Obj)} (p : Pull a l r) (N : News h₀ L h l) : News h₀ L h (a :: r) := fun q hq => N q ((p.mem q).mp hq)
/-- grown by fresh things alone -/
structure Grow (old : List Addr) (bag bag' : List (Addr × Obj)) : Prop where
  sub : ∀ p ∈ bag, p ∈ bag'
  new : ∀ p ∈ bag', p ∈ bag ∨ ∀ y ∈ old, @LT.lt Nat _ y p.1
theorem Grow.refl {old : List Addr} {bag : List (Addr × Obj)} : Grow old bag bag := ⟨fun _ h => h, fun _ h => .inl h⟩
theorem Grow.trans {old : List Addr} {a b c : List (Addr × Obj)} (h : Grow old a b) (k : Grow old b c) : Grow old a c :=
  ⟨fun p hp => k.1 p (h.1 p hp), fun p hp => (k.2 p hp).elim (fun q => h.2 p q) .inr⟩
theorem Grow.more {old : List Addr} {a b : List (Addr × Obj)} (h : Grow old a b) {p : Addr × Obj} (hp : ∀ y ∈ old, @LT.lt Nat _ y p.1) : Grow old a (p :: b) :=
  ⟨fun q hq => .tail _ (h.1 q hq), fun q hq => (List.mem_cons.mp hq).elim (fun e => .inr (e ▸ hp)) (h.2 q)⟩
theorem Grow.off {old : List Addr} {a b : List (Addr × Obj)} (h : Grow old a b) {y : Addr} (hy : y ∈ old) (k : ∀ p ∈ a, p.1 ≠ y) : ∀ p ∈ b, p.1 ≠ y := fun p hp =>
  (h.2 p hp).elim (k p) fun q => Nat.ne_of_gt (q y hy)
theorem Grow.lt {d : Addr} {rest bag : List (Addr × Obj)} (g : Grow (d :: rest.map (·.1)) rest bag) {a : Addr} (h1 : @LT.lt Nat _ d a) (h2 : AllLt a bag) : ∀ y ∈ d :: rest.map (·.1), @LT.lt Nat _ y a := by
  intro y hy
  rcases List.mem_cons.mp hy with rfl | hy
  · exact h1
  · obtain ⟨q, hq, rfl⟩ := List.mem_map.mp hy
    exact tb_ltOf h2 q (g.1 q hq)
theorem allLt_lt {x : Addr} {l : List (Addr × Obj)} (h : AllLt x l) : ∀ p ∈ l, @LT.lt Nat _ p.1 x := tb_ltOf h
/-- the two readings of the last time asked -/
def Same (a b : Value) : Prop := (a = .none ∧ b = .none) ∨ ∃ n t u, a = .int n t ∧ b = .int n u
section
variable {prog : Program} {w : World} {A : Around} {s : Shared} {env : Env} {h₀ : Heap} {x : Str} {px : Pos} {body : List Stmt} {Q : Flow → Shared → Prop}
abbrev NoE : Value → Shared → Prop := fun _ _ => False
def RgEnd (h₀ : Heap) (L : Addr) (J : (Str → Option Value) → List (Addr × Obj) → Prop) (I : Addr) (oI : Obj) (s₁ s₂ : Shared) : Prop :=
  ∃ h' tk m' nx, s₂ = { s₁ with heap := h', toks := tk } ∧ Fr h₀ L h' m' ∧ News h₀ L h' ((I, oI) :: nx) ∧ (∀ p ∈ nx, p.1 ≠ I) ∧ J m' nx
def RgPost (h₀ : Heap) (L : Addr) (J : (Str → Option Value) → List (Addr × Obj) → Prop) (I : Addr) (oI : Obj) (s₁ : Shared) (Q : Flow → Shared → Prop) (f : Flow) (s₂ : Shared) : Prop :=
  match f with
  | .ret v => Q (.ret v) s₂
  | .brk => Q .next s₂
  | _ => RgEnd h₀ L J I oI s₁ s₂
def RgLoop (prog : Program) (w : World) (A : Around) (h₀ : Heap) (env : Env) (x : Str) (px : Pos) (body : List Stmt) (Q : Flow → Shared → Prop) (xv : Value) (s : Shared) : Prop :=
  ∃ (r : Addr) (b₀ : Int) (t₀ u₀ v₀ : Tok) (m₀ : Str → Option Value) (news : List (Addr × Obj)) (J : Nat → (Str → Option Value) → List (Addr × Obj) → Prop),
    xv = .ref r ∧ IsRange s.heap r 0 b₀ 1 t₀ u₀ v₀ ∧ 0 ≤ b₀ ∧ b₀ < 1000 ∧ Fr h₀ env.locals s.heap m₀ ∧ News h₀ env.locals s.heap news ∧ J 0 m₀ news ∧
    (∀ (i : Nat) t m₁ nx h tk I oI, (i : Int) < b₀ → (∀ p ∈ nx, p.1 ≠ I) → J i m₁ nx → Fr h₀ env.locals h m₁ → News h₀ env.locals h ((I, oI) :: nx) →
      wpAny (model prog w) A (assign (.Name x px) env (.int (i : Int) t)) (fun _ s₂ => wpAny (model prog w) A (execs body env) (RgPost h₀ env.locals (J (i + 1)) I oI { s with heap := h, toks := tk } Q) NoE s₂) NoE { s with heap := h, toks := tk }) ∧
    (∀ m₁ nx h tk, J b₀.toNat m₁ nx → Fr h₀ env.locals h m₁ → News h₀ env.locals h nx → Q .next { s with heap := h, toks := tk })
theorem codeAny_range {R : Result → Shared → Prop} {b₀ : Int} {m₀ : Str → Option Value} {news : List (Addr × Obj)} (J : Nat → (Str → Option Value) → List (Addr × Obj) → Prop)
    (hh : A.handled = none) (h1 : 0 ≤ b₀) (h2 : b₀ < 1000) (I : Addr) (hI : h₀.get? I = none) (hL : env.locals ≠ I) (hne : ∀ p ∈ news, p.1 ≠ I) (hst : IsRangeIter s.heap I 0 b₀ 1) (F : Fr h₀ env.locals s.heap m₀) (N : News h₀ env.locals s.heap news) (hj : J 0 m₀ news)
    (turn : ∀ (i : Nat) t m₁ nx h tk oI, (i : Int) < b₀ → (∀ p ∈ nx, p.1 ≠ I) → J i m₁ nx → Fr h₀ env.locals h m₁ → News h₀ env.locals h ((I, oI) :: nx) →
      wpAny (model prog w) A (assign (.Name x px) env (.int (i : Int) t)) (fun _ s₂ => wpAny (model prog w) A (execs body env) (RgPost h₀ env.locals (J (i + 1)) I oI { s with heap := h, toks := tk } fun f s' => R (.ok f) s') NoE s₂) NoE { s with heap := h, toks := tk })
    (done : ∀ m₁ nx h tk, J b₀.toNat m₁ nx → Fr h₀ env.locals h m₁ → News h₀ env.locals h nx → R (.ok .next) { s with heap := h, toks := tk }) :
    codeAny (model prog w) A (.forLoop (.Name x px) (.ref I) body [] env) R s := by
  have W : Walks prog w A I [I] [I] b₀.toNat (fun i v => ∃ t, v = .int (0 + i * 1) t)
      (fun i h => IsRangeIter h I (0 + (i : Nat) * 1) ((b₀.toNat : Int) - (i : Nat)) 1) := Walks.range hh _ 0 1 b₀.toNat
  have hb : (b₀.toNat : Int) = b₀ := by omega
  refine codeAny_forLoop
    (fun k s' => ∃ h' tk m' nx i, s' = { s with heap := h', toks := tk } ∧ IsRangeIter h' I (0 + (i : Nat) * 1) ((b₀.toNat : Int) - (i : Nat)) 1 ∧ Fr h₀ env.locals h' m' ∧ News h₀ env.locals h' nx ∧ (∀ p ∈ nx, p.1 ≠ I) ∧ J i m' nx ∧ i ≤ b₀.toNat ∧ k = b₀.toNat + 1 - i) ?_ (b₀.toNat + 1)
    ⟨s.heap, s.toks, m₀, news, 0, rfl, by simpa [hb] using hst, F, N, hne, hj, Nat.zero_le _, rfl⟩
  rintro k s' ⟨h', tk, m', nx, i, rfl, hst', F', N', hne', hJ, hi, rfl⟩
  have next : ∀ h₁ : Heap, (∀ b o, b ∉ [I] → h'.get? b = some o → h₁.get? b = some o) → Fr h₀ env.locals h₁ m' ∧ News h₀ env.locals h₁ nx := fun h₁ hk₁ =>
    ⟨⟨F'.ns.at' fun o e => hk₁ _ o (fun hm => hL (List.mem_singleton.mp hm)) e, fun b o e => hk₁ b o (fun hm => by rw [List.mem_singleton.mp hm, hI] at e; cases e) (F'.keep b o e), F'.above⟩, fun p hp => ⟨hk₁ _ _ (fun hm => hne' p hp (List.mem_singleton.mp hm)) (N' p hp).1, (N' p hp).2⟩⟩
  by_cases hlt : i < b₀.toNat
  · refine W.item i _ _ _ hlt hst' fun v h₁ tk₁ hP hst₁ hk₁ => ?_
    obtain ⟨t, rfl⟩ := hP
    obtain ⟨F₁, N₁⟩ := next h₁ hk₁
    have N₂ : News h₀ env.locals h₁ ((I, _) :: nx) := fun p hp => by
      rcases List.mem_cons.mp hp with rfl | hp
      · exact ⟨hst₁, fun e => hL e.symm, hI⟩
      · exact N₁ p hp
    rw [show (0 : Int) + (i : Int) * 1 = (i : Int) by omega]
    refine wpAny_mono (turn i t m' nx h₁ tk₁ _ (by omega) hne' hJ F₁ N₂) (fun _ s₂ h₂ => wpAny_mono h₂ (fun f s₃ h₃ => ?_) fun _ _ e => e.elim) fun _ _ e => e.elim
    cases f with
    | ret v => exact h₃
    | brk => exact h₃
    | cont =>
      obtain ⟨h₃', tk₃, m₂, nx₂, rfl, F₃, N₃, ha₃, hJ₃⟩ := h₃
      exact ⟨b₀.toNat + 1 - (i + 1), by omega, h₃', tk₃, m₂, nx₂, i + 1, rfl, (by simpa using (N₃ _ (.head _)).1), F₃, fun p hp => N₃ p (.tail _ hp), ha₃, hJ₃, hlt, rfl⟩
    | next =>
      obtain ⟨h₃', tk₃, m₂, nx₂, rfl, F₃, N₃, ha₃, hJ₃⟩ := h₃
      exact ⟨b₀.toNat + 1 - (i + 1), by omega, h₃', tk₃, m₂, nx₂, i + 1, rfl, (by simpa using (N₃ _ (.head _)).1), F₃, fun p hp => N₃ p (.tail _ hp), ha₃, hJ₃, hlt, rfl⟩
  · have hin : i = b₀.toNat := by omega
    subst hin
    refine W.done _ _ _ hst' fun h₁ tk₁ hk₁ => wpAny_execs_nil ?_
    obtain ⟨F₁, N₁⟩ := next h₁ hk₁
    exact done m' nx h₁ tk₁ hJ F₁ N₁
theorem for_range {E : Value → Shared → Prop} {iter : Expr} {pos : Pos} {m : Str → Option Value} (F₀ : Fr h₀ env.locals s.heap m) (hh : A.handled = none)
    (h : wpAny (model prog w) A (eval iter env) (RgLoop prog w A h₀ env x px body Q) NoE s)
    (hs : ∀ x, foldedSetIterable iter env x = pure x := by intro _; rfl) :
    wpAny (model prog w) A (exec (.For (.Name x px) iter body [] pos) env) Q E s := by
  refine wpAny_mono (Q := Q) (E := NoE) (wpAny_For (wpAny_mono h (fun xv s₁ h₁ => ?_) fun _ _ e => e) hs) (fun _ _ e => e) fun _ _ e => e.elim
  obtain ⟨r, b₀, t₀, u₀, v₀, m₀, news, J, rfl, hr, h1, h2, F, N, hj, turn, done⟩ := h₁
  have hn : Builtin.Range.rangeSize 0 b₀ 1 = b₀ := by rw [rangeSize_nat]; simp; omega
  refine wpAny_pyIter_range hr (small_one (by omega) (by omega) (by omega) (by omega)) ?_
  rw [hn]
  refine codeAny_range (R := fun r s' => match r with | .ok f => Q f s' | .error e => cameBackBy (model prog w) A env NoE e s') (m₀ := m₀) (news := news) J hh h1 h2 s₁.heap.objs.size (next_is_new F) (Nat.ne_of_lt F.ns.lt) (fun p hp => Nat.ne_of_lt (Heap.lt_size (N p hp).1)) (Heap.get?_push_size _ rfl) (F.push _) (fun p hp => ⟨Heap.get?_push_of_some _ (N p hp).1, (N p hp).2⟩) hj ?_ ?_
  · intro i t m₁ nx h tk oI a b c d e
    exact turn i t m₁ nx h tk _ oI a b c d e
  · exact done
end
theorem stored_new {kvs : List (Int × Value)} {n : Int} {v : Value} (h : ∀ e ∈ kvs, e.1 ≠ n) : stored kvs n v = kvs ++ [(n, v)] := by
  unfold stored
  rw [if_neg]
  simp only [List.any_eq_true, not_exists, not_and, decide_eq_true_eq]
  exact fun e he => h e he
theorem News.pull5 {h₀ h : Heap} {L : Addr} {a1 a2 a3 a4 a5 : Addr × Obj} {l l1 l2 l3 l4 r : List (Addr × Obj)} (q1 : Pull a1 l l1) (q2 : Pull a2 l1 l2) (q3 : Pull a3 l2 l3) (q4 : Pull a4 l3 l4) (q5 : Pull a5 l4 r) (N : News h₀ L h l) :
    News h₀ L h (a1 :: a2 :: a3 :: a4 :: a5 :: r) := by
  intro p hp
  refine N p ((q1.mem p).mp ?_)
  rcases List.mem_cons.mp hp with h | hp
  · exact List.mem_cons.mpr (.inl h)
  refine .tail _ ((q2.mem p).mp ?_)
  rcases List.mem_cons.mp hp with h | hp
  · exact List.mem_cons.mpr (.inl h)
  refine .tail _ ((q3.mem p).mp ?_)
  rcases List.mem_cons.mp hp with h | hp
  · exact List.mem_cons.mpr (.inl h)
  refine .tail _ ((q4.mem p).mp ?_)
  rcases List.mem_cons.mp hp with h | hp
  · exact List.mem_cons.mpr (.inl h)
  exact .tail _ ((q5.mem p).mp hp)
theorem News.pull4 {h₀ h : Heap} {L : Addr} {a1 a2 a3 a4 : Addr × Obj} {l l1 l2 l3 r : List (Addr × Obj)} (q1 : Pull a1 l l1) (q2 : Pull a2 l1 l2) (q3 : Pull a3 l2 l3) (q4 : Pull a4 l3 r) (N : News h₀ L h l) :
    News h₀ L h (a1 :: a2 :: a3 :: a4 :: r) := by
  intro p hp
  refine N p ((q1.mem p).mp ?_)
  rcases List.mem_cons.mp hp with h | hp
  · exact List.mem_cons.mpr (.inl h)
  refine .tail _ ((q2.mem p).mp ?_)
  rcases List.mem_cons.mp hp with h | hp
  · exact List.mem_cons.mpr (.inl h)
  refine .tail _ ((q3.mem p).mp ?_)
  rcases List.mem_cons.mp hp with h | hp
  · exact List.mem_cons.mpr (.inl h)
  exact .tail _ ((q4.mem p).mp hp)
theorem News.pull3 {h₀ h : Heap} {L : Addr} {a1 a2 a3 : Addr × Obj} {l l1 l2 r : List (Addr × Obj)} (q1 : Pull a1 l l1) (q2 : Pull a2 l1 l2) (q3 : Pull a3 l2 r) (N : News h₀ L h l) :
    News h₀ L h (a1 :: a2 :: a3 :: r) := by
  intro p hp
  refine N p ((q1.mem p).mp ?_)
  rcases List.mem_cons.mp hp with h | hp
  · exact List.mem_cons.mpr (.inl h)
  refine .tail _ ((q2.mem p).mp ?_)
  rcases List.mem_cons.mp hp with h | hp
  · exact List.mem_cons.mpr (.inl h)
  exact .tail _ ((q3.mem p).mp hp)
theorem News.pull2 {h₀ h : Heap} {L : Addr} {a1 a2 : Addr × Obj} {l l1 r : List (Addr × Obj)} (q1 : Pull a1 l l1) (q2 : Pull a2 l1 r) (N : News h₀ L h l) :
    News h₀ L h (a1 :: a2 :: r) := by
  intro p hp
  refine N p ((q1.mem p).mp ?_)
  rcases List.mem_cons.mp hp with h | hp
  · exact List.mem_cons.mpr (.inl h)
  exact .tail _ ((q2.mem p).mp hp)
/-- the names of _law_filled that are read -/
def Reads7 (m : Str → Option Value) (d x rws : Addr) (nm : Str) (tn : Tok) (most : Int) (tm : Tok) (last tv : Value) : Prop :=
  m (Str.ofString "draws") = some (.ref d) ∧ m (Str.ofString "name") = some (.str nm tn) ∧ m (Str.ofString "most") = some (.int most tm) ∧ m (Str.ofString "space") = some (.ref x) ∧
    m (Str.ofString "rows") = some (.ref rws) ∧ m (Str.ofString "last") = some last ∧ m (Str.ofString "time") = some tv
abbrev map7 (m : Str → Option Value) (d x rws : Addr) (nm : Str) (tn : Tok) (most : Int) (tm : Tok) (last tv : Value) : Str → Option Value := fun z =>
  if z = Str.ofString "draws" then some (.ref d) else if z = Str.ofString "name" then some (.str nm tn) else if z = Str.ofString "most" then some (.int most tm) else if z = Str.ofString "space" then some (.ref x)
  else if z = Str.ofString "rows" then some (.ref rws) else if z = Str.ofString "last" then some last else if z = Str.ofString "time" then some tv else m z
structure Ord6 (d c dx x se rws : Nat) : Prop where
  q0 : d < c
  q1 : d < dx
  q2 : d < x
  q3 : d < se
  q4 : d < rws
  q5 : c < dx
  q6 : c < x
  q7 : c < se
  q8 : c < rws
  q9 : dx < x
  q10 : dx < se
  q11 : dx < rws
  q12 : x < se
  q13 : x < rws
  q14 : se < rws
theorem Ord6.of {d c dx x se rws : Nat} (h1 : d < c) (h2 : c < dx) (h3 : dx < x) (h4 : x < se) (h5 : se < rws) : Ord6 d c dx x se rws := by
  constructor <;> omega
theorem lt_up {a b c k : Nat} (h : a < b) (e : b + k ≤ c) : a + k < c := Nat.lt_of_lt_of_le (Nat.add_lt_add_right h k) e
/-- between the turns of _law_filled -/
structure FlInv (w : World) (d x dx se rws c : Addr) (rest : List (Addr × Obj)) (nm tv : Value) (i : Int) (nx : List (Addr × Obj)) (last : Value) (od o oe oc : Obj) (rows : List Value) (k : Nat) (bag : List (Addr × Obj)) (lel : Value) (nt : Tok) (kvs : List (Int × Value)) (els : List (Int × Bool)) : Prop where
  nx : nx = (d, od) :: (x, instObj 229 dx) :: (dx, o) :: (se, oe) :: (rws, listOf rows.toArray k) :: (c, oc) :: bag
  dr : IsDraws w od
  sp : IsSp w.params o nm (.int i nt) (.ref se) lel
  di : oe.IsDictOf (Iz w) kvs
  same : Same lel last
  time : ∃ a t, tv = .int a t
  tie : Tie w.params bag kvs rows els
  keys : ∀ e ∈ els, e.1 < i
  len : (els.length : Int) ≤ i
  cell : ∃ v, oc.data = .cell v
  grow : Grow (d :: rest.map (·.1)) rest bag
  o1 : ∀ p ∈ bag, p.1 ≠ d
  o2 : ∀ p ∈ bag, p.1 ≠ x
  o3 : ∀ p ∈ bag, p.1 ≠ dx
  o4 : ∀ p ∈ bag, p.1 ≠ se
  o5 : ∀ p ∈ bag, p.1 ≠ rws
  o6 : ∀ p ∈ bag, p.1 ≠ c
  ord : Ord6 d c dx x se rws
def J1 (w : World) (d x dx se rws c : Addr) (rest : List (Addr × Obj)) (nm : Str) (tn tn' : Tok) (most : Int) (tm : Tok) (i : Nat) (m : Str → Option Value) (nx : List (Addr × Obj)) : Prop :=
  ∃ last tv od o oe oc rows k bag lel nt kvs els, FlInv w d x dx se rws c rest (.str nm tn') tv i nx last od o oe oc rows k bag lel nt kvs els ∧ Reads7 m d x rws nm tn most tm last tv
theorem sub_app {α : Type} {es bag l : List α} (h : ∀ p ∈ es, p ∈ l) (k : ∀ p ∈ bag, p ∈ l) : ∀ p ∈ es ++ bag, p ∈ l := fun p hp => (List.mem_append.mp hp).elim (h p) (k p)
theorem item_two {prog : Program} {w : World} {A : Around} {E : Value → Shared → Prop} {s : Shared} {value slice : PySem.Expr} {h₀ : Heap} {L l : Addr} {news : List (Addr × Obj)} {a b : Value} {n : Nat} {k : Int} {u : Tok} {Q : Value → Shared → Prop}
    (N : News h₀ L s.heap news) (hm : (l, listOf #[a, b] n) ∈ news) (h0 : 0 ≤ k) (h1 : k < 2) (hA : k = 0 → Q a s) (hB : k = 1 → Q b s)
    (hs : subscripted slice false (.ref l) (.int k u) = operate [.ref l, .int k u] (getItem (.ref l) (.int k u)) := by with_unfolding_all rfl) :
    wpAny (model prog w) A (subscriptTail value slice (.ref l) (.int k u)) Q E s := by
  have hl : s.heap.IsList l #[a, b] := News.isList N hm
  have : k = 0 ∨ k = 1 := by omega
  rcases this with rfl | rfl
  · exact tail_any hl.typeIs slot_list_getitem.lookup (wpAny_getItem_list hl (by decide) (by decide) rfl (hA rfl)) hs
  · exact tail_any hl.typeIs slot_list_getitem.lookup (wpAny_getItem_list hl (by decide) (by decide) rfl (hB rfl)) hs
theorem elc_ping : elc (Str.ofString "ping") = true := by decide +kernel
theorem elc_padding : elc (Str.ofString "padding") = false := by decide +kernel
theorem elc_ack : elc (Str.ofString "ack") = false := by decide +kernel
theorem fl_end1 {w : World} {g' h' : Heap} {L' d x dx se rws c I row pk pd : Addr} {m' : Str → Option Value} {rest led bag : List (Addr × Obj)} {nm : Str} {tn tn' tm nt' tt tn1 tm1 : Tok} {most tmv tv' : Int} {i : Nat} {od' o' oe' oc' op oI : Obj} {rows : List Value} {k' k'' : Nat} {lel' last' : Value} {kvs : List (Int × Value)} {els : List (Int × Bool)} {b b' fl : Bool} {s₁ : Shared} {tk : Nat}
    (F : Fr g' L' h' m') (N : News g' L' h' led) (hr : Reads7 m' d x rws nm tn most tm last' (.int tv' tt))
    (tie : Tie w.params bag kvs rows els) (mI : (I, oI) ∈ led) (md : (d, od') ∈ led) (mx : (x, instObj 229 dx) ∈ led) (mdx : (dx, o') ∈ led) (mrws : (rws, listOf (rows.toArray.push (.ref row)) k') ∈ led) (mc : (c, oc') ∈ led)
    (dr : IsDraws w od') (sp : IsSp w.params o' (.str nm tn') (.int ((i : Int) + 1) nt') (.ref se) lel') (mse : (se, oe') ∈ led) (di : oe'.IsDictOf (Iz w) (stored kvs (i : Int) (.ref pk)))
    (mrow : (row, listOf #[.int (i : Int) tn1, .int tmv tm1, .bool b'] k'') ∈ led) (mpk : (pk, instObj 109 pd) ∈ led) (mpd : (pd, op) ∈ led) (mb : ∀ p ∈ bag, p ∈ led)
    (hp : IsPk w.params op b fl) (hb : b' = b) (same : Same lel' last') (keys : ∀ e ∈ els, e.1 < (i : Int)) (len : (els.length : Int) ≤ i) (cell : ∃ v, oc'.data = .cell v)
    (grow : Grow (d :: rest.map (·.1)) rest bag) (o1 : ∀ p ∈ bag, p.1 ≠ d) (o2 : ∀ p ∈ bag, p.1 ≠ x) (o3 : ∀ p ∈ bag, p.1 ≠ dx) (o4 : ∀ p ∈ bag, p.1 ≠ se) (o5 : ∀ p ∈ bag, p.1 ≠ rws) (o6 : ∀ p ∈ bag, p.1 ≠ c) (oI' : ∀ p ∈ bag, p.1 ≠ I) (ord : Ord6 d c dx x se rws)
    (n1 : d ≠ I) (n2 : x ≠ I) (n3 : dx ≠ I) (n4 : se ≠ I) (n5 : rws ≠ I) (n6 : c ≠ I)
    (h1 : @LT.lt Nat _ rws pd) (h2 : @LT.lt Nat _ I pd) (h3 : AllLt pd bag) (h4 : @LT.lt Nat _ pd pk) (h5 : @LT.lt Nat _ pk row) :
    RgEnd g' L' (J1 w d x dx se rws c rest nm tn tn' most tm (i + 1)) I oI s₁ { s₁ with heap := h', toks := tk } := by
  subst hb
  obtain ⟨e1, e2, e3, e4, e5, e6, e7, e8, e9, e10, e11, e12, e13, e14, e15⟩ := ord
  have lpk : @LT.lt Nat _ rws pk := Nat.lt_trans h1 h4
  have lrow : @LT.lt Nat _ rws row := Nat.lt_trans lpk h5
  have hk : (rws, listOf (rows ++ [Value.ref row]).toArray k') ∈ led := by
    have e : (rows ++ [Value.ref row]).toArray = rows.toArray.push (.ref row) := by simp
    rw [e]; exact mrws
  have hne : ∀ e ∈ kvs, e.1 ≠ (i : Int) := fun e he => by
    have : e.1 ∈ els.map (·.1) := by rw [← tie.keys]; exact List.mem_map_of_mem he
    obtain ⟨f, hf, hfe⟩ := List.mem_map.mp this
    have := keys f hf
    omega
  rw [stored_new hne] at di
  have sub : ∀ p ∈ bag, p ∈ (row, listOf #[.int (i : Int) tn1, .int tmv tm1, .bool b'] k'') :: (pk, instObj 109 pd) :: (pd, op) :: bag := fun p hp => .tail _ (.tail _ (.tail _ hp))
  have off : ∀ y : Addr, @LT.lt Nat _ y pd → (∀ p ∈ bag, p.1 ≠ y) → ∀ p ∈ (row, listOf #[.int (i : Int) tn1, .int tmv tm1, .bool b'] k'') :: (pk, instObj 109 pd) :: (pd, op) :: bag, p.1 ≠ y := by
    intro y hy ho p hp
    rcases List.mem_cons.mp hp with rfl | hp
    · exact Nat.ne_of_gt (Nat.lt_trans hy (Nat.lt_trans h4 h5))
    rcases List.mem_cons.mp hp with rfl | hp
    · exact Nat.ne_of_gt (Nat.lt_trans hy h4)
    rcases List.mem_cons.mp hp with rfl | hp
    · exact Nat.ne_of_gt hy
    exact ho p hp
  have ord := Ord6.of e1 e6 e10 e13 e15
  refine ⟨h', tk, m', (d, od') :: (x, instObj 229 dx) :: (dx, o') :: (se, oe') :: (rws, listOf (rows ++ [Value.ref row]).toArray k') :: (c, oc') :: (row, listOf #[.int (i : Int) tn1, .int tmv tm1, .bool b'] k'') :: (pk, instObj 109 pd) :: (pd, op) :: bag, rfl, F, News.sub N ?_, ?_,
    last', .int tv' tt, od', o', oe', oc', rows ++ [.ref row], k', _, lel', nt', kvs ++ [((i : Int), .ref pk)], els ++ [((i : Int), b')],
    { nx := rfl, dr := dr, sp := (by rw [Int.natCast_add]; exact sp), di := di, same := same, time := ⟨_, _, rfl⟩, tie := (tie.mono sub).snoc ⟨pk, pd, op, fl, rfl, .tail _ (.head _), .tail _ (.tail _ (.head _)), hp⟩ ⟨row, k'', tn1, tmv, tm1, rfl, .head _⟩, keys := ?_, len := ?_, cell := cell,
      grow := ((grow.more (grow.lt (Nat.lt_trans e5 h1) h3)).more (p := (pk, instObj 109 pd)) (grow.lt (Nat.lt_trans e5 lpk) (AllLt.up h3 h4))).more (p := (row, _)) (grow.lt (Nat.lt_trans e5 lrow) (AllLt.up (AllLt.up h3 h4) h5)),
      o1 := off d (Nat.lt_trans e5 h1) o1, o2 := off x (Nat.lt_trans e14 h1) o2, o3 := off dx (Nat.lt_trans e12 h1) o3, o4 := off se (Nat.lt_trans e15 h1) o4, o5 := off rws h1 o5, o6 := off c (Nat.lt_trans e9 h1) o6, ord := ord }, hr⟩
  · intro p hp
    simp only [List.mem_cons] at hp
    rcases hp with rfl | rfl | rfl | rfl | rfl | rfl | rfl | rfl | rfl | rfl | hp
    all_goals first | assumption | exact mb _ hp
  · have := off I h2 oI'
    intro p hp
    rcases List.mem_cons.mp hp with rfl | hp
    · exact n1
    rcases List.mem_cons.mp hp with rfl | hp
    · exact n2
    rcases List.mem_cons.mp hp with rfl | hp
    · exact n3
    rcases List.mem_cons.mp hp with rfl | hp
    · exact n4
    rcases List.mem_cons.mp hp with rfl | hp
    · exact n5
    rcases List.mem_cons.mp hp with rfl | hp
    · exact n6
    exact this p hp
  · intro e he
    rcases List.mem_append.mp he with he | he
    · have := keys e he; omega
    · rw [List.mem_singleton.mp he]; show (i : Int) < ((i + 1 : Nat) : Int); omega
  · simp only [List.length_append, List.length_cons, List.length_nil]; omega
def J2 (w : World) (d x dx se c : Addr) (rest : List (Addr × Obj)) (nm : Str) (tn tn' : Tok) (most : Int) (tm : Tok) (n0 : Int) (_i : Nat) (m : Str → Option Value) (nx : List (Addr × Obj)) : Prop :=
  ∃ rws last tv od o oe oc rows k bag lel nt kvs els, FlInv w d x dx se rws c rest (.str nm tn') tv n0 nx last od o oe oc rows k bag lel nt kvs els ∧ Reads7 m d x rws nm tn most tm last tv
theorem keys_drop {els : List (Int × Bool)} {n0 n : Int} (h : ∀ e ∈ els, e.1 < n0) : ∀ e ∈ (els.filter fun e => decide (e.1 ≠ n)), e.1 < n0 := fun e he => h e (List.mem_filter.mp he).1
theorem len_drop {els : List (Int × Bool)} {n0 n : Int} (h : (els.length : Int) ≤ n0) : ((els.filter fun e => decide (e.1 ≠ n)).length : Int) ≤ n0 := by
  have := List.length_filter_le (fun e : Int × Bool => decide (e.1 ≠ n)) els
  omega
theorem paired_eq : ∀ {a b : List Value}, Paired (fun v y => y = v) a b → b = a
  | _, _, .nil => rfl
  | _, _, .cons h t => by rw [h, paired_eq t]
/-- what _law_filled gives back, in a bag -/
def FilledIn (w : World) (bag : List (Addr × Obj)) (tup : Addr) (nm : Str) : Prop :=
  ∃ x dx se rws o oe rows k nn lel last kvs els tn kt, (tup, ({ cls := .type "tuple", data := .seq #[.ref x, .ref rws, last] kt } : Obj)) ∈ bag ∧ (x, instObj 229 dx) ∈ bag ∧ (dx, o) ∈ bag ∧ (se, oe) ∈ bag ∧ (rws, listOf rows.toArray k) ∈ bag ∧
    IsSp w.params o (.str nm tn) nn (.ref se) lel ∧ oe.IsDictOf (Iz w) kvs ∧ (se == sysModules) = false ∧ els.length ≤ 100 ∧ Same lel last ∧ Tie w.params bag kvs rows els
/-! short ways for what omega would show (its proofs are long) -/
-- odd names: 'apply' leaves them as names of goals, and a later ?b would mean the old one
theorem lt_le {zx1 zx2 zx3 : Nat} (zh1 : zx1 < zx2) (zh2 : zx2 ≤ zx3) : zx1 < zx3 := Nat.lt_of_lt_of_le zh1 zh2
theorem lt_ad {zx4 zx5 zx6 : Nat} (zh3 : zx4 < zx5) : zx4 + zx6 < zx5 + zx6 := Nat.add_lt_add_right zh3 zx6
theorem lt_cl {a : Nat} (h : a < 1000) : a < cLine := Nat.lt_of_lt_of_le h (by rw [cLine_is]; decide)
theorem room_ktr {dp un : Nat} {gd : Option (List Code)} {cn : Str} {cs : Scope} {L a : Addr} {ccd : Value} {cl : List (Str × Addr)} {outer : List Env} (h : dp < 1000) : (ktrTop dp un gd cn cs L a ccd cl outer).depth < recursionLimit := h
theorem allLt_hd {x a : Addr} {o : Obj} {r : List (Addr × Obj)} (h : AllLt x ((a, o) :: r)) : @LT.lt Nat _ a x := h.1
theorem allLt_hp {x : Addr} {p : Addr × Obj} {r : List (Addr × Obj)} (h : AllLt x (p :: r)) : @LT.lt Nat _ p.1 x := h.1
theorem allLt_tl {x : Addr} {p : Addr × Obj} {r : List (Addr × Obj)} (h : AllLt x (p :: r)) : AllLt x r := h.2
theorem sub_app2 {α : Type} {a b l : List α} (h : ∀ p ∈ a, p ∈ l) (k : ∀ p ∈ b, p ∈ l) : ∀ p ∈ a ++ b, p ∈ l := fun p hp => (List.mem_append.mp hp).elim (h p) (k p)
theorem mem_app {α : Type} {x : α} {a b : List α} (h : x ∈ b) : x ∈ a ++ b := List.mem_append.mpr (.inr h)
theorem mem_apl {α : Type} {x : α} {a b : List α} (h : x ∈ a) : x ∈ a ++ b := List.mem_append.mpr (.inl h)
theorem mem_hd {α : Type} {x : α} {l : List α} : x ∈ x :: l := .head _
theorem mem_tl {α : Type} {x y : α} {l : List α} (h : x ∈ l) : x ∈ y :: l := .tail _ h
theorem sub_cons {α : Type} {x : α} {a l : List α} (h : x ∈ l) (k : ∀ p ∈ a, p ∈ l) : ∀ p ∈ x :: a, p ∈ l := List.forall_mem_cons.mpr ⟨h, k⟩
local macro_rules | `(tactic| walk_at "zq") => `(tactic| first | with_reducible assumption | (apply lt_ad; walk_at "zq"))
local macro_rules | `(tactic| walk_at "zk") => `(tactic| (apply lt_le; walk_at "zq"; decide))
local macro_rules | `(tactic| walk_at "zr") => `(tactic| first | walk_at "zk" | ((try simp only [depth_under_make, depth_under_kw, depth_in1, depth_deeper, depth_caller]); (try dsimp only [ktrTop]); first | walk_at "zk" | omega))
local macro_rules | `(tactic| walk_at "zu") => `(tactic| first | walk_at "zk" | ((try simp only [units_under_make, units_in1, units_deeper, Around.mark_units, units_caller]); (try dsimp only [ktrTop]); first | walk_at "zk" | omega))
local macro_rules | `(tactic| walk_at "zp") => `(tactic| (repeat (first | with_reducible exact Pull.head | apply Pull.tail)))
local macro_rules | `(tactic| walk_at "zs") => `(tactic| ((repeat (refine List.forall_mem_cons.mpr ⟨by k_mem, ?_⟩)); intro p hp; repeat (first | exact hp | apply List.Mem.tail)))
local macro_rules | `(tactic| walk_at "zv") => `(tactic| ((try simp only [units_under_make, units_in1, units_deeper, Around.mark_units, units_caller]); (try dsimp only [ktrTop]); first | exact lt_cl (by walk_at "zk") | (have hcL9 := cLine_is; omega)))
local macro_rules | `(tactic| walk_at "zl") => `(tactic| (rw [sizeLine_eq]; first | exact Nat.le_of_ble_eq_true rfl | exact Nat.le_trans (by with_reducible assumption) (Nat.le_of_ble_eq_true rfl) | omega))
local macro_rules | `(tactic| walk_at "zc") => `(tactic| (repeat (rename _ ∧ _ => hq9; have hl9 := And.left hq9; have hr9 := And.right hq9; clear hq9)))
local macro_rules | `(tactic| walk_at "zh") => `(tactic| (repeat (first | with_reducible exact mem_hd | with_reducible refine mem_tl ?_ | with_reducible refine mem_app ?_)))
local macro_rules | `(tactic| walk_at "zn") => `(tactic| (intro p hp; repeat (first | exact hp | with_reducible exact mem_apl hp | with_reducible exact mem_apl (mem_apl hp) | with_reducible exact mem_apl (mem_app hp) | with_reducible refine mem_tl ?_ | with_reducible refine mem_app ?_)))
local macro_rules | `(tactic| walk_at "zm") => `(tactic| ((repeat (first | (with_reducible refine sub_cons ?_ ?_; (focus (walk_at "zh"; done))) | (with_reducible refine sub_app2 ?_ ?_; (focus (walk_at "zn"; done))))); (first | exact List.forall_mem_nil _ | walk_at "zn")))
local macro_rules | `(tactic| walk_at "zwa") => `(tactic| with_unfolding_all change wpAny _ _ (execs (Stmt.Assign _ _ _ :: _) _) _ _ _)
local macro_rules | `(tactic| walk_at "zwi") => `(tactic| with_unfolding_all change wpAny _ _ (execs (Stmt.If _ _ _ _ :: _) _) _ _ _)
local macro_rules | `(tactic| walk_at "zwf") => `(tactic| with_unfolding_all change wpAny _ _ (execs (Stmt.For _ _ _ _ _ :: _) _) _ _ _)
local macro_rules | `(tactic| walk_at "zwr") => `(tactic| with_unfolding_all change wpAny _ _ (execs (Stmt.Return _ _ :: _) _) _ _ _)
local macro_rules | `(tactic| walk_at "zwe") => `(tactic| with_unfolding_all change wpAny _ _ (execs (Stmt.Expr _ _ :: _) _) _ _ _)
local macro_rules | `(tactic| k_units) => `(tactic| walk_at "zv")
local macro_rules | `(tactic| ktr_room) => `(tactic| exact room_ktr (lt_le (by with_reducible assumption) (by decide)))
local macro_rules | `(tactic| walk_at "z1") => `(tactic| ((try simp only [depth_under_make, depth_under_kw, depth_in1, depth_deeper, depth_caller]); (simp only [recursionLimit]); (try dsimp only [ktrTop]); first | walk_at "zk" | omega))
local macro_rules | `(tactic| walk_at "z2") => `(tactic| (k_here; refine floordiv_int (by omega) ?_ (Or.inr (PylongRoom.of (by first | assumption | (refine PySem.Heap.NoLimit.keeps ?_ (PyProof.Rows.Fr.keep (by assumption)); exact PyProof.Rows.Top.nolimit (by assumption))) (room_of (by simp only [depth_deeper]; omega))))))
section
local macro_rules | `(tactic| k_all) => `(tactic| first | with_reducible assumption | exact all_ne_of_lt (by with_reducible assumption))
local macro_rules | `(tactic| k_lt $h) => `(tactic| (replace $h := allLt_of $h; simp only [AllLt, and_true] at $h:ident; (repeat (obtain ⟨_, $h⟩ := $h))))
local macro_rules | `(tactic| k_room) => `(tactic| walk_at "z1")
local macro_rules | `(tactic| walk_at "binaryOp FloorDiv int int") => `(tactic| walk_at "z2")
theorem stored_fst {w : World} {o : Obj} {a b v : Value} (h : o.IsDictOf (Dz w) (stored [(Str.ofString "great", a), (Str.ofString "mixed", b)] (Str.ofString "great") v)) : o.IsDictOf (Dz w) [(Str.ofString "great", v), (Str.ofString "mixed", b)] := h
theorem stored_snd {w : World} {o : Obj} {a b v : Value} (h : o.IsDictOf (Dz w) (stored [(Str.ofString "great", a), (Str.ofString "mixed", b)] (Str.ofString "mixed") v)) : o.IsDictOf (Dz w) [(Str.ofString "great", a), (Str.ofString "mixed", v)] := h
set_option maxHeartbeats 8000000 in
theorem take_call : ∀ {w : World} {mean : ExcName → Option Value} {mg mb : Str → Option Value} {dp un : Nat} {gd : Option (List Code)} {cn : Str} {cs : Scope} {a : Addr} {ccd : Value} {cl : List (Str × Addr)} {outer : List Env} {A₀ : Around} {base h₀ : Heap} {L : Addr} {m : Str → Option Value} {s : Shared}
    {Q E : Value → Shared → Prop} {d : Addr} {o : Obj} {rest : List (Addr × Obj)} {many : Int} {tm : Tok}
    (B : Below A₀ base outer h₀) (F : Fr h₀ L s.heap m) (X : (heapK w.params).In h₀) (N : News h₀ L s.heap ((d, o) :: rest)) (T : Top vw (looseW vw []) mean mg mb h₀) (hk : cs.kind = .function) (hdp : dp < 450) (hu : un < 450)
    (hoff : ∀ p ∈ rest, p.1 ≠ d) (hlo : (d == sysModules) = false) (ho : IsDraws w o) (hm : 0 < many)
    (hret : ∀ r tr o' h' tk', Fr h₀ L h' m → News h₀ L h' ((d, o') :: rest) → IsDraws w o' → 0 ≤ r → r < many → Q (.int r tr) { s with heap := h', toks := tk' }),
    wpAny (model PySem.Challenge.rw_no0077_01.row.prog w) (ktrTop dp un gd cn cs L a ccd cl outer) (call (.ref 247) [.ref d, .int many tm]) Q E s := by
  k_fill
  intros
  rename_i hret
  rename IsDraws _ _ => ho
  obtain ⟨g, x, tg, tx, hd1, hg0, hx0, hx1⟩ := ho
  have hf1 := @flat_draws g x tg tx
  refine wpAny_call ?_
  k_dflt ktr_enter
  k_steps
  · (rename Obj.IsDictOf _ _ (stored _ _ _) => hd'); rename_i kF kN _ _
    refine hret _ _ _ _ _ kF (News.drop1 kN) ⟨_, _, _, _, stored_fst hd', ?_, hx0, hx1⟩ ?_ ?_
    · rw [Int.fdiv_eq_ediv_of_nonneg _ (by omega)]; exact Int.ediv_nonneg hg0 (by omega)
    · rw [Int.fmod_eq_emod_of_nonneg _ (by omega)]; exact Int.emod_nonneg _ (by omega)
    · rw [Int.fmod_eq_emod_of_nonneg _ (by omega)]; exact Int.emod_lt_of_pos _ (by omega)
  · (rename Obj.IsDictOf _ _ (stored _ _ _) => hd'); rename_i kF kN _ _
    refine hret _ _ _ _ _ kF kN ⟨_, _, _, _, stored_snd hd', hg0, ?_, ?_⟩ ?_ ?_
    · rw [Int.fmod_eq_emod_of_nonneg _ (by omega)]; exact Int.emod_nonneg _ (by omega)
    · rw [Int.fmod_eq_emod_of_nonneg _ (by omega)]; exact Int.emod_lt_of_pos _ (by omega)
    · rw [Int.fmod_eq_emod_of_nonneg _ (by omega)]; exact Int.emod_nonneg _ (by omega)
    · rw [Int.fmod_eq_emod_of_nonneg _ (by omega)]; exact Int.emod_lt_of_pos _ (by omega)
end
local macro_rules | `(tactic| walk_at "z3") => `(tactic| (refine neN ?_; (try dsimp only); (with_reducible_and_instances first | assumption | exact Nat.ne_of_lt (by assumption) | exact Nat.ne_of_gt (by assumption) | exact Ne.symm (by assumption) | exact Nat.ne_of_lt (Nat.lt_succ_of_lt (by assumption)) | exact Nat.ne_of_gt (Nat.lt_succ_of_lt (by assumption)) | omega)))
local macro_rules | `(tactic| walk_at "z4") => `(tactic| (refine' code_def ?k1 ?k2 ?k3 ?k4 ?k5 ?kA ?kF ?kK ?k6 ?k7 ?k8 ?k9 ?kB ?_ ?c2 ?c3 ?c4 ?c5; (case kA => exact rfl); (case kF => exact rfl); (case kK => first | exact rfl | assumption); (case k1 => k_asm); (case k2 => k_asm); (case k3 => k_asm); (case k4 => k_asm); (case k5 => k_asm); (case k6 => k_is); (case k7 => k_is); (case k8 => k_room); (case k9 => exact BindsTo.of_eq rfl); (case c5 => decide); (case kB => exact locs rfl); (case c2 => exact rfl); (case c3 => exact rfl); (case c4 => exact rfl); k_whole; intro g' L' h' FG' F' N' B' X' T'; (try dsimp only); (try k_fold)))
local macro_rules | `(tactic| walk_at "z5") => `(tactic| (k_here; refine wpAny_toks ?_; intro tk; (try dsimp only); refine wpAny_execs_cons ?_))
local macro_rules | `(tactic| walk_at "z6") => `(tactic| (k_here; (with_reducible show wpAny _ _ (subscriptTail _ _ (Value.ref _) (Value.int _ _)) _ _ _); k_dflt (refine' item_tupleT (News.isTup ?N ?m) ?a ?b ?c ?d ?_; (case N => k_asm); (case m => k_mem); (case a => decide); (case b => decide); (case c => exact seqIndex0 _ _); (case d => exact rfl); k_whole)))
local macro_rules | `(tactic| walk_at "z7") => `(tactic| (k_here; k_dflt (refine' ne_nil_list (News.isList ?N ?m) (News.isList ?N2 ?m2) ?u ?_; (case N => k_asm); (case m => k_mem); (case N2 => k_asm); (case m2 => k_mem); (case u => k_units); k_whole); (try dsimp only)))
local macro_rules | `(tactic| walk_at "z8") => `(tactic| (k_here; k_dflt (refine' notin_tuple_strs (ys := [Str.ofString "ack", Str.ofString "padding", Str.ofString "close"]) (tupK (Frag.In.keeps (by k_asm) (Fr.keep (by k_asm))) ?l) ?i ?_; (case l => k_is); (case i => exact .cons _ _ (.cons _ _ (.cons _ _ .nil)))); (rw [← elc])))
section
local macro_rules | `(tactic| k_ne) => `(tactic| walk_at "z3")
local macro_rules | `(tactic| k_all) => `(tactic| first | with_reducible assumption | exact all_ne_of_lt (by with_reducible assumption))
local macro_rules | `(tactic| k_lt $h) => `(tactic| (replace $h := allLt_of $h; (repeat (first | (have hl9 := allLt_hd $h; replace $h := allLt_tl $h) | (have hl9 := allLt_hp $h; replace $h := allLt_tl $h)))))
local macro_rules | `(tactic| k_room) => `(tactic| walk_at "z1")
local macro_rules | `(tactic| k_enter) => `(tactic| walk_at "z4")
local macro_rules | `(tactic| walk_at "execs cons") => `(tactic| walk_at "z5")
local macro_rules | `(tactic| walk_at "subscriptTail") => `(tactic| walk_at "z6")
local macro_rules | `(tactic| walk_at "compareOp NotEq ref ref") => `(tactic| walk_at "z7")
local macro_rules | `(tactic| walk_at "compareOp NotIn str ref") => `(tactic| walk_at "z8")
set_option maxHeartbeats 8000000 in
theorem any_el : ∀ {w : World} {mean : ExcName → Option Value} {mg mb : Str → Option Value} {dp un : Nat} {gd : Option (List Code)} {cn : Str} {cs : Scope} {a : Addr} {ccd : Value} {cl : List (Str × Addr)} {outer : List Env} {A₀ : Around} {base h₀ : Heap} {L : Addr} {m : Str → Option Value} {s : Shared}
    {Q E : Value → Shared → Prop} {rw tp : Addr} {tc : Tok} {c : Str} {tl : List Value} {k : Nat}
    (B : Below A₀ base outer h₀) (F : Fr h₀ L s.heap m) (X : (heapK w.params).In h₀) (N : News h₀ L s.heap ([(rw, { cls := .type "list", data := .seq #[.ref tp] k }), (tp, { cls := .type "tuple", data := .seq (Value.str c tc :: tl).toArray })])) (T : Top vw (looseW vw []) mean mg mb h₀) (hk : cs.kind = .function) (hdp : dp < 450) (hu : un < 450)
    (hn : rw ≠ tp)
    (hret : ∀ h' tk', Fr h₀ L h' m → KeepsN h₀ L s.heap h' → Q (.bool (elc c)) { s with heap := h', toks := tk' }),
    wpAny (model PySem.Challenge.rw_no0077_01.row.prog w) (ktrTop dp un gd cn cs L a ccd cl outer) (call (.ref 82) [.ref rw]) Q E s := by
  k_fill
  intro w mean mg mb dp un gd cn cs a ccd cl outer A₀ base h₀ L m s Q E rw tp tc c tl k B F X N T hk hdp hu hn hret
  have N1 := N
  refine wpAny_call ?_
  k_dflt (refine' code_defG ?k1 ?k2 ?k3 ?k4 ?k5 ?kA ?kF ?kK ?k6 ?k7 ?k8 ?k9 ?kB ?_ ?c2 ?c3 ?c4 ?c5; (case kA => exact rfl); (case kF => exact rfl); (case kK => assumption); (case k1 => k_asm); (case k2 => k_asm); (case k3 => k_asm); (case k4 => exact N1); (case k5 => k_asm); (case k6 => k_is); (case k7 => k_is); (case k8 => ktr_room); (case k9 => exact BindsTo.of_eq rfl); (case c5 => decide); (case kB => exact locs rfl); (case c2 => exact rfl); (case c3 => exact rfl); (case c4 => exact rfl); k_whole; intro g' L' h' FG' F' N' B' X' T' GS'; (try dsimp only); (try k_fold))
  k_steps
  all_goals (
    (rename Fr _ _ _ _ => kF)
    (rename News _ _ _ _ => kN)
    (rename Fr g' _ _ _ => F9)
    (first
      | ((have e : elc c = true := by first | assumption | (show (!_) = true; rw [‹(List.any _ _) = false›]; rfl))
         rw [e] at hret
         exact hret _ _ kF (keepsN_of N GS' F9 (News.sub kN (by lcg_sub))))
      | ((have e : elc c = false := by first | assumption | (show (!_) = false; rw [‹(List.any _ _) = true›]; rfl))
         rw [e] at hret
         exact hret _ _ kF (keepsN_of N GS' F9 (News.sub kN (by lcg_sub))))))
set_option maxHeartbeats 8000000 in
theorem any_fl : ∀ {w : World} {mean : ExcName → Option Value} {mg mb : Str → Option Value} {dp un : Nat} {gd : Option (List Code)} {cn : Str} {cs : Scope} {a : Addr} {ccd : Value} {cl : List (Str × Addr)} {outer : List Env} {A₀ : Around} {base h₀ : Heap} {L : Addr} {m : Str → Option Value} {s : Shared}
    {Q E : Value → Shared → Prop} {rw tp : Addr} {tc : Tok} {c : Str} {tl : List Value} {k : Nat}
    (B : Below A₀ base outer h₀) (F : Fr h₀ L s.heap m) (X : (heapK w.params).In h₀) (N : News h₀ L s.heap ([(rw, { cls := .type "list", data := .seq #[.ref tp] k }), (tp, { cls := .type "tuple", data := .seq (Value.str c tc :: tl).toArray })])) (T : Top vw (looseW vw []) mean mg mb h₀) (hk : cs.kind = .function) (hdp : dp < 450) (hu : un < 450)
    (hn : rw ≠ tp)
    (hret : ∀ h' tk', Fr h₀ L h' m → KeepsN h₀ L s.heap h' → Q (.bool (flc c)) { s with heap := h', toks := tk' }),
    wpAny (model PySem.Challenge.rw_no0077_01.row.prog w) (ktrTop dp un gd cn cs L a ccd cl outer) (call (.ref 87) [.ref rw]) Q E s := by
  k_fill
  intro w mean mg mb dp un gd cn cs a ccd cl outer A₀ base h₀ L m s Q E rw tp tc c tl k B F X N T hk hdp hu hn hret
  have N1 := N
  refine wpAny_call ?_
  k_dflt (refine' code_defG ?k1 ?k2 ?k3 ?k4 ?k5 ?kA ?kF ?kK ?k6 ?k7 ?k8 ?k9 ?kB ?_ ?c2 ?c3 ?c4 ?c5; (case kA => exact rfl); (case kF => exact rfl); (case kK => assumption); (case k1 => k_asm); (case k2 => k_asm); (case k3 => k_asm); (case k4 => exact N1); (case k5 => k_asm); (case k6 => k_is); (case k7 => k_is); (case k8 => ktr_room); (case k9 => exact BindsTo.of_eq rfl); (case c5 => decide); (case kB => exact locs rfl); (case c2 => exact rfl); (case c3 => exact rfl); (case c4 => exact rfl); k_whole; intro g' L' h' FG' F' N' B' X' T' GS'; (try dsimp only); (try k_fold))
  k_steps
  all_goals (
    (rename Fr _ _ _ _ => kF)
    (rename News _ _ _ _ => kN)
    (rename Fr g' _ _ _ => F9)
    (first
      | ((have e : flc c = true := by first | assumption | (show (!_) = true; rw [‹(List.any _ _) = false›]; rfl))
         rw [e] at hret
         exact hret _ _ kF (keepsN_of N GS' F9 (News.sub kN (by lcg_sub))))
      | ((have e : flc c = false := by first | assumption | (show (!_) = false; rw [‹(List.any _ _) = true›]; rfl))
         rw [e] at hret
         exact hret _ _ kF (keepsN_of N GS' F9 (News.sub kN (by lcg_sub))))))
end
section
local macro_rules | `(tactic| k_ne) => `(tactic| walk_at "z3")
local macro_rules | `(tactic| k_all) => `(tactic| first | with_reducible assumption | exact all_ne_of_lt (by with_reducible assumption))
local macro_rules | `(tactic| k_lt $h) => `(tactic| (replace $h := allLt_of $h; (repeat (first | (have hl9 := allLt_hd $h; replace $h := allLt_tl $h) | (have hl9 := allLt_hp $h; replace $h := allLt_tl $h)))))
local macro_rules | `(tactic| k_room) => `(tactic| walk_at "z1")
local macro_rules | `(tactic| k_enter) => `(tactic| walk_at "z4")
local macro_rules | `(tactic| walk_at "execs cons") => `(tactic| walk_at "z5")
set_option maxHeartbeats 8000000 in
theorem space_new : ∀ {w : World} {mean : ExcName → Option Value} {mg mb : Str → Option Value} {dp un : Nat} {gd : Option (List Code)} {cn : Str} {cs : Scope} {a : Addr} {ccd : Value} {cl : List (Str × Addr)} {outer : List Env} {A₀ : Around} {base h₀ : Heap} {L : Addr} {m : Str → Option Value} {s : Shared}
    {Q E : Value → Shared → Prop} {rest : List (Addr × Obj)} {nm : Str} {tn : Tok}
    (B : Below A₀ base outer h₀) (F : Fr h₀ L s.heap m) (X : (heapK w.params).In h₀) (N : News h₀ L s.heap (rest)) (T : Top vw (looseW vw []) mean mg mb h₀) (hk : cs.kind = .function) (hdp : dp < 450) (hu : un < 450)
    (hret : ∀ x dx se o oe tz h' tk', Fr h₀ L h' m → News h₀ L h' ((se, oe) :: (x, instObj 229 dx) :: (dx, o) :: rest) → IsSp w.params o (.str nm tn) (.int 0 tz) (.ref se) .none → oe.IsDictOf (Iz w) [] → (se == sysModules) = false → AllLt dx rest → dx < x → x < se → AllLt x rest → AllLt se rest → Q (.ref x) { s with heap := h', toks := tk' }),
    wpAny (model PySem.Challenge.rw_no0077_01.row.prog w) (ktrTop dp un gd cn cs L a ccd cl outer) (call (.ref 229) [.str nm tn]) Q E s := by
  k_fill
  intro w mean mg mb dp un gd cn cs a ccd cl outer A₀ base h₀ L m s Q E rest nm tn B F X N T hk hdp hu  hret
  k_steps
  (rename Fr _ _ _ _ => kF)
  (rename News _ _ _ _ => kN)
  refine hret _ _ _ _ _ _ _ _ kF (News.drop1 (News.drop1 kN)) (SpV.is ⟨_, _, _, _, _, _, _, _, _, _, _, _, _, _, _, _, _, _, _, _, _, _, _, _, _, _⟩ _ _ _ _) (by assumption) (by assumption) (by assumption) (by assumption) (by assumption) (by apply AllLt.up; rotate_left; assumption; assumption) (by assumption)
end
local macro_rules | `(tactic| walk_at "z9") => `(tactic| (k_here; k_dflt (refine' kda_set (knd := PySem.intKind _ _) ?F ?N ?U ?d (intKind_is _ _ _ _) ?z ?_; (case F => k_asm); (case N => k_asm); (case U => k_updF); (case d => k_asm); (case z => walk_at "zl")); intro h' o' F' N' hd'; (try dsimp only at N'); (try k_sweep)))
section
local macro_rules | `(tactic| k_ne) => `(tactic| walk_at "z3")
local macro_rules | `(tactic| k_all) => `(tactic| first | with_reducible assumption | exact all_ne_of_lt (by with_reducible assumption))
local macro_rules | `(tactic| k_lt $h) => `(tactic| (replace $h := allLt_of $h; (repeat (first | (have hl9 := allLt_hd $h; replace $h := allLt_tl $h) | (have hl9 := allLt_hp $h; replace $h := allLt_tl $h)))))
local macro_rules | `(tactic| k_room) => `(tactic| walk_at "z1")
local macro_rules | `(tactic| k_enter) => `(tactic| walk_at "z4")
local macro_rules | `(tactic| walk_at "execs cons") => `(tactic| walk_at "z5")
local macro_rules | `(tactic| walk_at "setItem ref int") => `(tactic| walk_at "z9")
local macro_rules | `(tactic| walk_at "call ref") => `(tactic| (k_here; k_dflt (refine' any_fl (N := News.sub ?N ?s) ?B ?F ?X ?T ?k ?d ?u ?n ?_; (case N => k_asm); (case s => (refine' List.forall_mem_cons.mpr ⟨?m1, List.forall_mem_cons.mpr ⟨?m2, List.forall_mem_nil _⟩⟩; (case m1 => k_mem); (case m2 => k_mem))); (case B => k_asm); (case F => k_asm); (case X => k_asm); (case T => k_asm); (case k => exact rfl); (case n => k_ne); (case d => walk_at "zr"); (case u => walk_at "zu"); k_whole); intro h' tk' F' K'; (have N' := K' _ (by k_asm)); clear K'; (try dsimp only); (try k_sweep)))
local macro_rules | `(tactic| walk_at "call ref") => `(tactic| (k_here; k_dflt (refine' any_el (N := News.sub ?N ?s) ?B ?F ?X ?T ?k ?d ?u ?n ?_; (case N => k_asm); (case s => (refine' List.forall_mem_cons.mpr ⟨?m1, List.forall_mem_cons.mpr ⟨?m2, List.forall_mem_nil _⟩⟩; (case m1 => k_mem); (case m2 => k_mem))); (case B => k_asm); (case F => k_asm); (case X => k_asm); (case T => k_asm); (case k => exact rfl); (case n => k_ne); (case d => walk_at "zr"); (case u => walk_at "zu"); k_whole); intro h' tk' F' K'; (have N' := K' _ (by k_asm)); clear K'; (try dsimp only); (try k_sweep)))
set_option maxHeartbeats 8000000 in
theorem on_sent : ∀ {w : World} {mean : ExcName → Option Value} {mg mb : Str → Option Value} {dp un : Nat} {gd : Option (List Code)} {cn : Str} {cs : Scope} {a : Addr} {ccd : Value} {cl : List (Str × Addr)} {outer : List Env} {A₀ : Around} {base h₀ : Heap} {L : Addr} {m : Str → Option Value} {s : Shared}
    {Q E : Value → Shared → Prop} {rest : List (Addr × Obj)} {x dx se rw tp : Addr} {o oe : Obj} {nm nn lel now : Value} {n : Int} {tn t50 tc : Tok} {kvs : List (Int × Value)} {c : Str} {tl : List Value} {k : Nat}
    (B : Below A₀ base outer h₀) (F : Fr h₀ L s.heap m) (X : (heapK w.params).In h₀) (N : News h₀ L s.heap ((x, instObj 229 dx) :: (dx, o) :: (se, oe) :: (rw, { cls := .type "list", data := .seq #[.ref tp] k }) :: (tp, { cls := .type "tuple", data := .seq (Value.str c tc :: tl).toArray }) :: rest)) (T : Top vw (looseW vw []) mean mg mb h₀) (hk : cs.kind = .function) (hdp : dp < 400) (hu : un < 400)
    (hs : IsSp w.params o nm nn (.ref se) lel) (he : oe.IsDictOf (Iz w) kvs) (hlo : (se == sysModules) = false) (hle : kvs.length ≤ 100) (o1 : ∀ p ∈ rest, p.1 ≠ x) (o2 : ∀ p ∈ rest, p.1 ≠ dx) (o3 : ∀ p ∈ rest, p.1 ≠ se) (o4 : ∀ p ∈ rest, p.1 ≠ rw) (o5 : ∀ p ∈ rest, p.1 ≠ tp) (l1 : @LT.lt Nat _ dx x) (l2 : @LT.lt Nat _ x se) (l3 : @LT.lt Nat _ se tp) (l4 : @LT.lt Nat _ tp rw)
    (hret : ∀ pk pd op o' oe' h' tk', Fr h₀ L h' m → News h₀ L h' ((pk, instObj 109 pd) :: (pd, op) :: (x, instObj 229 dx) :: (dx, o') :: (se, oe') :: rest) → IsPk w.params op (elc c) (flc c) → IsSp w.params o' nm nn (.ref se) (if elc c then now else lel) → oe'.IsDictOf (Iz w) (stored kvs n (.ref pk)) → @LT.lt Nat _ rw pd → @LT.lt Nat _ pd pk → AllLt pd rest → Q (.ref pk) { s with heap := h', toks := tk' }),
    wpAny (model PySem.Challenge.rw_no0077_01.row.prog w) (ktrTop dp un gd cn cs L a ccd cl outer) (call (.ref 176) [.ref x, .int n tn, now, .int 50 t50, .ref rw]) Q E s := by
  k_fill
  intro w mean mg mb dp un gd cn cs a ccd cl outer A₀ base h₀ L m s Q E rest x dx se rw tp o oe nm nn lel now n tn t50 tc kvs c tl k B F X N T hk hdp hu hs he hlo hle o1 o2 o3 o4 o5 l1 l2 l3 l4 hret
  obtain ⟨sv, rfl⟩ := hs
  refine wpAny_call ?_
  k_dflt ktr_enter
  k_steps
  · (rename Fr _ _ _ _ => kF); (rename News _ _ _ _ => kN)
    have e : elc c = true := by assumption
    rw [e] at hret kN
    exact hret _ _ _ _ _ _ _ kF (News.sub kN (sub5 _ _ _ _ _ _ _ _)) (PkV.is ⟨_, _, _, _, _, _, _, _, _⟩ _ _ _) (SpV.is ⟨_, _, _, _, _, _, _, _, _, _, _, _, _, _, _, _, _, _, _, _, _, _, _, _, _, _⟩ _ _ _ _) (by assumption) (by assumption) (by assumption) (by assumption)
  · (rename Fr _ _ _ _ => kF); (rename News _ _ _ _ => kN)
    have e : elc c = false := by first | assumption | exact Bool.eq_false_iff.mpr (by assumption)
    rw [e] at hret kN
    exact hret _ _ _ _ _ _ _ kF (News.sub kN (sub5 _ _ _ _ _ _ _ _)) (PkV.is ⟨_, _, _, _, _, _, _, _, _⟩ _ _ _) (SpV.is ⟨_, _, _, _, _, _, _, _, _, _, _, _, _, _, _, _, _, _, _, _, _, _, _, _, _, _⟩ _ _ _ _) (by assumption) (by assumption) (by assumption) (by assumption)
end
section
local macro_rules | `(tactic| k_ne) => `(tactic| walk_at "z3")
local macro_rules | `(tactic| k_all) => `(tactic| first | with_reducible assumption | exact all_ne_of_lt (by with_reducible assumption))
local macro_rules | `(tactic| k_lt $h) => `(tactic| (replace $h := allLt_of $h; (repeat (first | (have hl9 := allLt_hd $h; replace $h := allLt_tl $h) | (have hl9 := allLt_hp $h; replace $h := allLt_tl $h)))))
local macro_rules | `(tactic| k_room) => `(tactic| walk_at "z1")
local macro_rules | `(tactic| k_enter) => `(tactic| walk_at "z4")
local macro_rules | `(tactic| walk_at "execs cons") => `(tactic| walk_at "z5")
set_option maxHeartbeats 8000000 in
theorem take_number : ∀ {w : World} {mean : ExcName → Option Value} {mg mb : Str → Option Value} {dp un : Nat} {gd : Option (List Code)} {cn : Str} {cs : Scope} {a : Addr} {ccd : Value} {cl : List (Str × Addr)} {outer : List Env} {A₀ : Around} {base h₀ : Heap} {L : Addr} {m : Str → Option Value} {s : Shared}
    {Q E : Value → Shared → Prop} {rest : List (Addr × Obj)} {x dx : Addr} {o : Obj} {nm se lel : Value} {n : Int} {tn : Tok}
    (B : Below A₀ base outer h₀) (F : Fr h₀ L s.heap m) (X : (heapK w.params).In h₀) (N : News h₀ L s.heap ((x, instObj 229 dx) :: (dx, o) :: rest)) (T : Top vw (looseW vw []) mean mg mb h₀) (hk : cs.kind = .function) (hdp : dp < 450) (hu : un < 450)
    (hs : IsSp w.params o nm (.int n tn) se lel) (o1 : ∀ p ∈ rest, p.1 ≠ x) (o2 : ∀ p ∈ rest, p.1 ≠ dx) (o3 : @LT.lt Nat _ dx x)
    (hret : ∀ o' t t' h' tk', Fr h₀ L h' m → News h₀ L h' ((x, instObj 229 dx) :: (dx, o') :: rest) → IsSp w.params o' nm (.int (n + 1) t) se lel → Q (.int n t') { s with heap := h', toks := tk' }),
    wpAny (model PySem.Challenge.rw_no0077_01.row.prog w) (ktrTop dp un gd cn cs L a ccd cl outer) (call (.ref 169) [.ref x]) Q E s := by
  k_fill
  intro w mean mg mb dp un gd cn cs a ccd cl outer A₀ base h₀ L m s Q E rest x dx o nm se lel n tn B F X N T hk hdp hu hs o1 o2 o3 hret
  obtain ⟨c, rfl⟩ := hs
  refine wpAny_call ?_
  k_dflt ktr_enter
  k_steps
  (rename Fr _ _ _ _ => kF)
  (rename News _ _ _ _ => kN)
  have e : n + 1 - 1 = n := by omega
  trace_state
  rw [e]
  exact hret _ _ _ _ _ kF kN (SpV.is ⟨_, _, _, _, _, _, _, _, _, _, _, _, _, _, _, _, _, _, _, _, _, _, _, _, _, _⟩ _ _ _ _)
end
section
theorem ints_one {v : List Value} {n' : List Int} {n : Int} (h : IntsAre v n') (p : n'.Perm [n]) : ∃ t, v = [.int n t] := by
  obtain rfl := List.perm_singleton.mp p
  cases h with
  | cons n t h => cases h; exact ⟨t, rfl⟩
theorem off_four {a b c d : Addr} {oa ob oc od : Obj} {rest : List (Addr × Obj)} (h1 : ∀ p ∈ rest, p.1 ≠ a) (h2 : ∀ p ∈ rest, p.1 ≠ b) (h3 : ∀ p ∈ rest, p.1 ≠ c) (h4 : ∀ p ∈ rest, p.1 ≠ d) : ∀ p ∈ rest, p.1 ∉ [(a, oa), (b, ob), (c, oc), (d, od)].map (·.1) := fun p hp hm => by
  simp only [List.map_cons, List.map_nil, List.mem_cons, List.not_mem_nil, or_false] at hm
  rcases hm with h | h | h | h
  · exact h1 p hp h
  · exact h2 p hp h
  · exact h3 p hp h
  · exact h4 p hp h
theorem without_not {kvs : List (Int × Value)} {n : Int} (h : (valueAt kvs n).isSome = false) : without kvs n = kvs := by
  unfold without
  refine List.filter_eq_self.mpr fun kv hkv => ?_
  simp only [ne_eq, decide_not, Bool.not_eq_true', decide_eq_false_iff_not]
  intro e
  subst e
  have h2 : valueAt kvs kv.1 = none := by simpa using h
  simp only [valueAt, Option.map_eq_none_iff] at h2
  have := List.find?_eq_none.mp h2 kv hkv
  simp at this
local macro_rules | `(tactic| k_ne) => `(tactic| walk_at "z3")
local macro_rules | `(tactic| k_all) => `(tactic| first | with_reducible assumption | exact all_ne_of_lt (by with_reducible assumption))
local macro_rules | `(tactic| k_lt $h) => `(tactic| (replace $h := allLt_of $h; (repeat (first | (have hl9 := allLt_hd $h; replace $h := allLt_tl $h) | (have hl9 := allLt_hp $h; replace $h := allLt_tl $h)))))
local macro_rules | `(tactic| k_room) => `(tactic| walk_at "z1")
local macro_rules | `(tactic| k_enter) => `(tactic| walk_at "z4")
local macro_rules | `(tactic| walk_at "execs cons") => `(tactic| walk_at "z5")
local macro_rules | `(tactic| walk_at "compareOp In int ref") => `(tactic| (k_here; k_dflt (refine' kda_in (knd := PySem.intKind _ _) ?N ?p ?d ?lo (intKind_is _ _ _ _) _ rfl ?_; (case N => k_asm); (case p => k_mem); (case d => k_asm); (case lo => k_asm); k_whole)))
local macro_rules | `(tactic| walk_at "call builtin:dict.pop") => `(tactic| (k_here; (obtain ⟨v', hv'⟩ := Option.isSome_iff_exists.mp (by with_reducible assumption)); k_dflt (refine' kob_pop (more := []) (knd := PySem.intKind _ _) ?F ?N ?U ?d (intKind_is _ _ _ _) (Or.inl rfl) rfl ?g hv' ?z ?_; (case F => k_asm); (case N => k_asm); (case U => k_updF); (case d => k_asm); (case g => (unfold argsOk; kernel_rfl)); (case z => walk_at "zl"); k_whole); intro h' o' F' N' hd'; (try dsimp only at N'); (try k_sweep)))
local macro_rules | `(tactic| walk_at "CompRestT") => `(tactic| (with_unfolding_all first | (refine LCt.CompRestT.succ ?_; intro v' I' oI' C' oC' D' m' h' tk' E' hv' hC' hx' F' N' off' ne'; (first | lcg_open hv' | (obtain ⟨t9', hv9'⟩ := hv'; subst hv9')); (try simp only [LCg.Off3, and_true] at off'); walk_at "zc") | refine LCt.CompRestT.zero ?_))
local macro_rules | `(tactic| walk_at "exec Assign cons ListComp") => `(tactic| (k_here; k_dflt (refine LCt.Assign_ListComp_T (F₀ := by k_asm) (by rfl) (by with_unfolding_all rfl) (by with_unfolding_all rfl) (by decide) (by rfl) (by decide) (by rfl) (by rfl) (by rfl) ?_)))
local macro_rules | `(tactic| walk_at "CompSrcT") => `(tactic| (k_here; (obtain ⟨t8, e8⟩ := ints_one (by with_reducible assumption) (by with_reducible assumption)); subst e8; k_dflt (refine' LCt.CompSrcT.ledger ?q1 ?q2 ?q3 ?q4 ?q5 ?_; (case q1 => rfl); (case q2 => k_asm); (case q3 => k_asm); (case q4 => k_mem); (case q5 => first | size_fits | exact Nat.le_of_ble_eq_true rfl)); intro g9; lct_lit))
set_option maxHeartbeats 8000000 in
theorem take_one : ∀ {w : World} {mean : ExcName → Option Value} {mg mb : Str → Option Value} {dp un : Nat} {gd : Option (List Code)} {cn : Str} {cs : Scope} {a : Addr} {ccd : Value} {cl : List (Str × Addr)} {outer : List Env} {A₀ : Around} {base h₀ : Heap} {L : Addr} {m : Str → Option Value} {s : Shared}
    {Q E : Value → Shared → Prop} {rest : List (Addr × Obj)} {x dx se ln : Addr} {o oe : Obj} {nm nn lel : Value} {n : Int} {tn : Tok} {kvs : List (Int × Value)} {k : Nat}
    (B : Below A₀ base outer h₀) (F : Fr h₀ L s.heap m) (X : (heapK w.params).In h₀) (N : News h₀ L s.heap ((x, instObj 229 dx) :: (dx, o) :: (se, oe) :: (ln, { cls := .type "list", data := .seq #[.int n tn] k }) :: rest)) (T : Top vw (looseW vw []) mean mg mb h₀) (hk : cs.kind = .function) (hdp : dp < 400) (hu : un < 400)
    (hs : IsSp w.params o nm nn (.ref se) lel) (he : oe.IsDictOf (Iz w) kvs) (hlo : (se == sysModules) = false) (hle : kvs.length ≤ 100) (o1 : ∀ p ∈ rest, p.1 ≠ x) (o2 : ∀ p ∈ rest, p.1 ≠ dx) (o3 : ∀ p ∈ rest, p.1 ≠ se) (o4 : ∀ p ∈ rest, p.1 ≠ ln) (l1 : @LT.lt Nat _ dx x) (l2 : @LT.lt Nat _ x se) (l3 : @LT.lt Nat _ se ln)
    (hret : ∀ r oe' h' tk', Fr h₀ L h' m → News h₀ L h' ((x, instObj 229 dx) :: (dx, o) :: (se, oe') :: rest) → oe'.IsDictOf (Iz w) (without kvs n) → Q (.ref r) { s with heap := h', toks := tk' }),
    wpAny (model PySem.Challenge.rw_no0077_01.row.prog w) (ktrTop dp un gd cn cs L a ccd cl outer) (call (.ref 181) [.ref x, .ref ln]) Q E s := by
  k_fill
  intro w mean mg mb dp un gd cn cs a ccd cl outer A₀ base h₀ L m s Q E rest x dx se ln o oe nm nn lel n tn kvs k B F X N T hk hdp hu hs he hlo hle o1 o2 o3 o4 l1 l2 l3 hret
  obtain ⟨sv, rfl⟩ := hs
  have l4 := Nat.lt_trans l1 l2
  have N1 : News h₀ L s.heap [(x, instObj 229 dx), (dx, dictOf (SpE w.params sv nm nn (.ref se) lel) 15), (se, oe), (ln, { cls := .type "list", data := .seq #[.int n tn] k })] := News.sub N (by lcg_sub)
  refine wpAny_call ?_
  k_dflt (refine' enter_cells ?k1 ?k2 ?k3 ?k4 ?k5 ?kA ?kF ?kK ?k6 ?k7 ?k8 ?k9 ?kB ?kD ?_ ?c2 ?c3 ?c4; (case kA => exact rfl); (case kF => exact rfl); (case kK => assumption); (case k1 => k_asm); (case k2 => k_asm); (case k3 => k_asm); (case k4 => exact N1); (case k5 => k_asm); (case k6 => k_is); (case k7 => k_is); (case k8 => ktr_room); (case k9 => exact BindsTo.of_eq rfl); (case kB => exact rfl); (case kD => decide +kernel); (case c2 => exact rfl); (case c3 => exact rfl); (case c4 => exact rfl); k_whole; intro g' L' h' tk' cells' FG' F' N' Y' B' X' T' l1 GS'; (try k_lt l1); k_cells Y'; (try simp only [List.cons_append, List.nil_append] at N'); (try dsimp only); (try k_fold))
  k_steps
  all_goals (
    (rename Fr _ _ _ _ => kF)
    (rename News _ _ _ _ => kN)
    (rename Fr g' _ _ _ => F9)
    (rename GSub _ _ _ => GS'))
  · (rename Obj.IsDictOf _ _ (without _ _) => hd')
    exact hret _ _ _ _ kF (news_back (led := [_, _, _, _]) (new := [_, _, _]) N GS' F9 (News.sub kN (by lcg_sub)) (off_four o1 o2 o3 o4)) hd'
  · refine hret _ oe _ _ kF (news_back (led := [_, _, _, _]) (new := [_, _, _]) N GS' F9 (News.sub kN (by lcg_sub)) (off_four o1 o2 o3 o4)) ?_
    rw [without_not (by with_reducible assumption)]
    exact he
end
local macro_rules | `(tactic| walk_at "z10") => `(tactic| (k_here; (with_reducible show wpAny _ _ (eval (Expr.Name _ _) (compEnvC _ _ _ _)) _ _ _); refine ldVarK (by assumption) (by first | assumption | rfl) ?_))
section
local macro_rules | `(tactic| k_ne) => `(tactic| walk_at "z3")
local macro_rules | `(tactic| k_all) => `(tactic| first | with_reducible assumption | exact all_ne_of_lt (by with_reducible assumption))
local macro_rules | `(tactic| k_lt $h) => `(tactic| (replace $h := allLt_of $h; (repeat (first | (have hl9 := allLt_hd $h; replace $h := allLt_tl $h) | (have hl9 := allLt_hp $h; replace $h := allLt_tl $h)))))
local macro_rules | `(tactic| k_room) => `(tactic| walk_at "z1")
local macro_rules | `(tactic| k_enter) => `(tactic| walk_at "z4")
local macro_rules | `(tactic| walk_at "execs cons") => `(tactic| walk_at "z5")
local macro_rules | `(tactic| walk_at "eval Name") => `(tactic| walk_at "z10")
local macro_rules | `(tactic| walk_at "eval ListComp") => `(tactic| (k_here; (rename Tie _ _ _ _ _ => hT9); (refine' comp_e (cl := []) (elPof hT9) (fun _ y => ∃ t, y = Value.int 1 t) ?q0 ?q1 ?q2 ?q3 ?q4 ?q5 ?q6 ?q7); (case q0 => k_asm); (case q1 => with_unfolding_all rfl); (case q2 => decide); (case q3 => with_unfolding_all rfl); (case q4 => decide); (case q5 => with_unfolding_all rfl); (case q7 => (intro _; with_unfolding_all rfl))))
set_option maxHeartbeats 8000000 in
theorem el_left : ∀ {w : World} {mean : ExcName → Option Value} {mg mb : Str → Option Value} {dp un : Nat} {gd : Option (List Code)} {cn : Str} {cs : Scope} {a : Addr} {ccd : Value} {cl : List (Str × Addr)} {outer : List Env} {A₀ : Around} {base h₀ : Heap} {L : Addr} {m : Str → Option Value} {s : Shared}
    {Q E : Value → Shared → Prop} {rest : List (Addr × Obj)} {x dx se : Addr} {o oe : Obj} {nm nn lel : Value} {kvs : List (Int × Value)} {rows : List Value} {els : List (Int × Bool)}
    (B : Below A₀ base outer h₀) (F : Fr h₀ L s.heap m) (X : (heapK w.params).In h₀) (N : News h₀ L s.heap ((x, instObj 229 dx) :: (dx, o) :: (se, oe) :: rest)) (T : Top vw (looseW vw []) mean mg mb h₀) (hk : cs.kind = .function) (hdp : dp < 400) (hu : un < 400)
    (hs : IsSp w.params o nm nn (.ref se) lel) (he : oe.IsDictOf (Iz w) kvs) (hlo : (se == sysModules) = false) (hle : kvs.length ≤ 100) (ht : Tie w.params rest kvs rows els)
    (hret : ∀ h' tk', Fr h₀ L h' m → News h₀ L h' ((x, instObj 229 dx) :: (dx, o) :: (se, oe) :: rest) → Q (.bool (decide (0 < (els.filter (·.2)).length))) { s with heap := h', toks := tk' }),
    wpAny (model PySem.Challenge.rw_no0077_01.row.prog w) (ktrTop dp un gd cn cs L a ccd cl outer) (call (.ref 207) [.ref x]) Q E s := by
  k_fill
  intro w mean mg mb dp un gd cn cs a ccd cl outer A₀ base h₀ L m s Q E rest x dx se o oe nm nn lel kvs rows els B F X N T hk hdp hu hs he hlo hle ht hret
  obtain ⟨sv, rfl⟩ := hs
  refine wpAny_call ?_
  k_dflt ktr_enter
  k_steps
  (rename Fr _ _ _ _ => F9); (rename News _ _ _ _ => N9)
  (rename Tie _ _ _ _ _ => ht)
  refine ⟨_, _, _, Src.values (knd := intKind _ _) (by rfl) F9 N9 (by k_mem) (by k_mem) he ?sz, ⟨?t, ?e⟩, ?q⟩
  case sz => rw [sizeLine_eq]; omega
  case t =>
    intro C v s₂ m₂ E' hv hn hm F2 N2
    obtain ⟨b, hb⟩ := ht.pk v hv
    rw [show elPof ht v = b from elP_eq (News.sub N2 (fun _ => tail4)) hb]
    obtain ⟨p, pd, op, fl, rfl, h1, h2, h3⟩ := hb
    obtain ⟨c9, t9, rfl⟩ := h3
    have N3 := News.sub N2 (l' := [(p, instObj 109 pd), (pd, _)]) (two_of (tail4 h1) (tail4 h2))
    clear N2 N9 N
    k_steps
    all_goals first | exact rfl | exact ⟨_, _, rfl, fun _ _ e => e⟩
  case e => 
    intro C v s₂ m₂ E' hv hp hn hm F2 N2
    k_steps
    all_goals first | exact ⟨_, rfl⟩ | exact ⟨_, _, rfl, fun _ _ e => e⟩
  case q =>
    intro D ys k h3 tk3 N3 ne3 hP3 F3
    have hl := Paired.len hP3
    rw [ht.anyPk fun v b h => elP_eq (News.sub N3 (fun _ h => .tail _ (tail4 h))) h] at hl
    have hl2 : ys.length ≤ 100 := by
      rw [hl]
      exact Nat.le_trans (List.length_filter_le ..) (by rw [← ht.len.1]; exact hle)
    rw [← hl] at hret
    k_steps
    refine call_len_list (News.isList N3 (.head _)) (by rw [List.size_toArray]; omega) ?_
    k_steps
    (rename Fr _ _ _ _ => kF); (rename News _ _ _ _ => kN)
    rw [show decide (0 < (ys.toArray.size : Int)) = decide (0 < ys.length) by rw [List.size_toArray]; simp]
    exact hret _ _ kF (News.drop1 (News.drop1 kN))
end
section
local macro_rules | `(tactic| k_ne) => `(tactic| walk_at "z3")
local macro_rules | `(tactic| k_all) => `(tactic| first | with_reducible assumption | exact all_ne_of_lt (by with_reducible assumption))
local macro_rules | `(tactic| k_lt $h) => `(tactic| (replace $h := allLt_of $h; (repeat (first | (have hl9 := allLt_hd $h; replace $h := allLt_tl $h) | (have hl9 := allLt_hp $h; replace $h := allLt_tl $h)))))
local macro_rules | `(tactic| k_room) => `(tactic| walk_at "z1")
local macro_rules | `(tactic| k_enter) => `(tactic| walk_at "z4")
local macro_rules | `(tactic| walk_at "execs cons") => `(tactic| walk_at "z5")
local macro_rules | `(tactic| walk_at "eval Name") => `(tactic| walk_at "z10")
local macro_rules | `(tactic| walk_at "eval ListComp") => `(tactic| (k_here; (rename Tie _ _ _ _ _ => hT9); (refine' comp_e (cl := []) (flPof hT9) fifty ?q0 ?q1 ?q2 ?q3 ?q4 ?q5 ?q6 ?q7); (case q0 => k_asm); (case q1 => with_unfolding_all rfl); (case q2 => decide); (case q3 => with_unfolding_all rfl); (case q4 => decide); (case q5 => with_unfolding_all rfl); (case q7 => (intro _; with_unfolding_all rfl))))
local macro_rules | `(tactic| walk_at "zz1") => `(tactic| skip)
set_option maxHeartbeats 8000000 in
theorem oct_out : ∀ {w : World} {mean : ExcName → Option Value} {mg mb : Str → Option Value} {dp un : Nat} {gd : Option (List Code)} {cn : Str} {cs : Scope} {a : Addr} {ccd : Value} {cl : List (Str × Addr)} {outer : List Env} {A₀ : Around} {base h₀ : Heap} {L : Addr} {m : Str → Option Value} {s : Shared}
    {Q E : Value → Shared → Prop} {rest : List (Addr × Obj)} {x dx se : Addr} {o oe : Obj} {nm nn lel : Value} {kvs : List (Int × Value)} {rows : List Value} {els : List (Int × Bool)}
    (B : Below A₀ base outer h₀) (F : Fr h₀ L s.heap m) (X : (heapK w.params).In h₀) (N : News h₀ L s.heap ((x, instObj 229 dx) :: (dx, o) :: (se, oe) :: rest)) (T : Top vw (looseW vw []) mean mg mb h₀) (hk : cs.kind = .function) (hdp : dp < 400) (hu : un < 400)
    (hs : IsSp w.params o nm nn (.ref se) lel) (he : oe.IsDictOf (Iz w) kvs) (hlo : (se == sysModules) = false) (hle : kvs.length ≤ 100) (ht : Tie w.params rest kvs rows els)
    (hret : ∀ n t h' tk', Fr h₀ L h' m → News h₀ L h' ((x, instObj 229 dx) :: (dx, o) :: (se, oe) :: rest) → Q (.int n t) { s with heap := h', toks := tk' }),
    wpAny (model PySem.Challenge.rw_no0077_01.row.prog w) (ktrTop dp un gd cn cs L a ccd cl outer) (call (.ref 212) [.ref x]) Q E s := by
  k_fill
  intro w mean mg mb dp un gd cn cs a ccd cl outer A₀ base h₀ L m s Q E rest x dx se o oe nm nn lel kvs rows els B F X N T hk hdp hu hs he hlo hle ht hret
  obtain ⟨sv, rfl⟩ := hs
  refine wpAny_call ?_
  k_dflt ktr_enter
  k_steps
  (rename Fr _ _ _ _ => F9); (rename News _ _ _ _ => N9)
  (rename Tie _ _ _ _ _ => ht)
  refine ⟨_, _, _, Src.values (knd := intKind _ _) (by rfl) F9 N9 (by k_mem) (by k_mem) he ?sz, ⟨?t, ?e⟩, ?q⟩
  case sz => rw [sizeLine_eq]; omega
  case t =>
    intro C v s₂ m₂ E' hv hn hm F2 N2
    obtain ⟨b, hb⟩ := ht.pk v hv
    obtain ⟨p, pd, op, fl, rfl, h1, h2, h3⟩ := hb
    rw [show flPof ht (.ref p) = fl from flP_eq (News.sub N2 (fun _ => tail4)) h1 h2 h3]
    obtain ⟨c9, t9, rfl⟩ := h3
    have N3 := News.sub N2 (l' := [(p, instObj 109 pd), (pd, _)]) (two_of (tail4 h1) (tail4 h2))
    clear N2 N9 N
    k_steps
    all_goals first | exact rfl | exact ⟨_, _, rfl, fun _ _ e => e⟩
  case e => 
    intro C v s₂ m₂ E' hv hp hn hm F2 N2
    obtain ⟨b, hb⟩ := ht.pk v hv
    obtain ⟨p, pd, op, fl, rfl, h1, h2, h3⟩ := hb
    obtain ⟨c9, t9, rfl⟩ := h3
    have N3 := News.sub N2 (l' := [(p, instObj 109 pd), (pd, _)]) (two_of (tail4 h1) (tail4 h2))
    clear N2 N9 N
    k_steps
    all_goals first | exact ⟨_, rfl⟩ | exact ⟨_, _, rfl, fun _ _ e => e⟩
  case q =>
    intro D ys k h3 tk3 N3 ne3 hP3 F3
    have hl := Paired.len hP3
    obtain ⟨ns3, hI3⟩ := fifty_ints hP3
    have hl2 : ys.length ≤ 100 := by
      rw [hl]
      exact Nat.le_trans (List.length_filter_le ..) (by rw [List.length_map]; exact hle)
    k_steps
    (rename Fr _ _ _ _ => kF); (rename News _ _ _ _ => kN)
    exact hret _ _ _ _ kF (News.drop1 (News.drop1 kN))
end
section
local macro_rules | `(tactic| k_ne) => `(tactic| walk_at "z3")
local macro_rules | `(tactic| k_all) => `(tactic| first | with_reducible assumption | exact all_ne_of_lt (by with_reducible assumption))
local macro_rules | `(tactic| k_lt $h) => `(tactic| (replace $h := allLt_of $h; (repeat (first | (have hl9 := allLt_hd $h; replace $h := allLt_tl $h) | (have hl9 := allLt_hp $h; replace $h := allLt_tl $h)))))
local macro_rules | `(tactic| k_room) => `(tactic| walk_at "z1")
local macro_rules | `(tactic| k_enter) => `(tactic| walk_at "z4")
local macro_rules | `(tactic| walk_at "execs cons") => `(tactic| walk_at "z5")
local macro_rules | `(tactic| walk_at "call ref") => `(tactic| (k_here; (with_reducible show wpAny _ _ (call (Value.ref 212) _) _ _ _); k_dflt (refine' oct_out  ?B ?F ?X ?N ?T ?k ?d ?u ?p0 ?p1 ?p2 ?p3 ?p4 ?_; (case B => k_asm); (case F => k_asm); (case X => k_asm); (case N => k_asm); (case T => k_asm); (case k => exact rfl); (case d => walk_at "zr"); (case u => walk_at "zu"); (case p0 => exact SpV.is _ _ _ _ _); (case p1 => assumption); (case p2 => assumption); (case p3 => assumption); (case p4 => assumption); k_whole); intro n' t' h' tk' F' N'; (try dsimp only); (try k_sweep)))
theorem sub_fg {α : Type} {l d x dx se : α} {rest : List α} : ∀ p ∈ x :: dx :: d :: rest, p ∈ l :: d :: x :: dx :: se :: rest := by
  intro p hp
  simp only [List.mem_cons] at hp ⊢
  rcases hp with h | h | h | h <;> simp [h]
set_option maxHeartbeats 8000000 in
theorem forget_call : ∀ {w : World} {mean : ExcName → Option Value} {mg mb : Str → Option Value} {dp un : Nat} {gd : Option (List Code)} {cn : Str} {cs : Scope} {a : Addr} {ccd : Value} {cl : List (Str × Addr)} {outer : List Env} {A₀ : Around} {base h₀ : Heap} {L : Addr} {m : Str → Option Value} {s : Shared}
    {Q E : Value → Shared → Prop} {rest : List (Addr × Obj)} {x dx se : Addr} {o oe : Obj} {nm nn lel : Value} {kvs : List (Int × Value)} {rows : List Value} {els : List (Int × Bool)}
    (B : Below A₀ base outer h₀) (F : Fr h₀ L s.heap m) (X : (heapK w.params).In h₀) (N : News h₀ L s.heap ((x, instObj 229 dx) :: (dx, o) :: (se, oe) :: rest)) (T : Top vw (looseW vw []) mean mg mb h₀) (hk : cs.kind = .function) (hdp : dp < 350) (hu : un < 350)
    (hs : IsSp w.params o nm nn (.ref se) lel) (he : oe.IsDictOf (Iz w) kvs) (hlo : (se == sysModules) = false) (hle : kvs.length ≤ 100) (ht : Tie w.params rest kvs rows els) (o1 : ∀ p ∈ rest, p.1 ≠ dx) (l1 : @LT.lt Nat _ dx x) (l2 : @LT.lt Nat _ x se)
    (hret : ∀ n t se' oe' o' h' tk', Fr h₀ L h' m → News h₀ L h' ((x, instObj 229 dx) :: (dx, o') :: (se', oe') :: rest) → IsSp w.params o' nm nn (.ref se') .none → oe'.IsDictOf (Iz w) [] → (se' == sysModules) = false → AllLt se' rest → @LT.lt Nat _ x se' → Q (.int n t) { s with heap := h', toks := tk' }),
    wpAny (model PySem.Challenge.rw_no0077_01.row.prog w) (ktrTop dp un gd cn cs L a ccd cl outer) (call (.ref 226) [.ref x]) Q E s := by
  k_fill
  intro w mean mg mb dp un gd cn cs a ccd cl outer A₀ base h₀ L m s Q E rest x dx se o oe nm nn lel kvs rows els B F X N T hk hdp hu hs he hlo hle ht o1 l1 l2 hret
  obtain ⟨sv, rfl⟩ := hs
  refine wpAny_call ?_
  k_dflt ktr_enter
  k_steps
  (rename Fr _ _ _ _ => kF); (rename News _ _ _ _ => kN); (rename Obj.IsDictOf _ _ [] => hd')
  exact hret _ _ _ _ _ _ _ kF (News.sub kN sub_fg) (⟨{ sv with v5 := .none, v6 := _, v9 := .none, v10 := .int 0 _, v11 := .bool false, v12 := .bool false, v14 := .bool true }, rfl⟩) hd' (by assumption) (by assumption) (by assumption)
end
section
local macro_rules | `(tactic| k_ne) => `(tactic| walk_at "z3")
local macro_rules | `(tactic| k_all) => `(tactic| first | with_reducible assumption | exact all_ne_of_lt (by with_reducible assumption))
local macro_rules | `(tactic| k_lt $h) => `(tactic| (replace $h := allLt_of $h; (repeat (first | (have hl9 := allLt_hd $h; replace $h := allLt_tl $h) | (have hl9 := allLt_hp $h; replace $h := allLt_tl $h)))))
local macro_rules | `(tactic| k_room) => `(tactic| walk_at "z1")
local macro_rules | `(tactic| k_enter) => `(tactic| walk_at "z4")
local macro_rules | `(tactic| walk_at "execs cons") => `(tactic| walk_at "z5")
local macro_rules | `(tactic| walk_at "eval Name") => `(tactic| walk_at "z10")
def bigI : Value → Bool
  | .int n _ => decide (10 ^ Int.toNat 9 < if n < 0 then -n else n)
  | _ => false
def absI (v y : Value) : Prop := ∃ n t t', v = .int n t ∧ y = .int (if n < 0 then -n else n) t'
theorem abs_ints {vs ys : List Value} (h : Paired absI vs ys) : ∃ ns, IntsAre ys ns ∧ 0 ≤ ns.sum := by
  induction h with
  | nil => exact ⟨[], .nil, by simp⟩
  | cons a _ ih =>
    obtain ⟨n, t, t', _, rfl⟩ := a
    obtain ⟨ns, h1, h2⟩ := ih
    exact ⟨_, .cons _ _ h1, by simp only [List.sum_cons]; split <;> omega⟩
theorem ints_mem {vs : List Value} {ns : List Int} (h : IntsAre vs ns) {v : Value} (hv : v ∈ vs) : ∃ n t, v = .int n t := by
  induction h with
  | nil => cases hv
  | cons n t _ ih =>
    rcases List.mem_cons.mp hv with rfl | hv
    · exact ⟨_, _, rfl⟩
    · exact ih hv
local macro_rules | `(tactic| walk_at "eval ListComp") => `(tactic| (k_here; (refine' comp_e (cl := []) bigI absI ?q0 ?q1 ?q2 ?q3 ?q4 ?q5 ?q6 ?q7); (case q0 => k_asm); (case q1 => with_unfolding_all rfl); (case q2 => decide); (case q3 => with_unfolding_all rfl); (case q4 => decide); (case q5 => with_unfolding_all rfl); (case q7 => (intro _; with_unfolding_all rfl))))
set_option maxHeartbeats 8000000 in
theorem draws_call : ∀ {w : World} {mean : ExcName → Option Value} {mg mb : Str → Option Value} {dp un : Nat} {gd : Option (List Code)} {cn : Str} {cs : Scope} {a : Addr} {ccd : Value} {cl : List (Str × Addr)} {outer : List Env} {A₀ : Around} {base h₀ : Heap} {L : Addr} {m : Str → Option Value} {s : Shared}
    {Q E : Value → Shared → Prop} {x : Addr} {vs : List Value} {ns : List Int} {p1 p2 : List Addr}
    (B : Below A₀ base outer h₀) (F : Fr h₀ L s.heap m) (X : (heapK w.params).In h₀) (N : News h₀ L s.heap ([])) (T : Top vw (looseW vw []) mean mg mb h₀) (hk : cs.kind = .function) (hdp : dp < 450) (hu : un < 450)
    (hs : Spec.Shape.int.list.has (PyData.list (List.map PyData.int ns)) = true) (hL1 : (PyData.list (List.map PyData.int ns)).layable0 = true) (hL : h₀.IsList x vs.toArray) (ra : ReadsAll h₀ vs (List.map PyData.int ns) p1) (w1 : Well w.params h₀ (Value.ref x) (ofPy (PyData.list (List.map PyData.int ns)))) (r0 : Reads h₀ (Value.ref x) (PyData.list (List.map PyData.int ns)) p2) (hI : IntsAre vs ns) (hlen : ¬ ((63 : Nat) : Int) < (ns.length : Int))
    (hret : ∀ d o h' tk', Fr h₀ L h' m → News h₀ L h' [(d, o)] → IsDraws w o → (d == sysModules) = false → Q (.ref d) { s with heap := h', toks := tk' }),
    wpAny (model PySem.Challenge.rw_no0077_01.row.prog w) (ktrTop dp un gd cn cs L a ccd cl outer) (call (.ref 252) [.ref x]) Q E s := by
  k_fill
  intro w mean mg mb dp un gd cn cs a ccd cl outer A₀ base h₀ L m s Q E x vs ns p1 p2 B F X N T hk hdp hu hs hL1 hL ra w1 r0 hI hlen hret
  refine wpAny_call ?_
  k_dflt ktr_enter
  (rename Fr h₀ L _ m => FG)
  have hL2 := Fr.lst FG hL
  (k_with "pyIter ref" => k_state (fun pre m => 0 ≤ m ∧ m < 2147483647) "mixed_here")
  k_steps
  (rename Fr _ _ _ _ => F9); (rename News _ _ _ _ => N9)
  (rename IntsAre _ _ => hI9)
  have hlen9 := hI9.length
  refine ⟨_, _, _, Src.list (by rfl) F9 N9 (News.isList N9 (by k_mem)) ?sz, ⟨?t, ?e⟩, ?q⟩
  case sz => rw [hlen9, List.length_take]; exact Nat.le_trans (Nat.min_le_left ..) (by rw [sizeLine_eq]; omega)
  case t =>
    intro C v s₂ m₂ E' hv hn hm F2 N2
    obtain ⟨n, t, rfl⟩ := ints_mem hI9 hv
    k_steps
    all_goals first | exact rfl | exact ⟨_, _, rfl, fun _ _ e => e⟩
  case e =>
    intro C v s₂ m₂ E' hv hp hn hm F2 N2
    obtain ⟨n, t, rfl⟩ := ints_mem hI9 hv
    k_steps
    · exact ⟨_, _, _, rfl, rfl⟩
    · exact ⟨_, _, rfl, fun _ _ e => e⟩
  case q =>
    intro D ys k h3 tk3 N3 ne3 hP3 F3
    obtain ⟨ns3, hI3, hnn⟩ := abs_ints hP3
    simp only [List.forall_mem_cons] at ne3
    walk_at "zc"
    k_steps
    (rename Fr _ _ _ _ => kF); (rename News _ _ _ _ => kN); (rename Obj.IsDictOf _ _ _ => hd')
    exact hret _ _ _ _ kF (News.sub kN (List.forall_mem_cons.mpr ⟨by k_mem, List.forall_mem_nil _⟩)) ⟨_, _, _, _, hd', hnn, by assumption, by assumption⟩ (by assumption)
end
noncomputable def fnBody (i : Nat) : List Stmt := match sT i with
  | .FunctionDef _ _ body .. => body
  | _ => []
noncomputable def fnScope (i : Nat) : Scope := match sT i with
  | .FunctionDef _ _ _ _ _ _ scope _ _ _ => scope
  | _ => pg.main.scope
noncomputable def stAt (l : List Stmt) (j : Nat) : Stmt := (l[j]?).getD (.Pass q0)
noncomputable def forBody (s : Stmt) : List Stmt := match s with
  | .For _ _ body _ _ => body
  | _ => []
def Off (xs : List Str) (m m' : Str → Option Value) : Prop := ∀ y, y ∉ xs → m' y = m y
theorem Off.get {xs : List Str} {m m' : Str → Option Value} (h : Off xs m m') {y : Str} {v : Option Value} (e : m y = v) (hy : y ∉ xs := by decide) : m' y = v := (h y hy).trans e
local macro_rules | `(tactic| k_ne) => `(tactic| (refine neN ?_; (try dsimp only); (with_reducible_and_instances first | assumption | (refine Nat.ne_of_lt ?_; assumption) | (refine Nat.ne_of_gt ?_; assumption) | (refine Ne.symm ?_; assumption))))
local macro_rules | `(tactic| k_all) => `(tactic| first | with_reducible assumption | exact all_ne_of_lt (by with_reducible assumption))
local macro_rules | `(tactic| k_all) => `(tactic| ((repeat (refine List.forall_mem_cons.mpr ⟨?_, ?_⟩; focus k_ne)); first | with_reducible assumption | (refine all_ne_of_lt ?_; with_reducible assumption) | exact List.forall_mem_nil _))
local macro_rules | `(tactic| k_lt $h) => `(tactic| (replace $h := allLt_of $h; (repeat (first | (have hl9 := allLt_hd $h; replace $h := allLt_tl $h) | (have hl9 := allLt_hp $h; replace $h := allLt_tl $h)))))
local macro_rules | `(tactic| k_in) => `(tactic| first | with_reducible assumption | exact Frag.In.keeps (by with_reducible assumption) (Fr.keep (by with_reducible assumption)))
local macro_rules | `(tactic| walk_at "callWith ref") => `(tactic| (k_here; k_dflt (first | (refine' callWith_K (K := heapK _) ?k1 ?k2 ?_; (case k1 => with_reducible assumption); (case k2 => k_is); k_whole) | (refine' callWith_M (K := heapK _) ?k1 ?k2 ?k3 ?k4 ?_; (case k1 => with_reducible assumption); (case k2 => with_reducible assumption); (case k3 => k_mem); (case k4 => k_is); k_whole) | (refine' callWith_M0 (K := heapK _) ?k1 ?k2 ?_; (case k1 => (refine' methP ?N ?q ?X; (case N => with_reducible assumption); (case q => k_mem); (case X => k_in))); (case k2 => k_is); k_whole; try dsimp only [List.nil_append, List.cons_append]))))
local macro_rules | `(tactic| walk_at "eval Name") => `(tactic| (k_here; k_dflt (refine' nameX_L ?F ?v ?_ ?a ?b; (case F => with_reducible assumption); (case v => with_reducible assumption); (case a => rfl); (case b => rfl); k_whole)))
section
local macro_rules | `(tactic| walk_at "call ref") => `(tactic| (k_here; refine held ?_))
local macro_rules | `(tactic| walk_at "subscriptTail") => `(tactic| (k_here; (with_reducible show wpAny _ _ (subscriptTail _ _ (Value.ref _) (Value.int _ _)) _ _ _); k_dflt (refine' item_two ?N ?m ?a ?b ?x ?y; (case N => k_asm); (case m => k_mem); (case a => assumption); (case b => assumption)); (all_goals (intro hz; clear hz; try dsimp only))))
set_option maxHeartbeats 8000000 in
theorem f_time : ∀ {w : World} {mean : ExcName → Option Value} {mg mb : Str → Option Value} {dp un : Nat} {gd : Option (List Code)} {outer : List Env} {A₀ : Around} {base h₀ : Heap} {L : Addr} {m : Str → Option Value} {s : Shared} {tl : List Stmt} {Q : Flow → Shared → Prop} {E : Value → Shared → Prop} {rest : List (Addr × Obj)} {d : Addr} {od : Obj} {tv : Int} {tt : Tok}
    (B : Below A₀ base outer h₀) (F : Fr h₀ L s.heap m) (X : (heapK w.params).In h₀) (N : News h₀ L s.heap ((d, od) :: rest)) (T : Top vw (looseW vw []) mean mg mb h₀) (hdp : dp < 345) (hu : un < 345)
    (r1 : m (Str.ofString "time") = some (.int tv tt)) (r2 : m (Str.ofString "draws") = some (.ref d)) (hoff : ∀ p ∈ rest, p.1 ≠ d) (hlo : (d == sysModules) = false) (hdr : IsDraws w od)
    (hret : ∀ tv' tt' (b : Bool) od' h' tk' m', Fr h₀ L h' m' → m' (Str.ofString "time") = some (.int tv' tt') → m' (Str.ofString "asks") = some (.bool b) → Off [Str.ofString "time", Str.ofString "asks"] m m' → News h₀ L h' ((d, od') :: rest) → IsDraws w od' → wpAny (model PySem.Challenge.rw_no0077_01.row.prog w) (ktrTop dp un gd (Str.ofString "_law_filled") (fnScope 25) L 257 (.ref 256) (cellsFrom (L + 1) (fnScope 25).names []) outer) (execs tl (envOfC (Str.ofString "_law_filled") (fnScope 25) L 257 (.ref 256))) Q E { s with heap := h', toks := tk' }),
    wpAny (model PySem.Challenge.rw_no0077_01.row.prog w) (ktrTop dp un gd (Str.ofString "_law_filled") (fnScope 25) L 257 (.ref 256) (cellsFrom (L + 1) (fnScope 25).names []) outer) (execs ((stAt (forBody (stAt (fnBody 25) 1)) 0) :: tl) (envOfC (Str.ofString "_law_filled") (fnScope 25) L 257 (.ref 256))) Q E s := by
  k_fill
  intro w mean mg mb dp un gd outer A₀ base h₀ L m s tl Q E rest d od tv tt B F X N T hdp hu r1 r2 hoff hlo hdr hret
  walk_at "zwa"
  k_steps
  (show wpAny _ _ (call (Value.ref 247) [Value.ref _, Value.int _ _]) _ _ _)
  k_dflt ((refine' take_call (N := Pull.news ?P ?N) ?B ?F ?X ?T ?k ?d ?u ?o ?lo ?dr ?hm ?_; (case N => k_asm); (case P => walk_at "zp"); (case B => k_asm); (case F => k_asm); (case X => k_asm); (case T => k_asm); (case k => exact rfl); (case d => walk_at "zr"); (case u => walk_at "zu"); (case o => k_all); (case lo => assumption); (case dr => assumption); (case hm => first | assumption | decide | omega); k_whole); intro r1 t1 o1 h1 tk1 F1 N1 hd1 ra1 rb1; (try dsimp only); (try k_sweep))
  k_steps
  (show wpAny _ _ (call (Value.ref 247) [Value.ref _, Value.int _ _]) _ _ _)
  k_dflt ((refine' take_call (N := Pull.news ?P ?N) ?B ?F ?X ?T ?k ?d ?u ?o ?lo ?dr ?hm ?_; (case N => k_asm); (case P => walk_at "zp"); (case B => k_asm); (case F => k_asm); (case X => k_asm); (case T => k_asm); (case k => exact rfl); (case d => walk_at "zr"); (case u => walk_at "zu"); (case o => k_all); (case lo => assumption); (case dr => assumption); (case hm => first | assumption | decide | omega); k_whole); intro r2 t2 o2 h2 tk2 F2 N2 hd2 ra2 rb2; (try dsimp only); (try k_sweep))
  k_steps
  try dsimp only
  (rename Fr _ _ _ _ => kF); (rename News _ _ _ _ => kN)
  refine' hret _ _ _ o2 _ _ _ kF ?a ?b ?c (News.drop1 kN) hd2
  case a => rfl
  case b => rfl
  case c => exact (by intro y hy; simp only [List.mem_cons, List.not_mem_nil, or_false, not_or] at hy; simp only [hy, if_false])
set_option maxHeartbeats 8000000 in
theorem f_frames : ∀ {w : World} {mean : ExcName → Option Value} {mg mb : Str → Option Value} {dp un : Nat} {gd : Option (List Code)} {outer : List Env} {A₀ : Around} {base h₀ : Heap} {L : Addr} {m : Str → Option Value} {s : Shared} {tl : List Stmt} {Q : Flow → Shared → Prop} {E : Value → Shared → Prop} {rest : List (Addr × Obj)} {d : Addr} {od : Obj} {b : Bool}
    (B : Below A₀ base outer h₀) (F : Fr h₀ L s.heap m) (X : (heapK w.params).In h₀) (N : News h₀ L s.heap ((d, od) :: rest)) (T : Top vw (looseW vw []) mean mg mb h₀) (hdp : dp < 345) (hu : un < 345)
    (r1 : m (Str.ofString "asks") = some (.bool b)) (r2 : m (Str.ofString "draws") = some (.ref d)) (hoff : ∀ p ∈ rest, p.1 ≠ d) (hlo : (d == sysModules) = false) (hdr : IsDraws w od)
    (hret : ∀ rw tp c tc tlv k od' h' tk' m', Fr h₀ L h' m' → m' (Str.ofString "frames") = some (.ref rw) → Off [Str.ofString "frames"] m m' → News h₀ L h' ((rw, { cls := .type "list", data := .seq #[.ref tp] k }) :: (tp, { cls := .type "tuple", data := .seq (Value.str c tc :: tlv).toArray }) :: (d, od') :: rest) → IsDraws w od' → elc c = b → AllLt tp ((d, od) :: rest) → @LT.lt Nat _ tp rw → wpAny (model PySem.Challenge.rw_no0077_01.row.prog w) (ktrTop dp un gd (Str.ofString "_law_filled") (fnScope 25) L 257 (.ref 256) (cellsFrom (L + 1) (fnScope 25).names []) outer) (execs tl (envOfC (Str.ofString "_law_filled") (fnScope 25) L 257 (.ref 256))) Q E { s with heap := h', toks := tk' }),
    wpAny (model PySem.Challenge.rw_no0077_01.row.prog w) (ktrTop dp un gd (Str.ofString "_law_filled") (fnScope 25) L 257 (.ref 256) (cellsFrom (L + 1) (fnScope 25).names []) outer) (execs ((stAt (forBody (stAt (fnBody 25) 1)) 1) :: tl) (envOfC (Str.ofString "_law_filled") (fnScope 25) L 257 (.ref 256))) Q E s := by
  k_fill
  intro w mean mg mb dp un gd outer A₀ base h₀ L m s tl Q E rest d od b B F X N T hdp hu r1 r2 hoff hlo hdr hret
  walk_at "zwa"
  k_steps
  · try dsimp only
    (rename Fr _ _ _ _ => kF); (rename News _ _ _ _ => kN); (rename b = _ => hb)
    refine' hret _ _ (Str.ofString "ping") _ [] _ od _ _ _ kF rfl ?zn (News.sub kN ?zk) hdr ?ze ?zl ?zr
    case zn => exact (by intro y hy; simp only [List.mem_cons, List.not_mem_nil, or_false, not_or] at hy; simp only [hy, if_false])
    case zk => exact (by walk_at "zs")
    case ze => rw [elc_ping]; exact hb.symm
    case zl => exact ⟨by assumption, by assumption⟩
    case zr => assumption
  (show wpAny _ _ (call (Value.ref 247) [Value.ref _, Value.int _ _]) _ _ _)
  k_dflt ((refine' take_call (N := Pull.news ?P ?N) ?B ?F ?X ?T ?k ?d ?u ?o ?lo ?dr ?hm ?_; (case N => k_asm); (case P => walk_at "zp"); (case B => k_asm); (case F => k_asm); (case X => k_asm); (case T => k_asm); (case k => exact rfl); (case d => walk_at "zr"); (case u => walk_at "zu"); (case o => k_all); (case lo => assumption); (case dr => assumption); (case hm => first | assumption | decide | omega); k_whole); intro r1 t1 o1 h1 tk1 F1 N1 hd1 ra1 rb1; (try dsimp only); (try k_sweep))
  k_steps
  · try dsimp only
    (rename Fr _ _ _ _ => kF); (rename News _ _ _ _ => kN); (rename b = _ => hb)
    refine' hret _ _ (Str.ofString "padding") _ [_] _ o1 _ _ _ kF rfl ?zn (News.sub kN ?zk) hd1 ?ze ?zl ?zr
    case zn => exact (by intro y hy; simp only [List.mem_cons, List.not_mem_nil, or_false, not_or] at hy; simp only [hy, if_false])
    case zk => exact (by walk_at "zs")
    case ze => rw [elc_padding]; exact hb.symm
    case zl => exact ⟨by assumption, by assumption⟩
    case zr => assumption
  · try dsimp only
    (rename Fr _ _ _ _ => kF); (rename News _ _ _ _ => kN); (rename b = _ => hb)
    refine' hret _ _ (Str.ofString "ack") _ [_, _, _] _ o1 _ _ _ kF rfl ?zn (News.sub kN ?zk) hd1 ?ze ?zl ?zr
    case zn => exact (by intro y hy; simp only [List.mem_cons, List.not_mem_nil, or_false, not_or] at hy; simp only [hy, if_false])
    case zk => exact (by walk_at "zs")
    case ze => rw [elc_ack]; exact hb.symm
    case zl => exact ⟨by assumption, by assumption⟩
    case zr => assumption
set_option maxHeartbeats 8000000 in
theorem f_number : ∀ {w : World} {mean : ExcName → Option Value} {mg mb : Str → Option Value} {dp un : Nat} {gd : Option (List Code)} {outer : List Env} {A₀ : Around} {base h₀ : Heap} {L : Addr} {m : Str → Option Value} {s : Shared} {tl : List Stmt} {Q : Flow → Shared → Prop} {E : Value → Shared → Prop} {rest : List (Addr × Obj)} {x dx : Addr} {o oc : Obj} {nm se lel : Value} {n : Int} {tn : Tok} {cv : Option Value}
    (B : Below A₀ base outer h₀) (F : Fr h₀ L s.heap m) (X : (heapK w.params).In h₀) (N : News h₀ L s.heap ((x, instObj 229 dx) :: (dx, o) :: (L + 1, oc) :: rest)) (T : Top vw (looseW vw []) mean mg mb h₀) (hdp : dp < 345) (hu : un < 345)
    (r1 : m (Str.ofString "space") = some (.ref x)) (hs : IsSp w.params o nm (.int n tn) se lel) (hc : oc.data = .cell cv) (o1 : ∀ p ∈ rest, p.1 ≠ x) (o2 : ∀ p ∈ rest, p.1 ≠ dx) (o3 : ∀ p ∈ rest, p.1 ≠ L + 1) (n0 : @LT.lt Nat _ dx x) (n1 : @LT.lt Nat _ (L + 1) x) (n2 : @LT.lt Nat _ (L + 1) dx)
    (hret : ∀ o' oc' t t' h' tk', Fr h₀ L h' m → News h₀ L h' ((x, instObj 229 dx) :: (dx, o') :: (L + 1, oc') :: rest) → IsSp w.params o' nm (.int (n + 1) t) se lel → oc'.data = .cell (some (.int n t')) → wpAny (model PySem.Challenge.rw_no0077_01.row.prog w) (ktrTop dp un gd (Str.ofString "_law_filled") (fnScope 25) L 257 (.ref 256) (cellsFrom (L + 1) (fnScope 25).names []) outer) (execs tl (envOfC (Str.ofString "_law_filled") (fnScope 25) L 257 (.ref 256))) Q E { s with heap := h', toks := tk' }),
    wpAny (model PySem.Challenge.rw_no0077_01.row.prog w) (ktrTop dp un gd (Str.ofString "_law_filled") (fnScope 25) L 257 (.ref 256) (cellsFrom (L + 1) (fnScope 25).names []) outer) (execs ((stAt (forBody (stAt (fnBody 25) 1)) 2) :: tl) (envOfC (Str.ofString "_law_filled") (fnScope 25) L 257 (.ref 256))) Q E s := by
  k_fill
  intro w mean mg mb dp un gd outer A₀ base h₀ L m s tl Q E rest x dx o oc nm se lel n tn cv B F X N T hdp hu r1 hs hc o1 o2 o3 n0 n1 n2 hret
  walk_at "zwa"
  obtain ⟨sv, rfl⟩ := hs
  k_steps
  (show wpAny _ _ (call (Value.ref 169) _) _ _ _)
  k_dflt ((refine' take_number (N := News.pull2 ?P1 ?P2 ?N) ?B ?F ?X ?T ?k ?d ?u ?hs ?o1 ?o2 ?o3 ?_; (case N => k_asm); (case P1 => walk_at "zp"); (case P2 => walk_at "zp"); (case B => k_asm); (case F => k_asm); (case X => k_asm); (case T => k_asm); (case k => exact rfl); (case d => walk_at "zr"); (case u => walk_at "zu"); (case hs => exact SpV.is _ _ _ _ _); (case o1 => k_all); (case o2 => k_all); (case o3 => assumption); k_whole); intro o1 t1 t2 h1 tk1 F1 N1 hs1; (try dsimp only); (try k_sweep))
  k_steps
  try dsimp only
  (rename Fr _ _ _ _ => kF); (rename News _ _ _ _ => kN)
  (rename Obj.data _ = Data.cell (some _) => hc')
  exact hret _ _ _ _ _ _ kF (News.sub kN (by walk_at "zs")) hs1 hc'
set_option maxHeartbeats 8000000 in
theorem f_sent : ∀ {w : World} {mean : ExcName → Option Value} {mg mb : Str → Option Value} {dp un : Nat} {gd : Option (List Code)} {outer : List Env} {A₀ : Around} {base h₀ : Heap} {L : Addr} {m : Str → Option Value} {s : Shared} {tl : List Stmt} {Q : Flow → Shared → Prop} {E : Value → Shared → Prop} {rest : List (Addr × Obj)} {x dx se rw tp : Addr} {o oe oc : Obj} {nm nn lel now : Value} {n : Int} {tn tc : Tok} {kvs : List (Int × Value)} {c : Str} {tlv : List Value} {k : Nat}
    (B : Below A₀ base outer h₀) (F : Fr h₀ L s.heap m) (X : (heapK w.params).In h₀) (N : News h₀ L s.heap ((x, instObj 229 dx) :: (dx, o) :: (se, oe) :: (rw, { cls := .type "list", data := .seq #[.ref tp] k }) :: (tp, { cls := .type "tuple", data := .seq (Value.str c tc :: tlv).toArray }) :: (L + 1, oc) :: rest)) (T : Top vw (looseW vw []) mean mg mb h₀) (hdp : dp < 345) (hu : un < 345)
    (r1 : m (Str.ofString "space") = some (.ref x)) (r2 : m (Str.ofString "time") = some (now)) (r3 : m (Str.ofString "frames") = some (.ref rw)) (hc : oc.data = .cell (some (.int n tn))) (hs : IsSp w.params o nm nn (.ref se) lel) (he : oe.IsDictOf (Iz w) kvs) (hlo : (se == sysModules) = false) (hle : kvs.length ≤ 100) (o1 : ∀ p ∈ rest, p.1 ≠ x) (o2 : ∀ p ∈ rest, p.1 ≠ dx) (o3 : ∀ p ∈ rest, p.1 ≠ se) (o4 : ∀ p ∈ rest, p.1 ≠ rw) (o5 : ∀ p ∈ rest, p.1 ≠ tp) (l1 : @LT.lt Nat _ dx x) (l2 : @LT.lt Nat _ x se) (l3 : @LT.lt Nat _ se tp) (l4 : @LT.lt Nat _ tp rw) (n1 : @LT.lt Nat _ (L + 1) x) (n2 : @LT.lt Nat _ (L + 1) dx) (n3 : @LT.lt Nat _ (L + 1) se) (n4 : @LT.lt Nat _ (L + 1) tp) (n5 : @LT.lt Nat _ (L + 1) rw)
    (hret : ∀ pk pd op o' oe' h' tk', Fr h₀ L h' m → News h₀ L h' ((pk, instObj 109 pd) :: (pd, op) :: (x, instObj 229 dx) :: (dx, o') :: (se, oe') :: (L + 1, oc) :: rest) → IsPk w.params op (elc c) (flc c) → IsSp w.params o' nm nn (.ref se) (if elc c then now else lel) → oe'.IsDictOf (Iz w) (stored kvs n (.ref pk)) → @LT.lt Nat _ rw pd → @LT.lt Nat _ pd pk → AllLt pd rest → wpAny (model PySem.Challenge.rw_no0077_01.row.prog w) (ktrTop dp un gd (Str.ofString "_law_filled") (fnScope 25) L 257 (.ref 256) (cellsFrom (L + 1) (fnScope 25).names []) outer) (execs tl (envOfC (Str.ofString "_law_filled") (fnScope 25) L 257 (.ref 256))) Q E { s with heap := h', toks := tk' }),
    wpAny (model PySem.Challenge.rw_no0077_01.row.prog w) (ktrTop dp un gd (Str.ofString "_law_filled") (fnScope 25) L 257 (.ref 256) (cellsFrom (L + 1) (fnScope 25).names []) outer) (execs ((stAt (forBody (stAt (fnBody 25) 1)) 3) :: tl) (envOfC (Str.ofString "_law_filled") (fnScope 25) L 257 (.ref 256))) Q E s := by
  k_fill
  intro w mean mg mb dp un gd outer A₀ base h₀ L m s tl Q E rest x dx se rw tp o oe oc nm nn lel now n tn tc kvs c tlv k B F X N T hdp hu r1 r2 r3 hc hs he hlo hle o1 o2 o3 o4 o5 l1 l2 l3 l4 n1 n2 n3 n4 n5 hret
  walk_at "zwe"
  obtain ⟨sv, rfl⟩ := hs
  k_steps
  (show wpAny _ _ (call (Value.ref 176) _) _ _ _)
  k_dflt ((refine' on_sent (N := News.pull5 ?P1 ?P2 ?P3 ?P4 ?P5 ?N) ?B ?F ?X ?T ?k ?d ?u ?hs ?he ?lo ?hle ?o1 ?o2 ?o3 ?o4 ?o5 ?l1 ?l2 ?l3 ?l4 ?_; (case N => k_asm); (case P1 => walk_at "zp"); (case P2 => walk_at "zp"); (case hs => exact SpV.is _ _ _ _ _); (case P3 => walk_at "zp"); (case P4 => walk_at "zp"); (case P5 => walk_at "zp"); (case B => k_asm); (case F => k_asm); (case X => k_asm); (case T => k_asm); (case k => exact rfl); (case d => walk_at "zr"); (case u => walk_at "zu"); (case he => assumption); (case lo => assumption); (case hle => assumption); (case o1 => k_all); (case o2 => k_all); (case o3 => k_all); (case o4 => k_all); (case o5 => k_all); (case l1 => assumption); (case l2 => assumption); (case l3 => assumption); (case l4 => assumption); k_whole); intro pk pd op o1 oe1 h1 tk1 F1 N1 hp1 hs1 he1 b1 b2 a1; (try dsimp only); (try k_sweep))
  k_steps
  try dsimp only
  (rename Fr _ _ _ _ => kF); (rename News _ _ _ _ => kN)
  (simp only [AllLt] at a1); walk_at "zc"
  exact hret _ _ _ _ _ _ _ kF (News.sub kN (by walk_at "zs")) hp1 hs1 he1 b1 b2 (by assumption)
set_option maxHeartbeats 8000000 in
theorem f_append : ∀ {w : World} {mean : ExcName → Option Value} {mg mb : Str → Option Value} {dp un : Nat} {gd : Option (List Code)} {outer : List Env} {A₀ : Around} {base h₀ : Heap} {L : Addr} {m : Str → Option Value} {s : Shared} {tl : List Stmt} {Q : Flow → Shared → Prop} {E : Value → Shared → Prop} {rest : List (Addr × Obj)} {rws : Addr} {oc : Obj} {n tv : Int} {tn tt : Tok} {b : Bool} {rows : Array Value} {k : Nat}
    (B : Below A₀ base outer h₀) (F : Fr h₀ L s.heap m) (X : (heapK w.params).In h₀) (N : News h₀ L s.heap ((rws, listOf rows k) :: (L + 1, oc) :: rest)) (T : Top vw (looseW vw []) mean mg mb h₀) (hdp : dp < 345) (hu : un < 345)
    (r1 : m (Str.ofString "rows") = some (.ref rws)) (r2 : m (Str.ofString "time") = some (.int tv tt)) (r3 : m (Str.ofString "asks") = some (.bool b)) (hc : oc.data = .cell (some (.int n tn))) (hrl : rows.size ≤ 100) (o1 : ∀ p ∈ rest, p.1 ≠ rws) (n1 : @LT.lt Nat _ (L + 1) rws)
    (hret : ∀ row k1 k2 h' tk', Fr h₀ L h' m → News h₀ L h' ((row, listOf #[.int n tn, .int tv tt, .bool b] k1) :: (rws, listOf (rows.push (.ref row)) k2) :: (L + 1, oc) :: rest) → AllLt row ((rws, listOf rows k) :: (L + 1, oc) :: rest) → wpAny (model PySem.Challenge.rw_no0077_01.row.prog w) (ktrTop dp un gd (Str.ofString "_law_filled") (fnScope 25) L 257 (.ref 256) (cellsFrom (L + 1) (fnScope 25).names []) outer) (execs tl (envOfC (Str.ofString "_law_filled") (fnScope 25) L 257 (.ref 256))) Q E { s with heap := h', toks := tk' }),
    wpAny (model PySem.Challenge.rw_no0077_01.row.prog w) (ktrTop dp un gd (Str.ofString "_law_filled") (fnScope 25) L 257 (.ref 256) (cellsFrom (L + 1) (fnScope 25).names []) outer) (execs ((stAt (forBody (stAt (fnBody 25) 1)) 4) :: tl) (envOfC (Str.ofString "_law_filled") (fnScope 25) L 257 (.ref 256))) Q E s := by
  k_fill
  intro w mean mg mb dp un gd outer A₀ base h₀ L m s tl Q E rest rws oc n tv tn tt b rows k B F X N T hdp hu r1 r2 r3 hc hrl o1 n1 hret
  walk_at "zwe"
  k_steps
  try dsimp only
  (rename Fr _ _ _ _ => kF); (rename News _ _ _ _ => kN)
  exact hret _ _ _ _ _ kF (News.sub kN (by walk_at "zs")) ⟨by assumption, by assumption, by assumption⟩
set_option maxHeartbeats 8000000 in
theorem f_last : ∀ {w : World} {mean : ExcName → Option Value} {mg mb : Str → Option Value} {dp un : Nat} {gd : Option (List Code)} {outer : List Env} {A₀ : Around} {base h₀ : Heap} {L : Addr} {m : Str → Option Value} {s : Shared} {tl : List Stmt} {Q : Flow → Shared → Prop} {E : Value → Shared → Prop} {rest : List (Addr × Obj)} {tv : Int} {tt : Tok} {b : Bool} {lv : Value}
    (B : Below A₀ base outer h₀) (F : Fr h₀ L s.heap m) (X : (heapK w.params).In h₀) (N : News h₀ L s.heap (rest)) (T : Top vw (looseW vw []) mean mg mb h₀) (hdp : dp < 345) (hu : un < 345)
    (r1 : m (Str.ofString "last") = some (lv)) (r2 : m (Str.ofString "time") = some (.int tv tt)) (r3 : m (Str.ofString "asks") = some (.bool b))
    (hret : ∀ h' tk' m', Fr h₀ L h' m' → m' (Str.ofString "last") = some (if b then .int tv tt else lv) → Off [Str.ofString "last"] m m' → News h₀ L h' rest → wpAny (model PySem.Challenge.rw_no0077_01.row.prog w) (ktrTop dp un gd (Str.ofString "_law_filled") (fnScope 25) L 257 (.ref 256) (cellsFrom (L + 1) (fnScope 25).names []) outer) (execs tl (envOfC (Str.ofString "_law_filled") (fnScope 25) L 257 (.ref 256))) Q E { s with heap := h', toks := tk' }),
    wpAny (model PySem.Challenge.rw_no0077_01.row.prog w) (ktrTop dp un gd (Str.ofString "_law_filled") (fnScope 25) L 257 (.ref 256) (cellsFrom (L + 1) (fnScope 25).names []) outer) (execs ((stAt (forBody (stAt (fnBody 25) 1)) 5) :: tl) (envOfC (Str.ofString "_law_filled") (fnScope 25) L 257 (.ref 256))) Q E s := by
  k_fill
  intro w mean mg mb dp un gd outer A₀ base h₀ L m s tl Q E rest tv tt b lv B F X N T hdp hu r1 r2 r3 hret
  walk_at "zwa"
  k_steps
  all_goals (try dsimp only)
  · (rename Fr _ _ _ _ => kF); (rename News _ _ _ _ => kN); (rename b = _ => hb)
    refine' hret _ _ _ kF ?za ?zn kN
    case zn => exact (by intro y hy; simp only [List.mem_cons, List.not_mem_nil, or_false, not_or] at hy; simp only [hy, if_false])
    case za => rw [hb]; rfl
  · (rename Fr _ _ _ _ => kF); (rename News _ _ _ _ => kN); (rename b = _ => hb)
    refine' hret _ _ _ kF ?za ?zn kN
    case zn => exact (by intro y hy; simp only [List.mem_cons, List.not_mem_nil, or_false, not_or] at hy; simp only [hy, if_false])
    case za => rw [hb]; rfl
end
theorem News.pull6 {h₀ h : Heap} {L : Addr} {a1 a2 a3 a4 a5 a6 : Addr × Obj} {l l1 l2 l3 l4 l5 r : List (Addr × Obj)} (q1 : Pull a1 l l1) (q2 : Pull a2 l1 l2) (q3 : Pull a3 l2 l3) (q4 : Pull a4 l3 l4) (q5 : Pull a5 l4 l5) (q6 : Pull a6 l5 r) (N : News h₀ L h l) :
    News h₀ L h (a1 :: a2 :: a3 :: a4 :: a5 :: a6 :: r) := by
  intro p hp
  refine News.pull5 q1 q2 q3 q4 q5 N p ?_
  simp only [List.mem_cons] at hp ⊢
  rw [← q6.mem p]
  simp only [List.mem_cons]
  exact hp
theorem body25 : forBody (stAt (fnBody 25) 1) = [stAt (forBody (stAt (fnBody 25) 1)) 0, stAt (forBody (stAt (fnBody 25) 1)) 1, stAt (forBody (stAt (fnBody 25) 1)) 2, stAt (forBody (stAt (fnBody 25) 1)) 3, stAt (forBody (stAt (fnBody 25) 1)) 4, stAt (forBody (stAt (fnBody 25) 1)) 5] := by kernel_rfl
theorem same_if {c : Bool} {a b : Value} {n : Int} {t : Tok} (h : Same a b) : Same (if c then .int n t else a) (if c then .int n t else b) := by
  cases c
  · exact h
  · exact .inr ⟨_, _, _, rfl, rfl⟩
section
set_option maxHeartbeats 8000000 in
theorem f_turn1 {w : World} {mean : ExcName → Option Value} {mg mb : Str → Option Value} {dp un : Nat} {gd : Option (List Code)} {outer : List Env} {A₀ : Around} {base h₀ : Heap} {L : Addr} {m : Str → Option Value} {s : Shared} {Q : Flow → Shared → Prop}
    {d x dx se rws : Addr} {rest nx : List (Addr × Obj)} {nm : Str} {tn tn' : Tok} {most : Int} {tm : Tok} {i : Nat} {I : Addr} {oI : Obj} {t : Tok} {px : Pos}
    (B : Below A₀ base outer h₀) (F : Fr h₀ L s.heap m) (X : (heapK w.params).In h₀) (N : News h₀ L s.heap ((I, oI) :: nx)) (T : Top vw (looseW vw []) mean mg mb h₀) (hdp : dp < 345) (hu : un < 345)
    (hlo : (d == sysModules) = false) (hlo2 : (se == sysModules) = false) (hi : (i : Int) < 4) (hne : ∀ p ∈ nx, p.1 ≠ I) (hJ : J1 w d x dx se rws (L + 1) rest nm tn tn' most tm i m nx) :
    wpAny (model PySem.Challenge.rw_no0077_01.row.prog w) (ktrTop dp un gd (Str.ofString "_law_filled") (fnScope 25) L 257 (.ref 256) (cellsFrom (L + 1) (fnScope 25).names []) outer) (assign (.Name (Str.ofString "turn") px) (envOfC (Str.ofString "_law_filled") (fnScope 25) L 257 (.ref 256)) (.int (i : Int) t)) (fun _ s₂ => wpAny (model PySem.Challenge.rw_no0077_01.row.prog w) (ktrTop dp un gd (Str.ofString "_law_filled") (fnScope 25) L 257 (.ref 256) (cellsFrom (L + 1) (fnScope 25).names []) outer) (execs (forBody (stAt (fnBody 25) 1)) (envOfC (Str.ofString "_law_filled") (fnScope 25) L 257 (.ref 256)) ) (RgPost h₀ L (J1 w d x dx se rws (L + 1) rest nm tn tn' most tm (i + 1)) I oI s Q) NoE s₂) NoE s := by
  k_fill
  rw [body25]
  obtain ⟨last, tv, od, o, oe, oc, rows, k, bag, lel, nt, kvs, els, H, hr⟩ := hJ
  obtain ⟨rfl, dr, hs, he, same, ⟨tv, tt, rfl⟩, tie, keys, len, ⟨cv, hc⟩, grow, o1, o2, o3, o4, o5, o6, ord⟩ := H
  have ord' := ord
  obtain ⟨_, _, _, _, _, _, _, _, _, _, _, _, _, _, _⟩ := ord'
  obtain ⟨r1, r2, r3, r4, r5, r6, r7⟩ := hr
  have hle : kvs.length ≤ 100 := by rw [tie.len.1]; omega
  have hrl : rows.toArray.size ≤ 100 := by rw [List.size_toArray, tie.len.2]; omega
  simp only [List.forall_mem_cons] at hne
  walk_at "zc"
  walk1
  walk1
  (rename Fr _ _ _ _ => F1); (rename News _ _ _ _ => N1)
  have off0 : Off [Str.ofString "turn"] m (fun y => if y = Str.ofString "turn" then some (Value.int (i : Int) t) else m y) := (by intro y hy; simp only [List.mem_cons, List.not_mem_nil, or_false, not_or] at hy; simp only [hy, if_false])
  replace r1 := off0.get r1
  replace r4 := off0.get r4
  replace r2 := off0.get r2
  replace r3 := off0.get r3
  replace r5 := off0.get r5
  replace r6 := off0.get r6
  replace r7 := off0.get r7
  refine' f_time  B ?F1 X (Pull.news ?P1_1 ?N1) T hdp hu ?z0_1 ?z1_1 ?z2_1 ?z3_1 ?z4_1 ?hr1
  case F1 => with_reducible assumption
  case z0_1 => exact r7
  case z1_1 => exact r1
  case N1 => with_reducible assumption
  case P1_1 => walk_at "zp"
  case z2_1 => k_all
  case z3_1 => exact hlo
  case z4_1 => exact dr
  intro tv1 tt1 b1 od1 h1 tk1 m1 F2 rt ra off1 N2 dr1
  try dsimp only
  replace r1 := off1.get r1
  replace r2 := off1.get r2
  replace r3 := off1.get r3
  replace r4 := off1.get r4
  replace r5 := off1.get r5
  replace r6 := off1.get r6
  refine' f_frames  B ?F2 X (Pull.news ?P1_2 ?N2) T hdp hu ?z0_2 ?z1_2 ?z2_2 ?z3_2 ?z4_2 ?hr2
  case F2 => with_reducible assumption
  case z0_2 => exact ra
  case z1_2 => exact r1
  case N2 => with_reducible assumption
  case P1_2 => walk_at "zp"
  case z2_2 => k_all
  case z3_2 => exact hlo
  case z4_2 => exact dr1
  intro rw tp c tc tlv k9 od2 h2 tk2 m2 F3 rf off2 N3 dr2 hel hA hB
  try dsimp only
  replace r1 := off2.get r1
  replace r2 := off2.get r2
  replace r3 := off2.get r3
  replace r4 := off2.get r4
  replace r5 := off2.get r5
  replace r6 := off2.get r6
  replace rt := off2.get rt
  replace ra := off2.get ra
  have hB : @LT.lt Nat _ tp rw := hB
  have hC := AllLt.up hA hB
  simp only [AllLt] at hA hC
  walk_at "zc"
  refine' f_number  B ?F3 X (News.pull3 ?P1_3 ?P2_3 ?P3_3 ?N3) T hdp hu ?z0_3 ?z1_3 ?z2_3 ?z3_3 ?z4_3 ?z5_3 ?z6_3 ?z7_3 ?z8_3 ?hr3
  case F3 => with_reducible assumption
  case z0_3 => exact r4
  case N3 => with_reducible assumption
  case P1_3 => walk_at "zp"
  case z1_3 => exact hs
  case P2_3 => walk_at "zp"
  case P3_3 => walk_at "zp"
  case z2_3 => exact hc
  case z3_3 => k_all
  case z4_3 => k_all
  case z5_3 => k_all
  case z6_3 => assumption
  case z7_3 => assumption
  case z8_3 => assumption
  intro o3 oc3 t3 t4 h3 tk3 F4 N4 hs3 hc3
  try dsimp only
  refine' f_sent  B ?F4 X (News.pull6 ?P1_4 ?P2_4 ?P3_4 ?P4_4 ?P5_4 ?P6_4 ?N4) T hdp hu ?z0_4 ?z1_4 ?z2_4 ?z3_4 ?z4_4 ?z5_4 ?z6_4 ?z7_4 ?z8_4 ?z9_4 ?z10_4 ?z11_4 ?z12_4 ?z13_4 ?z14_4 ?z15_4 ?z16_4 ?z17_4 ?z18_4 ?z19_4 ?z20_4 ?z21_4 ?hr4
  case F4 => with_reducible assumption
  case z0_4 => exact r4
  case z1_4 => exact rt
  case z2_4 => exact rf
  case N4 => with_reducible assumption
  case P1_4 => walk_at "zp"
  case z4_4 => exact hs3
  case P2_4 => walk_at "zp"
  case P3_4 => walk_at "zp"
  case P4_4 => walk_at "zp"
  case P5_4 => walk_at "zp"
  case z3_4 => exact hc3
  case P6_4 => walk_at "zp"
  case z5_4 => exact he
  case z6_4 => exact hlo2
  case z7_4 => exact hle
  case z8_4 => k_all
  case z9_4 => k_all
  case z10_4 => k_all
  case z11_4 => k_all
  case z12_4 => k_all
  case z13_4 => assumption
  case z14_4 => assumption
  case z15_4 => assumption
  case z16_4 => assumption
  case z17_4 => assumption
  case z18_4 => assumption
  case z19_4 => assumption
  case z20_4 => assumption
  case z21_4 => assumption
  intro pk pd op o5 oe5 h5 tk5 F5 N5 hp5 hs5 he5 b5 b6 a5
  try dsimp only
  have b5 : @LT.lt Nat _ rw pd := b5
  have b6 : @LT.lt Nat _ pd pk := b6
  have w1 : @LT.lt Nat _ rws pd := Nat.lt_trans (by assumption) (Nat.lt_trans hB b5)
  have w2 : @LT.lt Nat _ I pd := Nat.lt_trans (by assumption) (Nat.lt_trans hB b5)
  have w3 : @LT.lt Nat _ rws pk := Nat.lt_trans w1 b6
  refine' f_append  B ?F5 X (News.pull2 ?P1_5 ?P2_5 ?N5) T hdp hu ?z0_5 ?z1_5 ?z2_5 ?z3_5 ?z4_5 ?z5_5 ?z6_5 ?hr5
  case F5 => with_reducible assumption
  case z0_5 => exact r5
  case z1_5 => exact rt
  case z2_5 => exact ra
  case z3_5 => exact hc3
  case N5 => with_reducible assumption
  case P1_5 => walk_at "zp"
  case P2_5 => walk_at "zp"
  case z4_5 => exact hrl
  case z5_5 => k_all
  case z6_5 => assumption
  intro row k1 k2 h6 tk6 F6 N6 aR
  try dsimp only
  refine' f_last  B ?F6 X ?N6 T hdp hu ?z0_6 ?z1_6 ?z2_6 ?hr6
  case F6 => with_reducible assumption
  case z0_6 => exact r6
  case z1_6 => exact rt
  case z2_6 => exact ra
  case N6 => with_reducible assumption
  intro h7 tk7 m7 F7 rl off7 N7
  try dsimp only
  replace r1 := off7.get r1
  replace r2 := off7.get r2
  replace r3 := off7.get r3
  replace r4 := off7.get r4
  replace r5 := off7.get r5
  replace rt := off7.get rt
  simp only [AllLt] at aR
  walk_at "zc"
  refine wpAny_execs_nil ?_
  subst hel
  exact fl_end1 F7 N7 ⟨r1, r2, r3, r4, r5, rl, rt⟩ tie (by k_mem) (by k_mem) (by k_mem) (by k_mem) (by k_mem) (by k_mem) dr2 hs5 (by k_mem) he5 (by k_mem) (by k_mem) (by k_mem) (by intro p hp; repeat (first | exact hp | apply List.Mem.tail)) hp5 rfl (same_if same) keys len ⟨_, hc3⟩ grow o1 o2 (by assumption) o4 (by assumption) o6 (by assumption) ord (by assumption) (by assumption) (by assumption) (by assumption) (by assumption) (by assumption) w1 w2 (by assumption) b6 (by assumption)
end
noncomputable def ifTest (s : Stmt) : Expr := match s with
  | .If e _ _ _ => e
  | _ => .Constant .none 0 q0
noncomputable def ifBody (s : Stmt) : List Stmt := match s with
  | .If _ b _ _ => b
  | _ => []
theorem bne_dec (a b : Int) : (a != b) = decide (a ≠ b) := by by_cases h : a = b <;> simp [h]
/-- between the turns of _law_filled's second loop -/
structure FlI2 (w : World) (d x dx se c rws : Addr) (rest : List (Addr × Obj)) (nm : Value) (i : Int) (nx : List (Addr × Obj)) (last : Value) (od o oe oc : Obj) (rows : List Value) (k : Nat) (bag : List (Addr × Obj)) (lel : Value) (nt : Tok) (kvs : List (Int × Value)) (els : List (Int × Bool)) : Prop where
  nx : nx = (d, od) :: (x, instObj 229 dx) :: (dx, o) :: (se, oe) :: (rws, listOf rows.toArray k) :: (c, oc) :: bag
  dr : IsDraws w od
  sp : IsSp w.params o nm (.int i nt) (.ref se) lel
  di : oe.IsDictOf (Iz w) kvs
  same : Same lel last
  tie : Tie w.params bag kvs rows els
  len : (els.length : Int) ≤ i
  cell : ∃ v, oc.data = .cell v
  grow : Grow (d :: rest.map (·.1)) rest bag
  o1 : ∀ p ∈ bag, p.1 ≠ d
  o2 : ∀ p ∈ bag, p.1 ≠ x
  o3 : ∀ p ∈ bag, p.1 ≠ dx
  o4 : ∀ p ∈ bag, p.1 ≠ se
  o5 : ∀ p ∈ bag, p.1 ≠ rws
  o6 : ∀ p ∈ bag, p.1 ≠ c
  ord : @LT.lt Nat _ d c ∧ @LT.lt Nat _ c dx ∧ @LT.lt Nat _ dx x ∧ @LT.lt Nat _ x se
  ne : d ≠ rws ∧ x ≠ rws ∧ dx ≠ rws ∧ se ≠ rws ∧ c ≠ rws
def Rd (m : Str → Option Value) (d x rws : Addr) (nm : Str) (tn : Tok) (last : Value) : Prop :=
  m (Str.ofString "draws") = some (.ref d) ∧ m (Str.ofString "name") = some (.str nm tn) ∧ m (Str.ofString "space") = some (.ref x) ∧ m (Str.ofString "rows") = some (.ref rws) ∧ m (Str.ofString "last") = some last
def JJ2 (w : World) (d x dx se c : Addr) (rest : List (Addr × Obj)) (nm : Str) (tn tn' : Tok) (n0 : Int) (_i : Nat) (m : Str → Option Value) (nx : List (Addr × Obj)) : Prop :=
  ∃ rws last od o oe oc rows k bag lel nt kvs els, FlI2 w d x dx se c rws rest (.str nm tn') n0 nx last od o oe oc rows k bag lel nt kvs els ∧ Rd m d x rws nm tn last
theorem j2_end {w : World} {g' h' : Heap} {L' d x dx se rws c I : Addr} {m' : Str → Option Value} {rest led bag : List (Addr × Obj)} {nm : Str} {tn tn' nt : Tok} {n0 : Int} {i : Nat} {od o oe oc oI : Obj} {rows : List Value} {k : Nat} {lel last : Value} {kvs : List (Int × Value)} {els : List (Int × Bool)} {s₁ : Shared} {tk : Nat}
    (F : Fr g' L' h' m') (N : News g' L' h' led) (hr : Rd m' d x rws nm tn last)
    (mI : (I, oI) ∈ led) (md : (d, od) ∈ led) (mx : (x, instObj 229 dx) ∈ led) (mdx : (dx, o) ∈ led) (mrws : (rws, listOf rows.toArray k) ∈ led) (mc : (c, oc) ∈ led) (mse : (se, oe) ∈ led) (mb : ∀ p ∈ bag, p ∈ led)
    (H : FlI2 w d x dx se c rws rest (.str nm tn') n0 ((d, od) :: (x, instObj 229 dx) :: (dx, o) :: (se, oe) :: (rws, listOf rows.toArray k) :: (c, oc) :: bag) last od o oe oc rows k bag lel nt kvs els)
    (oI' : ∀ p ∈ bag, p.1 ≠ I) (n1 : d ≠ I) (n2 : x ≠ I) (n3 : dx ≠ I) (n4 : se ≠ I) (n5 : rws ≠ I) (n6 : c ≠ I) :
    RgEnd g' L' (JJ2 w d x dx se c rest nm tn tn' n0 (i + 1)) I oI s₁ { s₁ with heap := h', toks := tk } := by
  refine ⟨h', tk, m', _, rfl, F, News.sub N ?_, ?_, rws, last, od, o, oe, oc, rows, k, bag, lel, nt, kvs, els, H, hr⟩
  · intro p hp
    simp only [List.mem_cons] at hp
    rcases hp with rfl | rfl | rfl | rfl | rfl | rfl | rfl | hp
    all_goals first | assumption | exact mb _ hp
  · intro p hp
    simp only [List.mem_cons] at hp
    rcases hp with rfl | rfl | rfl | rfl | rfl | rfl | hp
    all_goals first | assumption | exact oI' _ hp
section
local macro_rules | `(tactic| walk_at "call ref") => `(tactic| (k_here; refine held ?_))
set_option maxHeartbeats 8000000 in
theorem d_take : ∀ {w : World} {mean : ExcName → Option Value} {mg mb : Str → Option Value} {dp un : Nat} {gd : Option (List Code)} {outer : List Env} {A₀ : Around} {base h₀ : Heap} {L : Addr} {m : Str → Option Value} {s : Shared} {tl : List Stmt} {Q : Flow → Shared → Prop} {E : Value → Shared → Prop} {rest : List (Addr × Obj)} {x dx se : Addr} {o oe oc : Obj} {nm nn lel : Value} {n : Int} {tn : Tok} {kvs : List (Int × Value)}
    (B : Below A₀ base outer h₀) (F : Fr h₀ L s.heap m) (X : (heapK w.params).In h₀) (N : News h₀ L s.heap ((x, instObj 229 dx) :: (dx, o) :: (se, oe) :: (L + 1, oc) :: rest)) (T : Top vw (looseW vw []) mean mg mb h₀) (hdp : dp < 345) (hu : un < 345)
    (r1 : m (Str.ofString "space") = some (.ref x)) (hc : oc.data = .cell (some (.int n tn))) (hs : IsSp w.params o nm nn (.ref se) lel) (he : oe.IsDictOf (Iz w) kvs) (hlo : (se == sysModules) = false) (hle : kvs.length ≤ 100) (o1 : ∀ p ∈ rest, p.1 ≠ x) (o2 : ∀ p ∈ rest, p.1 ≠ dx) (o3 : ∀ p ∈ rest, p.1 ≠ se) (l1 : @LT.lt Nat _ dx x) (l2 : @LT.lt Nat _ x se) (n1 : @LT.lt Nat _ (L + 1) x) (n2 : @LT.lt Nat _ (L + 1) dx) (n3 : @LT.lt Nat _ (L + 1) se)
    (hret : ∀ oe' h' tk', Fr h₀ L h' m → News h₀ L h' ((x, instObj 229 dx) :: (dx, o) :: (se, oe') :: (L + 1, oc) :: rest) → oe'.IsDictOf (Iz w) (without kvs n) → wpAny (model PySem.Challenge.rw_no0077_01.row.prog w) (ktrTop dp un gd (Str.ofString "_law_filled") (fnScope 25) L 257 (.ref 256) (cellsFrom (L + 1) (fnScope 25).names []) outer) (execs tl (envOfC (Str.ofString "_law_filled") (fnScope 25) L 257 (.ref 256))) Q E { s with heap := h', toks := tk' }),
    wpAny (model PySem.Challenge.rw_no0077_01.row.prog w) (ktrTop dp un gd (Str.ofString "_law_filled") (fnScope 25) L 257 (.ref 256) (cellsFrom (L + 1) (fnScope 25).names []) outer) (execs ((stAt (ifBody (stAt (forBody (stAt (fnBody 25) 2)) 0)) 0) :: tl) (envOfC (Str.ofString "_law_filled") (fnScope 25) L 257 (.ref 256))) Q E s := by
  k_fill
  intro w mean mg mb dp un gd outer A₀ base h₀ L m s tl Q E rest x dx se o oe oc nm nn lel n tn kvs B F X N T hdp hu r1 hc hs he hlo hle o1 o2 o3 l1 l2 n1 n2 n3 hret
  walk_at "zwe"
  obtain ⟨sv, rfl⟩ := hs
  k_steps
  (show wpAny _ _ (call (Value.ref 181) _) _ _ _)
  k_dflt ((refine' take_one (N := News.pull4 ?P1 ?P2 ?P3 ?P4 ?N) ?B ?F ?X ?T ?k ?d ?u ?hs ?he ?lo ?hle ?o1 ?o2 ?o3 ?o4 ?l1 ?l2 ?l3 ?_; (case N => k_asm); (case P1 => walk_at "zp"); (case P2 => walk_at "zp"); (case hs => exact SpV.is _ _ _ _ _); (case P3 => walk_at "zp"); (case P4 => walk_at "zp"); (case B => k_asm); (case F => k_asm); (case X => k_asm); (case T => k_asm); (case k => exact rfl); (case d => walk_at "zr"); (case u => walk_at "zu"); (case he => assumption); (case lo => assumption); (case hle => assumption); (case o1 => k_all); (case o2 => k_all); (case o3 => k_all); (case o4 => k_all); (case l1 => assumption); (case l2 => assumption); (case l3 => assumption); k_whole); intro r1 oe1 h1 tk1 F1 N1 he1; (try dsimp only); (try k_sweep))
  k_steps
  try dsimp only
  (rename Fr _ _ _ _ => kF); (rename News _ _ _ _ => kN)
  exact hret _ _ _ kF (News.sub kN (by walk_at "zs")) he1
local macro_rules | `(tactic| walk_at "eval Name") => `(tactic| walk_at "z10")
local macro_rules | `(tactic| walk_at "exec Assign cons ListComp") => `(tactic| (k_here; refine held ?_))
set_option maxHeartbeats 8000000 in
theorem d_rows : ∀ {w : World} {mean : ExcName → Option Value} {mg mb : Str → Option Value} {dp un : Nat} {gd : Option (List Code)} {outer : List Env} {A₀ : Around} {base h₀ : Heap} {L : Addr} {m : Str → Option Value} {s : Shared} {tl : List Stmt} {Q : Flow → Shared → Prop} {E : Value → Shared → Prop} {rest : List (Addr × Obj)} {rws : Addr} {oc : Obj} {n : Int} {tn : Tok} {rows : List Value} {k : Nat} {P : Params} {kvs : List (Int × Value)} {els : List (Int × Bool)}
    (B : Below A₀ base outer h₀) (F : Fr h₀ L s.heap m) (X : (heapK w.params).In h₀) (N : News h₀ L s.heap ((rws, listOf rows.toArray k) :: (L + 1, oc) :: rest)) (T : Top vw (looseW vw []) mean mg mb h₀) (hdp : dp < 345) (hu : un < 345)
    (r1 : m (Str.ofString "rows") = some (.ref rws)) (hc : oc.data = .cell (some (.int n tn))) (hrl : rows.length ≤ 100) (ht : Tie P rest kvs rows els)
    (hret : ∀ rws' k' h' tk' m', Fr h₀ L h' m' → m' (Str.ofString "rows") = some (.ref rws') → Off [Str.ofString "rows"] m m' → News h₀ L h' ((rws', listOf (rows.filter (rowP rest n)).toArray k') :: (rws, listOf rows.toArray k) :: (L + 1, oc) :: rest) → (∀ p ∈ (rws, listOf rows.toArray k) :: (L + 1, oc) :: rest, p.1 ≠ rws') → wpAny (model PySem.Challenge.rw_no0077_01.row.prog w) (ktrTop dp un gd (Str.ofString "_law_filled") (fnScope 25) L 257 (.ref 256) (cellsFrom (L + 1) (fnScope 25).names []) outer) (execs tl (envOfC (Str.ofString "_law_filled") (fnScope 25) L 257 (.ref 256))) Q E { s with heap := h', toks := tk' }),
    wpAny (model PySem.Challenge.rw_no0077_01.row.prog w) (ktrTop dp un gd (Str.ofString "_law_filled") (fnScope 25) L 257 (.ref 256) (cellsFrom (L + 1) (fnScope 25).names []) outer) (execs ((stAt (ifBody (stAt (forBody (stAt (fnBody 25) 2)) 0)) 1) :: tl) (envOfC (Str.ofString "_law_filled") (fnScope 25) L 257 (.ref 256))) Q E s := by
  k_fill
  intro w mean mg mb dp un gd outer A₀ base h₀ L m s tl Q E rest rws oc n tn rows k P kvs els B F X N T hdp hu r1 hc hrl ht hret
  walk_at "zwa"
  k_steps
  (show wpAny _ _ _ _ _ _)
  refine' comp_a (rowP rest n) (fun v y => y = v) F ?q8 ?q9 ?q1 ?q2 ?q3 ?q4 ?q5 ?q10 ?q11 ?q6 ?q7
  case q8 => with_unfolding_all rfl
  case q9 => with_unfolding_all rfl
  case q10 => with_unfolding_all rfl
  case q11 => with_unfolding_all rfl
  case q1 => with_unfolding_all rfl
  case q2 => decide
  case q3 => with_unfolding_all rfl
  case q4 => decide
  case q5 => with_unfolding_all rfl
  case q7 => intro _; with_unfolding_all rfl
  k_steps
  have F9 := F
  have N9 := N
  refine' ⟨_, m, _, Src.list (by rfl) F9 N9 (News.isList N9 (by k_mem)) ?sz, ⟨?t, ?e⟩, ?q⟩
  case sz => rw [sizeLine_eq]; omega
  case t =>
    intro C v s₂ m₂ E' hv hn hm F2 N2
    obtain ⟨n', b, hb⟩ := ht.row v hv
    rw [show rowP rest n v = decide (n' ≠ n) from rowP_eq (News.sub N2 (fun _ h => .tail _ (.tail _ h))) hb]
    obtain ⟨r, q, tn', tm', tt', rfl, h1⟩ := hb
    have N3 := News.sub N2 (l' := [(r, _), (L + 1, oc)]) (two_of (.tail _ (.tail _ h1)) (.tail _ (.head _)))
    clear N2 N9 N
    k_steps
    · exact bne_dec _ _
    · exact ⟨_, _, rfl, fun _ _ e => e⟩
  case e =>
    intro C v s₂ m₂ E' hv hp hn hm F2 N2
    clear N2 N9 N
    k_steps
    all_goals first | exact rfl | exact ⟨_, _, rfl, fun _ _ e => e⟩
  case q =>
    intro D ys k3 h3 tk3 N3 ne3 hP3 F3
    have hy := paired_eq hP3
    subst hy
    refine' hret _ _ _ _ _ F3 ?za ?zn N3 ?zo
    case za => rfl
    case zn => exact (by intro y hy; simp only [List.mem_cons, List.not_mem_nil, or_false, not_or] at hy; simp only [hy, if_false])
    case zo => exact ne3
set_option maxHeartbeats 8000000 in
theorem d_if : ∀ {w : World} {mean : ExcName → Option Value} {mg mb : Str → Option Value} {dp un : Nat} {gd : Option (List Code)} {outer : List Env} {A₀ : Around} {base h₀ : Heap} {L : Addr} {m : Str → Option Value} {s : Shared} {tl : List Stmt} {Q : Flow → Shared → Prop} {E : Value → Shared → Prop} {rest : List (Addr × Obj)} {d : Addr} {od : Obj} {body : List Stmt} {pos : Pos}
    (B : Below A₀ base outer h₀) (F : Fr h₀ L s.heap m) (X : (heapK w.params).In h₀) (N : News h₀ L s.heap ((d, od) :: rest)) (T : Top vw (looseW vw []) mean mg mb h₀) (hdp : dp < 345) (hu : un < 345)
    (r2 : m (Str.ofString "draws") = some (.ref d)) (hoff : ∀ p ∈ rest, p.1 ≠ d) (hlo : (d == sysModules) = false) (hdr : IsDraws w od) (hyes : ∀ od' h' tk', Fr h₀ L h' m → News h₀ L h' ((d, od') :: rest) → IsDraws w od' → wpAny (model PySem.Challenge.rw_no0077_01.row.prog w) (ktrTop dp un gd (Str.ofString "_law_filled") (fnScope 25) L 257 (.ref 256) (cellsFrom (L + 1) (fnScope 25).names []) outer) (execs body (envOfC (Str.ofString "_law_filled") (fnScope 25) L 257 (.ref 256))) (fun f s' => match f with | .next => wpAny (model PySem.Challenge.rw_no0077_01.row.prog w) (ktrTop dp un gd (Str.ofString "_law_filled") (fnScope 25) L 257 (.ref 256) (cellsFrom (L + 1) (fnScope 25).names []) outer) (execs tl (envOfC (Str.ofString "_law_filled") (fnScope 25) L 257 (.ref 256))) Q E s' | f => Q f s') E { s with heap := h', toks := tk' })
    (hret : ∀ od' h' tk', Fr h₀ L h' m → News h₀ L h' ((d, od') :: rest) → IsDraws w od' → wpAny (model PySem.Challenge.rw_no0077_01.row.prog w) (ktrTop dp un gd (Str.ofString "_law_filled") (fnScope 25) L 257 (.ref 256) (cellsFrom (L + 1) (fnScope 25).names []) outer) (execs tl (envOfC (Str.ofString "_law_filled") (fnScope 25) L 257 (.ref 256))) Q E { s with heap := h', toks := tk' }),
    wpAny (model PySem.Challenge.rw_no0077_01.row.prog w) (ktrTop dp un gd (Str.ofString "_law_filled") (fnScope 25) L 257 (.ref 256) (cellsFrom (L + 1) (fnScope 25).names []) outer) (execs (.If (ifTest (stAt (forBody (stAt (fnBody 25) 2)) 0)) body [] pos :: tl) (envOfC (Str.ofString "_law_filled") (fnScope 25) L 257 (.ref 256))) Q E s := by
  k_fill
  intro w mean mg mb dp un gd outer A₀ base h₀ L m s tl Q E rest d od body pos B F X N T hdp hu r2 hoff hlo hdr hyes hret
  conv in (ifTest (stAt (forBody (stAt (fnBody 25) 2)) 0)) => whnf
  k_steps
  (show wpAny _ _ (call (Value.ref 247) [Value.ref _, Value.int _ _]) _ _ _)
  k_dflt ((refine' take_call (N := Pull.news ?P ?N) ?B ?F ?X ?T ?k ?d ?u ?o ?lo ?dr ?hm ?_; (case N => k_asm); (case P => walk_at "zp"); (case B => k_asm); (case F => k_asm); (case X => k_asm); (case T => k_asm); (case k => exact rfl); (case d => walk_at "zr"); (case u => walk_at "zu"); (case o => k_all); (case lo => assumption); (case dr => assumption); (case hm => first | assumption | decide | omega); k_whole); intro r1 t1 o1 h1 tk1 F1 N1 hd1 ra1 rb1; (try dsimp only); (try k_sweep))
  k_steps
  all_goals (try dsimp only)
  · exact hyes _ _ _ F1 N1 hd1
  · exact hret _ _ _ F1 N1 hd1
end
theorem body25c : ifBody (stAt (forBody (stAt (fnBody 25) 2)) 0) = [stAt (ifBody (stAt (forBody (stAt (fnBody 25) 2)) 0)) 0, stAt (ifBody (stAt (forBody (stAt (fnBody 25) 2)) 0)) 1] := by kernel_rfl
theorem body25b : forBody (stAt (fnBody 25) 2) = [stAt (forBody (stAt (fnBody 25) 2)) 0] := by kernel_rfl
section
local macro_rules | `(tactic| walk_at "call ref") => `(tactic| (k_here; refine held ?_))
set_option maxHeartbeats 8000000 in
theorem f_turn2 {w : World} {mean : ExcName → Option Value} {mg mb : Str → Option Value} {dp un : Nat} {gd : Option (List Code)} {outer : List Env} {A₀ : Around} {base h₀ : Heap} {L : Addr} {m : Str → Option Value} {s : Shared} {Q : Flow → Shared → Prop}
    {d x dx se : Addr} {rest nx : List (Addr × Obj)} {nm : Str} {tn tn' : Tok} {n0 : Int} {i : Nat} {I : Addr} {oI : Obj} {t : Tok} {px : Pos}
    (B : Below A₀ base outer h₀) (F : Fr h₀ L s.heap m) (X : (heapK w.params).In h₀) (N : News h₀ L s.heap ((I, oI) :: nx)) (T : Top vw (looseW vw []) mean mg mb h₀) (hdp : dp < 345) (hu : un < 345)
    (hlo : (d == sysModules) = false) (hlo2 : (se == sysModules) = false) (hn0 : n0 ≤ 4) (hne : ∀ p ∈ nx, p.1 ≠ I) (hJ : JJ2 w d x dx se (L + 1) rest nm tn tn' n0 i m nx) :
    wpAny (model PySem.Challenge.rw_no0077_01.row.prog w) (ktrTop dp un gd (Str.ofString "_law_filled") (fnScope 25) L 257 (.ref 256) (cellsFrom (L + 1) (fnScope 25).names []) outer) (assign (.Name (Str.ofString "number") px) (envOfC (Str.ofString "_law_filled") (fnScope 25) L 257 (.ref 256)) (.int (i : Int) t)) (fun _ s₂ => wpAny (model PySem.Challenge.rw_no0077_01.row.prog w) (ktrTop dp un gd (Str.ofString "_law_filled") (fnScope 25) L 257 (.ref 256) (cellsFrom (L + 1) (fnScope 25).names []) outer) (execs (forBody (stAt (fnBody 25) 2)) (envOfC (Str.ofString "_law_filled") (fnScope 25) L 257 (.ref 256)) ) (RgPost h₀ L (JJ2 w d x dx se (L + 1) rest nm tn tn' n0 (i + 1)) I oI s Q) NoE s₂) NoE s := by
  k_fill
  rw [body25b]
  obtain ⟨rws, last, od, o, oe, oc, rows, k, bag, lel, nt, kvs, els, H, hr⟩ := hJ
  obtain ⟨rfl, dr, hs, he, same, tie, len, ⟨cv, hc⟩, grow, o1, o2, o3, o4, o5, o6, ord, ne⟩ := H
  have ord' := ord
  have ne' := ne
  obtain ⟨p1, p2, p3, p4⟩ := ord'
  have p5 := Nat.lt_trans p1 p2
  have p6 := Nat.lt_trans p5 p3
  have p7 := Nat.lt_trans p6 p4
  have p8 := Nat.lt_trans p2 p3
  have p9 := Nat.lt_trans p8 p4
  have pa := Nat.lt_trans p3 p4
  obtain ⟨r1, r2, r3, r4, r5⟩ := hr
  have hle : kvs.length ≤ 100 := by rw [tie.len.1]; omega
  have hrl : rows.length ≤ 100 := by rw [tie.len.2]; omega
  simp only [List.forall_mem_cons] at hne
  walk_at "zc"
  walk1
  walk1
  (rename Fr _ _ _ _ => F1); (rename News _ _ _ _ => N1)
  (rename Obj.data _ = Data.cell (some _) => hc1)
  refine' d_if (body := ifBody (stAt (forBody (stAt (fnBody 25) 2)) 0)) B ?Fa X (Pull.news ?Pa ?Na) T hdp hu r1 ?oa hlo ?dra ?yes ?no
  case Fa => with_reducible assumption
  case Na => with_reducible assumption
  case Pa => walk_at "zp"
  case oa => k_all
  case dra => exact dr
  case no =>
    intro od1 h1 tk1 F2 N2 dr1
    try dsimp only
    refine wpAny_execs_nil ?_
    exact j2_end F2 N2 ⟨r1, r2, r3, r4, r5⟩ (by k_mem) (by k_mem) (by k_mem) (by k_mem) (by k_mem) (by k_mem) (by k_mem) (by intro p hp; repeat (first | exact hp | apply List.Mem.tail))
      { nx := rfl, dr := dr1, sp := hs, di := he, same := same, tie := tie, len := len, cell := ⟨_, hc1⟩, grow := grow, o1 := o1, o2 := o2, o3 := o3, o4 := o4, o5 := o5, o6 := o6, ord := ⟨p1, p2, p3, p4⟩, ne := ⟨by assumption, by assumption, by assumption, by assumption, by assumption⟩ } (by assumption) (by assumption) (by assumption) (by assumption) (by assumption) (by assumption) (by assumption)
  intro od1 h1 tk1 F2 N2 dr1
  try dsimp only
  rw [body25c]
  refine' d_take  B ?F1 X (News.pull4 ?P1_1 ?P2_1 ?P3_1 ?P4_1 ?N1) T hdp hu ?z0_1 ?z1_1 ?z2_1 ?z3_1 ?z4_1 ?z5_1 ?z6_1 ?z7_1 ?z8_1 ?z9_1 ?z10_1 ?z11_1 ?z12_1 ?z13_1 ?hr1
  case F1 => with_reducible assumption
  case z0_1 => exact r3
  case N1 => with_reducible assumption
  case P1_1 => walk_at "zp"
  case z2_1 => exact hs
  case P2_1 => walk_at "zp"
  case P3_1 => walk_at "zp"
  case z1_1 => exact hc1
  case P4_1 => walk_at "zp"
  case z3_1 => exact he
  case z4_1 => exact hlo2
  case z5_1 => exact hle
  case z6_1 => k_all
  case z7_1 => k_all
  case z8_1 => k_all
  case z9_1 => assumption
  case z10_1 => assumption
  case z11_1 => assumption
  case z12_1 => assumption
  case z13_1 => assumption
  intro oe1 h2 tk2 F3 N3 he1
  try dsimp only
  refine' d_rows (P := w.params) B ?F2 X (News.pull2 ?P1_2 ?P2_2 ?N2) T hdp hu ?z0_2 ?z1_2 ?z2_2 ?z3_2 ?hr2
  case F2 => with_reducible assumption
  case z0_2 => exact r4
  case z1_2 => exact hc1
  case N2 => with_reducible assumption
  case P1_2 => walk_at "zp"
  case P2_2 => walk_at "zp"
  case z2_2 => exact hrl
  case z3_2 => exact tie.mono (by intro p hp; repeat (first | exact hp | apply List.Mem.tail))
  intro rws1 k1 h3 tk3 m3 F4 rr off4 N4 ne4
  try dsimp only
  replace r1 := off4.get r1
  replace r2 := off4.get r2
  replace r3 := off4.get r3
  replace r5 := off4.get r5
  refine wpAny_execs_nil ?_
  try dsimp only
  refine wpAny_execs_nil ?_
  have ne5 := ne4
  simp only [List.forall_mem_cons] at ne5
  walk_at "zc"
  exact j2_end F4 N4 ⟨r1, r2, r3, rr, r5⟩ (by k_mem) (by k_mem) (by k_mem) (by k_mem) (by k_mem) (by k_mem) (by k_mem) (by intro p hp; repeat (first | exact hp | apply List.Mem.tail))
      { nx := rfl, dr := dr1, sp := hs, di := he1, same := same, tie := tie.drop (fun r k b hb => rowP_eq (News.sub N4 (fun p hp => .tail _ (.tail _ (.tail _ hp)))) (hb.mono (by intro p hp; repeat (first | exact hp | apply List.Mem.tail)))), len := len_drop len, cell := ⟨_, hc1⟩, grow := grow, o1 := o1, o2 := o2, o3 := o3, o4 := o4, o5 := (by assumption), o6 := o6, ord := ⟨p1, p2, p3, p4⟩, ne := ⟨by assumption, by assumption, by assumption, by assumption, by assumption⟩ } (by assumption) (by assumption) (by assumption) (by assumption) (by assumption) (Ne.symm (by assumption)) (by assumption)
end
section
local macro_rules | `(tactic| walk_at "call ref") => `(tactic| (k_here; refine held ?_))
set_option maxHeartbeats 8000000 in
theorem t_if : ∀ {w : World} {mean : ExcName → Option Value} {mg mb : Str → Option Value} {dp un : Nat} {gd : Option (List Code)} {outer : List Env} {A₀ : Around} {base h₀ : Heap} {L : Addr} {m : Str → Option Value} {s : Shared} {tl : List Stmt} {Q : Flow → Shared → Prop} {E : Value → Shared → Prop} {rest : List (Addr × Obj)} {d : Addr} {od : Obj} {nm : Str} {tn : Tok} {body : List Stmt} {pos : Pos}
    (B : Below A₀ base outer h₀) (F : Fr h₀ L s.heap m) (X : (heapK w.params).In h₀) (N : News h₀ L s.heap ((d, od) :: rest)) (T : Top vw (looseW vw []) mean mg mb h₀) (hdp : dp < 345) (hu : un < 345)
    (r2 : m (Str.ofString "draws") = some (.ref d)) (hoff : ∀ p ∈ rest, p.1 ≠ d) (hlo : (d == sysModules) = false) (hdr : IsDraws w od) (r1 : m (Str.ofString "name") = some (.str nm tn)) (hyes : ∀ od' h' tk', Fr h₀ L h' m → News h₀ L h' ((d, od') :: rest) → IsDraws w od' → wpAny (model PySem.Challenge.rw_no0077_01.row.prog w) (ktrTop dp un gd (Str.ofString "_law_filled") (fnScope 25) L 257 (.ref 256) (cellsFrom (L + 1) (fnScope 25).names []) outer) (execs body (envOfC (Str.ofString "_law_filled") (fnScope 25) L 257 (.ref 256))) (fun f s' => match f with | .next => wpAny (model PySem.Challenge.rw_no0077_01.row.prog w) (ktrTop dp un gd (Str.ofString "_law_filled") (fnScope 25) L 257 (.ref 256) (cellsFrom (L + 1) (fnScope 25).names []) outer) (execs tl (envOfC (Str.ofString "_law_filled") (fnScope 25) L 257 (.ref 256))) Q E s' | f => Q f s') E { s with heap := h', toks := tk' })
    (hret : ∀ od' h' tk', Fr h₀ L h' m → News h₀ L h' ((d, od') :: rest) → IsDraws w od' → wpAny (model PySem.Challenge.rw_no0077_01.row.prog w) (ktrTop dp un gd (Str.ofString "_law_filled") (fnScope 25) L 257 (.ref 256) (cellsFrom (L + 1) (fnScope 25).names []) outer) (execs tl (envOfC (Str.ofString "_law_filled") (fnScope 25) L 257 (.ref 256))) Q E { s with heap := h', toks := tk' }),
    wpAny (model PySem.Challenge.rw_no0077_01.row.prog w) (ktrTop dp un gd (Str.ofString "_law_filled") (fnScope 25) L 257 (.ref 256) (cellsFrom (L + 1) (fnScope 25).names []) outer) (execs (.If (ifTest (stAt (fnBody 25) 3)) body [] pos :: tl) (envOfC (Str.ofString "_law_filled") (fnScope 25) L 257 (.ref 256))) Q E s := by
  k_fill
  intro w mean mg mb dp un gd outer A₀ base h₀ L m s tl Q E rest d od nm tn body pos B F X N T hdp hu r2 hoff hlo hdr r1 hyes hret
  conv in (ifTest (stAt (fnBody 25) 3)) => whnf
  k_steps
  (show wpAny _ _ (call (Value.ref 247) [Value.ref _, Value.int _ _]) _ _ _)
  k_dflt ((refine' take_call (N := Pull.news ?P ?N) ?B ?F ?X ?T ?k ?d ?u ?o ?lo ?dr ?hm ?_; (case N => k_asm); (case P => walk_at "zp"); (case B => k_asm); (case F => k_asm); (case X => k_asm); (case T => k_asm); (case k => exact rfl); (case d => walk_at "zr"); (case u => walk_at "zu"); (case o => k_all); (case lo => assumption); (case dr => assumption); (case hm => first | assumption | decide | omega); k_whole); intro r1 t1 o1 h1 tk1 F1 N1 hd1 ra1 rb1; (try dsimp only); (try k_sweep))
  k_steps
  all_goals (try dsimp only)
  all_goals first | exact hyes _ _ _ F1 N1 hd1 | exact hret _ _ _ F1 N1 hd1 | exact hret _ _ _ F N hdr
set_option maxHeartbeats 8000000 in
theorem t_forget : ∀ {w : World} {mean : ExcName → Option Value} {mg mb : Str → Option Value} {dp un : Nat} {gd : Option (List Code)} {outer : List Env} {A₀ : Around} {base h₀ : Heap} {L : Addr} {m : Str → Option Value} {s : Shared} {tl : List Stmt} {Q : Flow → Shared → Prop} {E : Value → Shared → Prop} {rest : List (Addr × Obj)} {x dx se : Addr} {o oe : Obj} {nm nn lel : Value} {kvs : List (Int × Value)} {rows : List Value} {els : List (Int × Bool)}
    (B : Below A₀ base outer h₀) (F : Fr h₀ L s.heap m) (X : (heapK w.params).In h₀) (N : News h₀ L s.heap ((x, instObj 229 dx) :: (dx, o) :: (se, oe) :: rest)) (T : Top vw (looseW vw []) mean mg mb h₀) (hdp : dp < 345) (hu : un < 345)
    (r1 : m (Str.ofString "space") = some (.ref x)) (hs : IsSp w.params o nm nn (.ref se) lel) (he : oe.IsDictOf (Iz w) kvs) (hlo : (se == sysModules) = false) (hle : kvs.length ≤ 100) (ht : Tie w.params rest kvs rows els) (o1 : ∀ p ∈ rest, p.1 ≠ dx) (o2 : ∀ p ∈ rest, p.1 ≠ x) (l1 : @LT.lt Nat _ dx x) (l2 : @LT.lt Nat _ x se)
    (hret : ∀ se' oe' o' h' tk', Fr h₀ L h' m → News h₀ L h' ((x, instObj 229 dx) :: (dx, o') :: (se', oe') :: rest) → IsSp w.params o' nm nn (.ref se') .none → oe'.IsDictOf (Iz w) [] → (se' == sysModules) = false → @LT.lt Nat _ x se' → wpAny (model PySem.Challenge.rw_no0077_01.row.prog w) (ktrTop dp un gd (Str.ofString "_law_filled") (fnScope 25) L 257 (.ref 256) (cellsFrom (L + 1) (fnScope 25).names []) outer) (execs tl (envOfC (Str.ofString "_law_filled") (fnScope 25) L 257 (.ref 256))) Q E { s with heap := h', toks := tk' }),
    wpAny (model PySem.Challenge.rw_no0077_01.row.prog w) (ktrTop dp un gd (Str.ofString "_law_filled") (fnScope 25) L 257 (.ref 256) (cellsFrom (L + 1) (fnScope 25).names []) outer) (execs ((stAt (ifBody (stAt (fnBody 25) 3)) 0) :: tl) (envOfC (Str.ofString "_law_filled") (fnScope 25) L 257 (.ref 256))) Q E s := by
  k_fill
  intro w mean mg mb dp un gd outer A₀ base h₀ L m s tl Q E rest x dx se o oe nm nn lel kvs rows els B F X N T hdp hu r1 hs he hlo hle ht o1 o2 l1 l2 hret
  walk_at "zwe"
  obtain ⟨sv, rfl⟩ := hs
  k_steps
  (show wpAny _ _ (call (Value.ref 226) _) _ _ _)
  k_dflt ((refine' forget_call (N := News.pull3 ?P1 ?P2 ?P3 ?N) ?B ?F ?X ?T ?k ?d ?u ?hs ?he ?lo ?hle ?ht ?o1 ?l1 ?l2 ?_; (case N => k_asm); (case P1 => walk_at "zp"); (case P2 => walk_at "zp"); (case hs => exact SpV.is _ _ _ _ _); (case P3 => walk_at "zp"); (case B => k_asm); (case F => k_asm); (case X => k_asm); (case T => k_asm); (case k => exact rfl); (case d => walk_at "zr"); (case u => walk_at "zu"); (case he => assumption); (case lo => assumption); (case hle => assumption); (case ht => (refine Tie.mono ?_ (by assumption); intro p hp; repeat (first | exact hp | apply List.Mem.tail))); (case o1 => k_all); (case l1 => assumption); (case l2 => assumption); k_whole); intro n1 t1 se1 oe1 o1 h1 tk1 F1 N1 hs1 he1 lo1 a1 b1; (try dsimp only); (try k_sweep))
  k_steps
  try dsimp only
  (rename Fr _ _ _ _ => kF); (rename News _ _ _ _ => kN)
  exact hret _ _ _ _ _ kF (News.sub kN (by walk_at "zs")) hs1 he1 lo1 b1
set_option maxHeartbeats 8000000 in
theorem t_reset : ∀ {w : World} {mean : ExcName → Option Value} {mg mb : Str → Option Value} {dp un : Nat} {gd : Option (List Code)} {outer : List Env} {A₀ : Around} {base h₀ : Heap} {L : Addr} {m : Str → Option Value} {s : Shared} {tl : List Stmt} {Q : Flow → Shared → Prop} {E : Value → Shared → Prop} {rest : List (Addr × Obj)} 
    (B : Below A₀ base outer h₀) (F : Fr h₀ L s.heap m) (X : (heapK w.params).In h₀) (N : News h₀ L s.heap (rest)) (T : Top vw (looseW vw []) mean mg mb h₀) (hdp : dp < 345) (hu : un < 345)
    (hret : ∀ rws k h' tk' m', Fr h₀ L h' m' → m' (Str.ofString "rows") = some (.ref rws) → m' (Str.ofString "last") = some (.none) → Off [Str.ofString "rows", Str.ofString "last"] m m' → News h₀ L h' ((rws, listOf #[] k) :: rest) → AllLt rws rest → wpAny (model PySem.Challenge.rw_no0077_01.row.prog w) (ktrTop dp un gd (Str.ofString "_law_filled") (fnScope 25) L 257 (.ref 256) (cellsFrom (L + 1) (fnScope 25).names []) outer) (execs tl (envOfC (Str.ofString "_law_filled") (fnScope 25) L 257 (.ref 256))) Q E { s with heap := h', toks := tk' }),
    wpAny (model PySem.Challenge.rw_no0077_01.row.prog w) (ktrTop dp un gd (Str.ofString "_law_filled") (fnScope 25) L 257 (.ref 256) (cellsFrom (L + 1) (fnScope 25).names []) outer) (execs ((stAt (ifBody (stAt (fnBody 25) 3)) 1) :: tl) (envOfC (Str.ofString "_law_filled") (fnScope 25) L 257 (.ref 256))) Q E s := by
  k_fill
  intro w mean mg mb dp un gd outer A₀ base h₀ L m s tl Q E rest  B F X N T hdp hu  hret
  walk_at "zwa"
  k_steps
  try dsimp only
  (rename Fr _ _ _ _ => kF); (rename News _ _ _ _ => kN)
  refine' hret _ _ _ _ _ kF ?za ?zb ?zn (News.sub kN (by walk_at "zs")) (by assumption)
  case za => rfl
  case zb => rfl
  case zn => exact (by intro y hy; simp only [List.mem_cons, List.not_mem_nil, or_false, not_or] at hy; simp only [hy, if_false])
set_option maxHeartbeats 8000000 in
theorem m_init : ∀ {w : World} {mean : ExcName → Option Value} {mg mb : Str → Option Value} {dp un : Nat} {gd : Option (List Code)} {outer : List Env} {A₀ : Around} {base h₀ : Heap} {L : Addr} {m : Str → Option Value} {s : Shared} {tl : List Stmt} {Q : Flow → Shared → Prop} {E : Value → Shared → Prop} {rest : List (Addr × Obj)} {nm : Str} {tn : Tok}
    (B : Below A₀ base outer h₀) (F : Fr h₀ L s.heap m) (X : (heapK w.params).In h₀) (N : News h₀ L s.heap (rest)) (T : Top vw (looseW vw []) mean mg mb h₀) (hdp : dp < 345) (hu : un < 345)
    (r1 : m (Str.ofString "name") = some (.str nm tn))
    (hret : ∀ x dx se rws o oe tz tt h' tk' m', Fr h₀ L h' m' → m' (Str.ofString "space") = some (.ref x) → m' (Str.ofString "rows") = some (.ref rws) → m' (Str.ofString "last") = some (.none) → m' (Str.ofString "time") = some (.int 0 tt) → Off [Str.ofString "space", Str.ofString "rows", Str.ofString "last", Str.ofString "time"] m m' → News h₀ L h' ((rws, listOf #[] 0) :: (se, oe) :: (x, instObj 229 dx) :: (dx, o) :: rest) → IsSp w.params o (.str nm tn) (.int 0 tz) (.ref se) .none → oe.IsDictOf (Iz w) [] → (se == sysModules) = false → AllLt dx rest → @LT.lt Nat _ dx x → @LT.lt Nat _ x se → @LT.lt Nat _ se rws → wpAny (model PySem.Challenge.rw_no0077_01.row.prog w) (ktrTop dp un gd (Str.ofString "_law_filled") (fnScope 25) L 257 (.ref 256) (cellsFrom (L + 1) (fnScope 25).names []) outer) (execs tl (envOfC (Str.ofString "_law_filled") (fnScope 25) L 257 (.ref 256))) Q E { s with heap := h', toks := tk' }),
    wpAny (model PySem.Challenge.rw_no0077_01.row.prog w) (ktrTop dp un gd (Str.ofString "_law_filled") (fnScope 25) L 257 (.ref 256) (cellsFrom (L + 1) (fnScope 25).names []) outer) (execs ((stAt (fnBody 25) 0) :: tl) (envOfC (Str.ofString "_law_filled") (fnScope 25) L 257 (.ref 256))) Q E s := by
  k_fill
  intro w mean mg mb dp un gd outer A₀ base h₀ L m s tl Q E rest nm tn B F X N T hdp hu r1 hret
  walk_at "zwa"
  k_steps
  (show wpAny _ _ (call (Value.ref 229) [Value.str _ _]) _ _ _)
  k_dflt ((refine' space_new ?B ?F ?X ?N ?T ?k ?d ?u ?_; (case N => k_asm); (case B => k_asm); (case F => k_asm); (case X => k_asm); (case T => k_asm); (case k => exact rfl); (case d => walk_at "zr"); (case u => walk_at "zu"); k_whole); intro x dx se o oe tz h1 tk1 F1 N1 hs he lo aD lx lse aX aSe; (try dsimp only); (try k_sweep))
  have lx : @LT.lt Nat _ dx x := lx
  have lse : @LT.lt Nat _ x se := lse
  have ldse := Nat.lt_trans lx lse
  k_steps
  try dsimp only
  (rename Fr _ _ _ _ => kF); (rename News _ _ _ _ => kN)
  refine' hret _ _ _ _ _ _ _ _ _ _ _ kF ?za ?zb ?zc ?zd ?zn (News.sub kN (by walk_at "zs")) hs he lo aD lx lse (by assumption)
  case za => rfl
  case zb => rfl
  case zc => rfl
  case zd => rfl
  case zn => exact (by intro y hy; simp only [List.mem_cons, List.not_mem_nil, or_false, not_or] at hy; simp only [hy, if_false])
set_option maxHeartbeats 8000000 in
theorem m_ret : ∀ {w : World} {mean : ExcName → Option Value} {mg mb : Str → Option Value} {dp un : Nat} {gd : Option (List Code)} {outer : List Env} {A₀ : Around} {base h₀ : Heap} {L : Addr} {m : Str → Option Value} {s : Shared} {tl : List Stmt} {Q : Flow → Shared → Prop} {E : Value → Shared → Prop} {rest : List (Addr × Obj)} {x rws : Addr} {last : Value}
    (B : Below A₀ base outer h₀) (F : Fr h₀ L s.heap m) (X : (heapK w.params).In h₀) (N : News h₀ L s.heap (rest)) (T : Top vw (looseW vw []) mean mg mb h₀) (hdp : dp < 345) (hu : un < 345)
    (r1 : m (Str.ofString "space") = some (.ref x)) (r2 : m (Str.ofString "rows") = some (.ref rws)) (r3 : m (Str.ofString "last") = some (last))
    (hret : ∀ tup k h' tk', Fr h₀ L h' m → News h₀ L h' ((tup, { cls := .type "tuple", data := .seq #[.ref x, .ref rws, last] k }) :: rest) → AllLt tup rest → Q (.ret (.ref tup)) { s with heap := h', toks := tk' }),
    wpAny (model PySem.Challenge.rw_no0077_01.row.prog w) (ktrTop dp un gd (Str.ofString "_law_filled") (fnScope 25) L 257 (.ref 256) (cellsFrom (L + 1) (fnScope 25).names []) outer) (execs ((stAt (fnBody 25) 4) :: tl) (envOfC (Str.ofString "_law_filled") (fnScope 25) L 257 (.ref 256))) Q E s := by
  k_fill
  intro w mean mg mb dp un gd outer A₀ base h₀ L m s tl Q E rest x rws last B F X N T hdp hu r1 r2 r3 hret
  walk_at "zwr"
  k_steps
  try dsimp only
  (rename Fr _ _ _ _ => kF); (rename News _ _ _ _ => kN)
  exact hret _ _ _ _ kF kN (by assumption)
end
local macro_rules | `(tactic| walk_at "z11") => `(tactic| (k_here; (rename Fr _ _ _ _ => F9); (with_unfolding_all refine' for_range F9 (by rfl) ?_)))
local macro_rules | `(tactic| walk_at "z12") => `(tactic| (k_here; (rename Fr _ _ _ _ => F9); (rename News _ _ _ _ => N9); (with_unfolding_all refine range1_rows F9 N9 ?_); intro h' tk' t1' t2' t3' R' F' N' K'; (try dsimp only); clear K'; (try k_sweep)))
section
local macro_rules | `(tactic| walk_at "call ref") => `(tactic| (k_here; refine held ?_))
local macro_rules | `(tactic| walk_at "exec For Name Call cons nil") => `(tactic| walk_at "z11")
local macro_rules | `(tactic| walk_at "call type:range") => `(tactic| walk_at "z12")
set_option maxHeartbeats 8000000 in
theorem m_for1 : ∀ {w : World} {mean : ExcName → Option Value} {mg mb : Str → Option Value} {dp un : Nat} {gd : Option (List Code)} {outer : List Env} {A₀ : Around} {base h₀ : Heap} {L : Addr} {m : Str → Option Value} {s : Shared} {tl : List Stmt} {Q : Flow → Shared → Prop} {E : Value → Shared → Prop} {rest nx : List (Addr × Obj)} {d x dx se rws : Addr} {nm : Str} {tn tn' tm : Tok} {most : Int}
    (B : Below A₀ base outer h₀) (F : Fr h₀ L s.heap m) (X : (heapK w.params).In h₀) (N : News h₀ L s.heap (nx)) (T : Top vw (looseW vw []) mean mg mb h₀) (hdp : dp < 345) (hu : un < 345)
    (hJ : J1 w d x dx se rws (L + 1) rest nm tn tn' most tm 0 m nx) (hlo : (d == sysModules) = false) (hlo2 : (se == sysModules) = false) (m1 : 0 < most) (m2 : most ≤ 4)
    (hret : ∀ (n0 : Nat) h' tk' m' nx', (n0 : Int) < 4 → Fr h₀ L h' m' → J1 w d x dx se rws (L + 1) rest nm tn tn' most tm n0 m' nx' → News h₀ L h' nx' → wpAny (model PySem.Challenge.rw_no0077_01.row.prog w) (ktrTop dp un gd (Str.ofString "_law_filled") (fnScope 25) L 257 (.ref 256) (cellsFrom (L + 1) (fnScope 25).names []) outer) (execs tl (envOfC (Str.ofString "_law_filled") (fnScope 25) L 257 (.ref 256))) Q E { s with heap := h', toks := tk' }),
    wpAny (model PySem.Challenge.rw_no0077_01.row.prog w) (ktrTop dp un gd (Str.ofString "_law_filled") (fnScope 25) L 257 (.ref 256) (cellsFrom (L + 1) (fnScope 25).names []) outer) (execs ((stAt (fnBody 25) 1) :: tl) (envOfC (Str.ofString "_law_filled") (fnScope 25) L 257 (.ref 256))) Q E s := by
  k_fill
  intro w mean mg mb dp un gd outer A₀ base h₀ L m s tl Q E rest nx d x dx se rws nm tn tn' tm most B F X N T hdp hu hJ hlo hlo2 m1 m2 hret
  walk_at "zwf"
  obtain ⟨last, tv, od, o, oe, oc, rows, k, bag, lel, nt, kvs, els, H, hr⟩ := hJ
  obtain ⟨rfl, dr, hs, he, same, ht, tie, keys, len, hcell, grow, o1, o2, o3, o4, o5, o6, ord⟩ := H
  have hr' := hr
  obtain ⟨r1, r2, r3, r4, r5, r6, r7⟩ := hr
  have ord' := ord
  obtain ⟨_, _, _, _, _, _, _, _, _, _, _, _, _, _, _⟩ := ord'
  k_steps
  (show wpAny _ _ (call (Value.ref 247) [Value.ref _, Value.int _ _]) _ _ _)
  k_dflt ((refine' take_call (N := Pull.news ?P ?N) ?B ?F ?X ?T ?k ?d ?u ?o ?lo ?dr ?hm ?_; (case N => k_asm); (case P => walk_at "zp"); (case B => k_asm); (case F => k_asm); (case X => k_asm); (case T => k_asm); (case k => exact rfl); (case d => walk_at "zr"); (case u => walk_at "zu"); (case o => k_all); (case lo => assumption); (case dr => assumption); (case hm => first | assumption | decide | omega); k_whole); intro r9 t9 o9 h9 tk9 F9 N9 hd9 ra9 rb9; (try dsimp only); (try k_sweep))
  k_steps
  (rename Fr _ _ _ _ => F9); (rename News _ _ _ _ => N9)
  refine' ⟨_, _, _, _, _, _, (d, o9) :: (x, instObj 229 dx) :: (dx, o) :: (se, oe) :: (rws, listOf rows.toArray k) :: (L + 1, oc) :: bag, J1 w d x dx se rws (L + 1) rest nm tn tn' most tm, rfl, by assumption, by assumption, by omega, F9, ?hN, ⟨last, tv, o9, o, oe, oc, rows, k, bag, lel, nt, kvs, els, ?inv, hr'⟩, ?turn, ?done⟩
  case inv => exact { nx := rfl, dr := hd9, sp := hs, di := he, same := same, time := ht, tie := tie, keys := keys, len := len, cell := hcell, grow := grow, o1 := o1, o2 := o2, o3 := o3, o4 := o4, o5 := o5, o6 := o6, ord := ord }
  case hN => exact News.sub N9 (by walk_at "zs")
  case turn =>
    intro i t m₁ nx h tk I oI hi hne hJ F1 N1
    exact f_turn1 B F1 X N1 T hdp hu hlo hlo2 (by omega) hne hJ
  case done =>
    intro m₁ nx h tk hJ F1 N1
    exact hret _ _ _ _ _ (by omega) F1 hJ N1
set_option maxHeartbeats 8000000 in
theorem m_for2 : ∀ {w : World} {mean : ExcName → Option Value} {mg mb : Str → Option Value} {dp un : Nat} {gd : Option (List Code)} {outer : List Env} {A₀ : Around} {base h₀ : Heap} {L : Addr} {m : Str → Option Value} {s : Shared} {tl : List Stmt} {Q : Flow → Shared → Prop} {E : Value → Shared → Prop} {rest nx : List (Addr × Obj)} {d x dx se : Addr} {nm : Str} {tn tn' tm : Tok} {most n0 : Int}
    (B : Below A₀ base outer h₀) (F : Fr h₀ L s.heap m) (X : (heapK w.params).In h₀) (N : News h₀ L s.heap (nx)) (T : Top vw (looseW vw []) mean mg mb h₀) (hdp : dp < 345) (hu : un < 345)
    (hJ : JJ2 w d x dx se (L + 1) rest nm tn tn' n0 0 m nx) (rm : m (Str.ofString "most") = some (.int most tm)) (hlo : (d == sysModules) = false) (hlo2 : (se == sysModules) = false) (m1 : 0 < most) (m2 : most ≤ 4) (hn0 : n0 ≤ 4)
    (hret : ∀ h' tk' m' nx', Fr h₀ L h' m' → JJ2 w d x dx se (L + 1) rest nm tn tn' n0 0 m' nx' → News h₀ L h' nx' → wpAny (model PySem.Challenge.rw_no0077_01.row.prog w) (ktrTop dp un gd (Str.ofString "_law_filled") (fnScope 25) L 257 (.ref 256) (cellsFrom (L + 1) (fnScope 25).names []) outer) (execs tl (envOfC (Str.ofString "_law_filled") (fnScope 25) L 257 (.ref 256))) Q E { s with heap := h', toks := tk' }),
    wpAny (model PySem.Challenge.rw_no0077_01.row.prog w) (ktrTop dp un gd (Str.ofString "_law_filled") (fnScope 25) L 257 (.ref 256) (cellsFrom (L + 1) (fnScope 25).names []) outer) (execs ((stAt (fnBody 25) 2) :: tl) (envOfC (Str.ofString "_law_filled") (fnScope 25) L 257 (.ref 256))) Q E s := by
  k_fill
  intro w mean mg mb dp un gd outer A₀ base h₀ L m s tl Q E rest nx d x dx se nm tn tn' tm most n0 B F X N T hdp hu hJ rm hlo hlo2 m1 m2 hn0 hret
  walk_at "zwf"
  obtain ⟨rws, last, od, o, oe, oc, rows, k, bag, lel, nt, kvs, els, H, hr⟩ := hJ
  obtain ⟨rfl, dr, hs, he, same, tie, len, hcell, grow, o1, o2, o3, o4, o5, o6, ord, ne⟩ := H
  have hr' := hr
  obtain ⟨r1, r2, r4, r5, r6⟩ := hr
  have ord' := ord
  have ne' := ne
  obtain ⟨p1, p2, p3, p4⟩ := ord'
  have p5 := Nat.lt_trans p1 p2
  have p6 := Nat.lt_trans p5 p3
  have p7 := Nat.lt_trans p6 p4
  obtain ⟨_, _, _, _, _⟩ := ne'
  k_steps
  (show wpAny _ _ (call (Value.ref 247) [Value.ref _, Value.int _ _]) _ _ _)
  k_dflt ((refine' take_call (N := Pull.news ?P ?N) ?B ?F ?X ?T ?k ?d ?u ?o ?lo ?dr ?hm ?_; (case N => k_asm); (case P => walk_at "zp"); (case B => k_asm); (case F => k_asm); (case X => k_asm); (case T => k_asm); (case k => exact rfl); (case d => walk_at "zr"); (case u => walk_at "zu"); (case o => k_all); (case lo => assumption); (case dr => assumption); (case hm => first | assumption | decide | omega); k_whole); intro r9 t9 o9 h9 tk9 F9 N9 hd9 ra9 rb9; (try dsimp only); (try k_sweep))
  k_steps
  (rename Fr _ _ _ _ => F9); (rename News _ _ _ _ => N9)
  refine' ⟨_, _, _, _, _, _, (d, o9) :: (x, instObj 229 dx) :: (dx, o) :: (se, oe) :: (rws, listOf rows.toArray k) :: (L + 1, oc) :: bag, JJ2 w d x dx se (L + 1) rest nm tn tn' n0, rfl, by assumption, by assumption, by omega, F9, ?hN, ⟨rws, last, o9, o, oe, oc, rows, k, bag, lel, nt, kvs, els, ?inv, hr'⟩, ?turn, ?done⟩
  case inv => exact { nx := rfl, dr := hd9, sp := hs, di := he, same := same, tie := tie, len := len, cell := hcell, grow := grow, o1 := o1, o2 := o2, o3 := o3, o4 := o4, o5 := o5, o6 := o6, ord := ord, ne := ne }
  case hN => exact News.sub N9 (by walk_at "zs")
  case turn =>
    intro i t m₁ nx h tk I oI hi hne hJ F1 N1
    exact f_turn2 B F1 X N1 T hdp hu hlo hlo2 hn0 hne hJ
  case done =>
    intro m₁ nx h tk hJ F1 N1
    exact hret _ _ _ _ F1 hJ N1
end
theorem news_apart {h₀ h g h' : Heap} {L L' : Addr} {led new rest : List (Addr × Obj)} (N : News h₀ L h (led ++ rest)) (G : GSub h g (led.map (·.1))) (K : News g L' h' new) (ho : ∀ p ∈ rest, p.1 ∉ led.map (·.1)) : ∀ p ∈ new, ∀ q ∈ rest, p.1 ≠ q.1 := by
  intro p hp q hq e
  have h1 := (N q (List.mem_append.mpr (.inr hq))).1
  have h2 := G _ _ h1 (ho q hq)
  have h3 := (K p hp).2.2
  rw [e, h2] at h3
  cases h3
theorem off_one {d : Addr} {od : Obj} {rest : List (Addr × Obj)} (h : ∀ p ∈ rest, p.1 ≠ d) : ∀ p ∈ rest, p.1 ∉ [(d, od)].map (·.1) := fun p hp hm => h p hp (List.mem_singleton.mp hm)
theorem FlInv.two {w : World} {d x dx se rws c : Addr} {rest : List (Addr × Obj)} {nm tv : Value} {i : Int} {nx : List (Addr × Obj)} {last : Value} {od o oe oc : Obj} {rows : List Value} {k : Nat} {bag : List (Addr × Obj)} {lel : Value} {nt : Tok} {kvs : List (Int × Value)} {els : List (Int × Bool)}
    (H : FlInv w d x dx se rws c rest nm tv i nx last od o oe oc rows k bag lel nt kvs els) : FlI2 w d x dx se c rws rest nm i nx last od o oe oc rows k bag lel nt kvs els := by
  have e := H.ord
  exact { nx := H.nx, dr := H.dr, sp := H.sp, di := H.di, same := H.same, tie := H.tie, len := H.len, cell := H.cell, grow := H.grow, o1 := H.o1, o2 := H.o2, o3 := H.o3, o4 := H.o4, o5 := H.o5, o6 := H.o6, ord := ⟨e.q0, e.q5, e.q9, e.q12⟩, ne := ⟨Nat.ne_of_lt e.q4, Nat.ne_of_lt e.q13, Nat.ne_of_lt e.q11, Nat.ne_of_lt e.q14, Nat.ne_of_lt e.q8⟩ }
theorem body25t : ifBody (stAt (fnBody 25) 3) = [stAt (ifBody (stAt (fnBody 25) 3)) 0, stAt (ifBody (stAt (fnBody 25) 3)) 1] := by kernel_rfl
local macro_rules | `(tactic| walk_at "z13") => `(tactic| (refine neN ?_; (try dsimp only); (with_reducible_and_instances first | assumption | (refine Nat.ne_of_lt ?_; assumption) | (refine Nat.ne_of_gt ?_; assumption) | (refine Ne.symm ?_; assumption) | (refine Nat.ne_of_lt (Nat.lt_succ_of_lt ?_); assumption) | (refine Nat.ne_of_gt (Nat.lt_succ_of_lt ?_); assumption) | omega)))
section
local macro_rules | `(tactic| k_ne) => `(tactic| walk_at "z13")
local macro_rules | `(tactic| k_room) => `(tactic| walk_at "z1")
local macro_rules | `(tactic| k_enter) => `(tactic| walk_at "z4")
set_option maxHeartbeats 8000000 in
theorem filled_call : ∀ {w : World} {mean : ExcName → Option Value} {mg mb : Str → Option Value} {dp un : Nat} {gd : Option (List Code)} {cn : Str} {cs : Scope} {a : Addr} {ccd : Value} {cl : List (Str × Addr)} {outer : List Env} {A₀ : Around} {base h₀ : Heap} {L : Addr} {m : Str → Option Value} {s : Shared}
    {Q E : Value → Shared → Prop} {rest : List (Addr × Obj)} {d : Addr} {od : Obj} {nm : Str} {tn tm : Tok} {most : Int}
    (B : Below A₀ base outer h₀) (F : Fr h₀ L s.heap m) (X : (heapK w.params).In h₀) (N : News h₀ L s.heap ((d, od) :: rest)) (T : Top vw (looseW vw []) mean mg mb h₀) (hk : cs.kind = .function) (hdp : dp < 340) (hu : un < 340)
    (hdr : IsDraws w od) (hlo : (d == sysModules) = false) (hoff : ∀ p ∈ rest, p.1 ≠ d) (v1 : 0 < most) (v2 : most ≤ 4)
    (hret : ∀ tup od' new h' tk', Fr h₀ L h' m → News h₀ L h' ((d, od') :: (new ++ rest)) → IsDraws w od' → FilledIn w new tup nm → (∀ p ∈ new, p.1 ≠ d) → (∀ p ∈ new, ∀ q ∈ rest, p.1 ≠ q.1) → Q (.ref tup) { s with heap := h', toks := tk' }),
    wpAny (model PySem.Challenge.rw_no0077_01.row.prog w) (ktrTop dp un gd cn cs L a ccd cl outer) (call (.ref 257) [.ref d, .str nm tn, .int most tm]) Q E s := by
  k_fill
  intro w mean mg mb dp un gd cn cs a ccd cl outer A₀ base h₀ L m s Q E rest d od nm tn tm most B F X N T hk hdp hu hdr hlo hoff v1 v2 hret
  have N1 : News h₀ L s.heap [(d, od)] := News.sub N (by lcg_sub)
  refine wpAny_call ?_
  k_dflt (refine' enter_cells ?k1 ?k2 ?k3 ?k4 ?k5 ?kA ?kF ?kK ?k6 ?k7 ?k8 ?k9 ?kB ?kD ?_ ?c2 ?c3 ?c4; (case kA => exact rfl); (case kF => exact rfl); (case kK => assumption); (case k1 => k_asm); (case k2 => k_asm); (case k3 => k_asm); (case k4 => exact N1); (case k5 => k_asm); (case k6 => k_is); (case k7 => k_is); (case k8 => ktr_room); (case k9 => exact BindsTo.of_eq rfl); (case kB => exact rfl); (case kD => decide +kernel); (case c2 => exact rfl); (case c3 => exact rfl); (case c4 => exact rfl); k_whole; intro g' L' h' tk' cells' FG' F' N' Y' B' X' T' l1 GS'; (try k_lt l1); k_cells Y'; (try simp only [List.cons_append, List.nil_append] at N'); (try dsimp only); (try k_fold))
  (rename Obj.data _ = Data.cell _ => dcx)
  have dc : _ = Data.cell none := dcx
  clear dcx
  obtain ⟨mm, F1, r1, r2, r3⟩ : ∃ mm, Fr g' L' h' mm ∧ mm (Str.ofString "draws") = some (.ref d) ∧ mm (Str.ofString "name") = some (.str nm tn) ∧ mm (Str.ofString "most") = some (.int most tm) := ⟨_, F', rfl, rfl, rfl⟩
  clear F'
  change wpAny _ (ktrTop _ _ _ (Str.ofString "_law_filled") (fnScope 25) _ 257 (.ref 256) (cellsFrom (L' + 1) (fnScope 25).names []) _) (execs (stAt (fnBody 25) 0 :: stAt (fnBody 25) 1 :: stAt (fnBody 25) 2 :: .If (ifTest (stAt (fnBody 25) 3)) (ifBody (stAt (fnBody 25) 3)) [] _ :: [stAt (fnBody 25) 4]) (envOfC (Str.ofString "_law_filled") (fnScope 25) L' 257 (.ref 256))) _ _ _
  refine' m_init  B' ?F1 X' ?N1 T' ?hd1 ?hu1 ?z0_1 ?hr1
  case F1 => with_reducible assumption
  case hd1 => walk_at "zr"
  case hu1 => walk_at "zu"
  case N1 => with_reducible assumption
  case z0_1 => exact r2
  intro x dx se rws o oe tz tt h2 tk2 m2 F2 q1 q2 q3 q4 off2 N2 hs he lo aD lx lse lsr
  try dsimp only
  replace r1 := off2.get r1
  replace r2 := off2.get r2
  replace r3 := off2.get r3
  (simp only [AllLt, and_true] at aD); obtain ⟨c1, c2⟩ := aD
  have c1 : @LT.lt Nat _ (L' + 1) dx := c1
  have c2 : @LT.lt Nat _ d dx := c2
  have J0 : J1 w d x dx se rws (L' + 1) [] nm tn tn most tm 0 m2 ((d, od) :: (x, instObj 229 dx) :: (dx, o) :: (se, oe) :: (rws, listOf ([] : List Value).toArray 0) :: (L' + 1, _) :: []) :=
    ⟨_, _, _, _, _, _, [], 0, [], _, _, _, _, { nx := rfl, dr := hdr, sp := hs, di := he, same := .inl ⟨rfl, rfl⟩, time := ⟨_, _, rfl⟩, tie := .nil, keys := (fun _ h => nomatch h), len := Int.le_refl _, cell := ⟨_, dc⟩, grow := .refl, o1 := (fun _ h => nomatch h), o2 := (fun _ h => nomatch h), o3 := (fun _ h => nomatch h), o4 := (fun _ h => nomatch h), o5 := (fun _ h => nomatch h), o6 := (fun _ h => nomatch h), ord := Ord6.of (Nat.lt_succ_of_lt (by assumption)) c1 lx lse lsr }, r1, r2, r3, q1, q2, q3, q4⟩
  have NJ := News.sub N2 (l' := (d, od) :: (x, instObj 229 dx) :: (dx, o) :: (se, oe) :: (rws, listOf ([] : List Value).toArray 0) :: (L' + 1, _) :: []) (by walk_at "zs")
  refine' m_for1  B' ?F2 X' ?N2 T' ?hd2 ?hu2 ?z0_2 ?z1_2 ?z2_2 ?z3_2 ?z4_2 ?hr2
  case F2 => with_reducible assumption
  case hd2 => walk_at "zr"
  case hu2 => walk_at "zu"
  case z0_2 => exact J0
  case N2 => with_reducible assumption
  case z1_2 => exact hlo
  case z2_2 => exact lo
  case z3_2 => exact v1
  case z4_2 => exact v2
  intro n0 h3 tk3 m3 nx3 hn0 F3 J3 N3
  try dsimp only
  obtain ⟨last, tv, od3, o3, oe3, oc3, rows3, k3, bag3, lel3, nt3, kvs3, els3, H3, R3⟩ := J3
  have J4 : JJ2 w d x dx se (L' + 1) [] nm tn tn (n0 : Int) 0 m3 nx3 := ⟨rws, last, od3, o3, oe3, oc3, rows3, k3, bag3, lel3, nt3, kvs3, els3, H3.two, R3.1, R3.2.1, R3.2.2.2.1, R3.2.2.2.2.1, R3.2.2.2.2.2.1⟩
  refine' m_for2  B' ?F3 X' ?N3 T' ?hd3 ?hu3 ?z0_3 ?z1_3 ?z2_3 ?z3_3 ?z4_3 ?z5_3 ?z6_3 ?hr3
  case F3 => with_reducible assumption
  case hd3 => walk_at "zr"
  case hu3 => walk_at "zu"
  case z0_3 => exact J4
  case N3 => with_reducible assumption
  case z1_3 => exact R3.2.2.1
  case z2_3 => exact hlo
  case z3_3 => exact lo
  case z4_3 => exact v1
  case z5_3 => exact v2
  case z6_3 => omega
  intro h5 tk5 m5 nx5 F5 J5 N5
  try dsimp only
  obtain ⟨rws5, last5, od5, o5, oe5, oc5, rows5, k5, bag5, lel5, nt5, kvs5, els5, H5, ra, rb, rc, rd, re⟩ := J5
  obtain ⟨rfl, dr5, hs5, he5, same5, tie5, len5, hcell5, grow5, u1, u2, u3, u4, u5, u6, ⟨p1, p2, p3, p4⟩, ne1, ne2, ne3, ne4, ne5⟩ := H5
  have p5 := Nat.lt_trans p1 p2
  have p6 := Nat.lt_trans p5 p3
  have p7 := Nat.lt_trans p6 p4
  have hle5 : kvs5.length ≤ 100 := by rw [tie5.len.1]; omega
  clear N' NJ N2 J0 J4 H3 R3 N3
  refine' t_if (body := ifBody (stAt (fnBody 25) 3)) B' ?Fa X' (Pull.news ?Pa ?Na) T' ?hda ?hua ra ?oa hlo ?dra rb ?yes ?no
  case Fa => with_reducible assumption
  case hda => walk_at "zr"
  case hua => walk_at "zu"
  case Na => with_reducible assumption
  case Pa => walk_at "zp"
  case oa => k_all
  case dra => exact dr5
  case no =>
    intro od6 h6 tk6 F6 N6 dr6
    try dsimp only
    refine' m_ret  B' ?F4 X' ?N4 T' ?hd4 ?hu4 ?z0_4 ?z1_4 ?z2_4 ?hr4
    case F4 => with_reducible assumption
    case hd4 => walk_at "zr"
    case hu4 => walk_at "zu"
    case z0_4 => exact rc
    case z1_4 => exact rd
    case z2_4 => exact re
    case N4 => with_reducible assumption
    intro tup kt h7 tk7 F7 N7 aT
    try dsimp only
    (simp only [AllLt] at aT); walk_at "zc"
    have AP := news_apart (led := [(d, od)]) N GS' (News.sub N7 (l' := ((tup, ({ cls := .type "tuple", data := .seq #[.ref x, .ref rws5, last5] kt } : Obj)) :: (x, instObj 229 dx) :: (dx, o5) :: (se, oe5) :: (rws5, listOf rows5.toArray k5) :: bag5)) (by walk_at "zs")) (off_one hoff)
    have AD : ∀ p ∈ ((tup, ({ cls := .type "tuple", data := .seq #[.ref x, .ref rws5, last5] kt } : Obj)) :: (x, instObj 229 dx) :: (dx, o5) :: (se, oe5) :: (rws5, listOf rows5.toArray k5) :: bag5), p.1 ≠ d := by k_all
    have FI : FilledIn w ((tup, ({ cls := .type "tuple", data := .seq #[.ref x, .ref rws5, last5] kt } : Obj)) :: (x, instObj 229 dx) :: (dx, o5) :: (se, oe5) :: (rws5, listOf rows5.toArray k5) :: bag5) tup nm := ⟨x, dx, se, rws5, o5, oe5, rows5, k5, _, lel5, last5, kvs5, els5, tn, kt, by k_mem, by k_mem, by k_mem, by k_mem, by k_mem, hs5, he5, lo, by omega, same5, tie5.mono (by intro p hp; repeat (first | exact hp | apply List.Mem.tail))⟩
    have NF := News.sub N7 (l' := (d, od6) :: ((tup, ({ cls := .type "tuple", data := .seq #[.ref x, .ref rws5, last5] kt } : Obj)) :: (x, instObj 229 dx) :: (dx, o5) :: (se, oe5) :: (rws5, listOf rows5.toArray k5) :: bag5)) (by walk_at "zs")
    k_steps
    (rename Fr _ _ _ _ => kF); (rename News _ _ _ _ => kN)
    exact hret _ _ _ _ _ kF (news_back (led := [(d, od)]) (new := (d, od6) :: ((tup, ({ cls := .type "tuple", data := .seq #[.ref x, .ref rws5, last5] kt } : Obj)) :: (x, instObj 229 dx) :: (dx, o5) :: (se, oe5) :: (rws5, listOf rows5.toArray k5) :: bag5)) N GS' F7 kN (off_one hoff)) dr6 FI AD AP
  intro od6 h6 tk6 F6 N6 dr6
  try dsimp only
  rw [body25t]
  refine' t_forget  B' ?F5 X' (News.pull3 ?P1_5 ?P2_5 ?P3_5 ?N5) T' ?hd5 ?hu5 ?z0_5 ?z1_5 ?z2_5 ?z3_5 ?z4_5 ?z5_5 ?z6_5 ?z7_5 ?z8_5 ?z9_5 ?hr5
  case F5 => with_reducible assumption
  case hd5 => walk_at "zr"
  case hu5 => walk_at "zu"
  case z0_5 => exact rc
  case N5 => with_reducible assumption
  case P1_5 => walk_at "zp"
  case z1_5 => exact hs5
  case P2_5 => walk_at "zp"
  case z2_5 => exact he5
  case P3_5 => walk_at "zp"
  case z3_5 => exact lo
  case z4_5 => exact hle5
  case z5_5 => exact tie5.mono (by intro p hp; repeat (first | exact hp | apply List.Mem.tail))
  case z6_5 => k_all
  case z7_5 => k_all
  case z8_5 => assumption
  case z9_5 => assumption
  intro se7 oe7 o7 h7 tk7 F7 N7 hs7 he7 lo7 lx7
  try dsimp only
  refine' t_reset  B' ?F6 X' ?N6 T' ?hd6 ?hu6  ?hr6
  case F6 => with_reducible assumption
  case hd6 => walk_at "zr"
  case hu6 => walk_at "zu"
  case N6 => with_reducible assumption
  intro rws8 k8 h8 tk8 m8 F8 qa qb off8 N8 a8
  try dsimp only
  replace rc := off8.get rc
  refine wpAny_execs_nil ?_
  try dsimp only
  have lx7 : @LT.lt Nat _ x se7 := lx7
  have lx8 := Nat.lt_trans p6 lx7
  (simp only [AllLt] at a8); walk_at "zc"
  refine' m_ret  B' ?F7 X' ?N7 T' ?hd7 ?hu7 ?z0_7 ?z1_7 ?z2_7 ?hr7
  case F7 => with_reducible assumption
  case hd7 => walk_at "zr"
  case hu7 => walk_at "zu"
  case z0_7 => exact rc
  case z1_7 => exact qa
  case z2_7 => exact qb
  case N7 => with_reducible assumption
  intro tup kt h9 tk9 F9 N9 aT
  try dsimp only
  (simp only [AllLt] at aT); walk_at "zc"
  have AP := news_apart (led := [(d, od)]) N GS' (News.sub N9 (l' := ((tup, ({ cls := .type "tuple", data := .seq #[.ref x, .ref rws8, .none] kt } : Obj)) :: (x, instObj 229 dx) :: (dx, o7) :: (se7, oe7) :: (rws8, listOf #[] k8) :: bag5)) (by walk_at "zs")) (off_one hoff)
  have AD : ∀ p ∈ ((tup, ({ cls := .type "tuple", data := .seq #[.ref x, .ref rws8, .none] kt } : Obj)) :: (x, instObj 229 dx) :: (dx, o7) :: (se7, oe7) :: (rws8, listOf #[] k8) :: bag5), p.1 ≠ d := by k_all
  have FI : FilledIn w ((tup, ({ cls := .type "tuple", data := .seq #[.ref x, .ref rws8, .none] kt } : Obj)) :: (x, instObj 229 dx) :: (dx, o7) :: (se7, oe7) :: (rws8, listOf #[] k8) :: bag5) tup nm := ⟨x, dx, se7, rws8, o7, oe7, [], k8, _, .none, .none, [], [], tn, kt, by k_mem, by k_mem, by k_mem, by k_mem, by k_mem, hs7, he7, lo7, Nat.zero_le _, .inl ⟨rfl, rfl⟩, .nil⟩
  have NF := News.sub N9 (l' := (d, od6) :: ((tup, ({ cls := .type "tuple", data := .seq #[.ref x, .ref rws8, .none] kt } : Obj)) :: (x, instObj 229 dx) :: (dx, o7) :: (se7, oe7) :: (rws8, listOf #[] k8) :: bag5)) (by walk_at "zs")
  k_steps
  (rename Fr _ _ _ _ => kF); (rename News _ _ _ _ => kN)
  exact hret _ _ _ _ _ kF (news_back (led := [(d, od)]) (new := (d, od6) :: ((tup, ({ cls := .type "tuple", data := .seq #[.ref x, .ref rws8, .none] kt } : Obj)) :: (x, instObj 229 dx) :: (dx, o7) :: (se7, oe7) :: (rws8, listOf #[] k8) :: bag5)) N GS' F9 kN (off_one hoff)) dr6 FI AD AP
end
section
local macro_rules | `(tactic| k_ne) => `(tactic| walk_at "z13")
local macro_rules | `(tactic| k_room) => `(tactic| walk_at "z1")
local macro_rules | `(tactic| k_enter) => `(tactic| walk_at "z4")
local macro_rules | `(tactic| walk_at "execs cons") => `(tactic| walk_at "z5")
set_option maxHeartbeats 8000000 in
theorem names_call : ∀ {w : World} {mean : ExcName → Option Value} {mg mb : Str → Option Value} {dp un : Nat} {gd : Option (List Code)} {cn : Str} {cs : Scope} {a : Addr} {ccd : Value} {cl : List (Str × Addr)} {outer : List Env} {A₀ : Around} {base h₀ : Heap} {L : Addr} {m : Str → Option Value} {s : Shared}
    {Q E : Value → Shared → Prop} {rest : List (Addr × Obj)} 
    (B : Below A₀ base outer h₀) (F : Fr h₀ L s.heap m) (X : (heapK w.params).In h₀) (N : News h₀ L s.heap (rest)) (T : Top vw (looseW vw []) mean mg mb h₀) (hk : cs.kind = .function) (hdp : dp < 450) (hu : un < 450)
    (hret : ∀ l t1 t2 t3 h' tk', Fr h₀ L h' m → News h₀ L h' ((l, listOf #[.str (Str.ofString "initial") t1, .str (Str.ofString "handshake") t2, .str (Str.ofString "application") t3] 0) :: rest) → AllLt l rest → Q (.ref l) { s with heap := h', toks := tk' }),
    wpAny (model PySem.Challenge.rw_no0077_01.row.prog w) (ktrTop dp un gd cn cs L a ccd cl outer) (call (.ref 240) []) Q E s := by
  k_fill
  intro w mean mg mb dp un gd cn cs a ccd cl outer A₀ base h₀ L m s Q E rest  B F X N T hk hdp hu  hret
  have N1 := N
  refine wpAny_call ?_
  k_dflt (refine' code_defG ?k1 ?k2 ?k3 ?k4 ?k5 ?kA ?kF ?kK ?k6 ?k7 ?k8 ?k9 ?kB ?_ ?c2 ?c3 ?c4 ?c5; (case kA => exact rfl); (case kF => exact rfl); (case kK => assumption); (case k1 => k_asm); (case k2 => k_asm); (case k3 => k_asm); (case k4 => exact N1); (case k5 => k_asm); (case k6 => k_is); (case k7 => k_is); (case k8 => ktr_room); (case k9 => exact BindsTo.of_eq rfl); (case c5 => decide); (case kB => exact locs rfl); (case c2 => exact rfl); (case c3 => exact rfl); (case c4 => exact rfl); k_whole; intro g' L' h' FG' F' N' B' X' T' GS'; (try dsimp only); (try k_fold))
  k_steps
  (rename Fr _ _ _ _ => kF); (rename News _ _ _ _ => kN)
  exact hret _ _ _ _ _ _ kF kN (by assumption)
end
section
variable {prog : Program} {w : World} {A : Around} {s : Shared} {env : Env} {h₀ : Heap} {x : Str} {px : Pos} {body : List Stmt} {Q : Flow → Shared → Prop}
def LsLoop (prog : Program) (w : World) (A : Around) (h₀ : Heap) (env : Env) (x : Str) (px : Pos) (body : List Stmt) (Q : Flow → Shared → Prop) (xv : Value) (s : Shared) : Prop :=
  ∃ (ax : Addr) (vs : List Value) (k : Nat) (m₀ : Str → Option Value) (news : List (Addr × Obj)) (J : Nat → (Str → Option Value) → List (Addr × Obj) → Prop),
    xv = .ref ax ∧ Fr h₀ env.locals s.heap m₀ ∧ News h₀ env.locals s.heap news ∧ J 0 m₀ news ∧ (∀ i m nx, J i m nx → (ax, listOf vs.toArray k) ∈ nx) ∧
    (∀ (i : Nat) v m₁ nx h tk I oI, vs[i]? = some v → (∀ p ∈ nx, p.1 ≠ I) → J i m₁ nx → Fr h₀ env.locals h m₁ → News h₀ env.locals h ((I, oI) :: nx) →
      wpAny (model prog w) A (assign (.Name x px) env v) (fun _ s₂ => wpAny (model prog w) A (execs body env) (RgPost h₀ env.locals (J (i + 1)) I oI { s with heap := h, toks := tk } Q) NoE s₂) NoE { s with heap := h, toks := tk }) ∧
    (∀ m₁ nx h tk, J vs.length m₁ nx → Fr h₀ env.locals h m₁ → News h₀ env.locals h nx → Q .next { s with heap := h, toks := tk })
theorem codeAny_list {R : Result → Shared → Prop} {ax : Addr} {vs : List Value} {k : Nat} {m₀ : Str → Option Value} {news : List (Addr × Obj)} (J : Nat → (Str → Option Value) → List (Addr × Obj) → Prop)
    (hh : A.handled = none) (I : Addr) (hI : h₀.get? I = none) (hL : env.locals ≠ I) (hne : ∀ p ∈ news, p.1 ≠ I) (hst : s.heap.IsListIter I ax 0) (F : Fr h₀ env.locals s.heap m₀) (N : News h₀ env.locals s.heap news) (hj : J 0 m₀ news)
    (hax : ∀ i m nx, J i m nx → (ax, listOf vs.toArray k) ∈ nx)
    (turn : ∀ (i : Nat) v m₁ nx h tk oI, vs[i]? = some v → (∀ p ∈ nx, p.1 ≠ I) → J i m₁ nx → Fr h₀ env.locals h m₁ → News h₀ env.locals h ((I, oI) :: nx) →
      wpAny (model prog w) A (assign (.Name x px) env v) (fun _ s₂ => wpAny (model prog w) A (execs body env) (RgPost h₀ env.locals (J (i + 1)) I oI { s with heap := h, toks := tk } fun f s' => R (.ok f) s') NoE s₂) NoE { s with heap := h, toks := tk })
    (done : ∀ m₁ nx h tk, J vs.length m₁ nx → Fr h₀ env.locals h m₁ → News h₀ env.locals h nx → R (.ok .next) { s with heap := h, toks := tk }) :
    codeAny (model prog w) A (.forLoop (.Name x px) (.ref I) body [] env) R s := by
  have hne2 : ax ≠ I := hne _ (hax _ _ _ hj)
  have W := Walks.list (prog := prog) (w := w) hh I ax hne2 vs.toArray
  rw [show vs.toArray.size = vs.length from rfl] at W
  refine codeAny_forLoop
    (fun k s' => ∃ h' tk m' nx i, s' = { s with heap := h', toks := tk } ∧ h'.IsListIter I ax i ∧ Fr h₀ env.locals h' m' ∧ News h₀ env.locals h' nx ∧ (∀ p ∈ nx, p.1 ≠ I) ∧ J i m' nx ∧ i ≤ vs.length ∧ k = vs.length + 1 - i) ?_ (vs.length + 1)
    ⟨s.heap, s.toks, m₀, news, 0, rfl, hst, F, N, hne, hj, Nat.zero_le _, rfl⟩
  rintro k' s' ⟨h', tk, m', nx, i, rfl, hst', F', N', hne', hJ, hi, rfl⟩
  have hl : h'.IsList ax vs.toArray := News.isList N' (hax _ _ _ hJ)
  have next : ∀ h₁ : Heap, (∀ b o, b ∉ [I] → h'.get? b = some o → h₁.get? b = some o) → Fr h₀ env.locals h₁ m' ∧ News h₀ env.locals h₁ nx := fun h₁ hk₁ =>
    ⟨⟨F'.ns.at' fun o e => hk₁ _ o (fun hm => hL (List.mem_singleton.mp hm)) e, fun b o e => hk₁ b o (fun hm => by rw [List.mem_singleton.mp hm, hI] at e; cases e) (F'.keep b o e), F'.above⟩, fun p hp => ⟨hk₁ _ _ (fun hm => hne' p hp (List.mem_singleton.mp hm)) (N' p hp).1, (N' p hp).2⟩⟩
  by_cases hlt : i < vs.length
  · refine W.item i _ _ _ hlt ⟨hst', hl⟩ fun v h₁ tk₁ hP hst₁ hk₁ => ?_
    obtain ⟨F₁, N₁⟩ := next h₁ hk₁
    have hv : vs[i]? = some v := by simpa using hP
    obtain ⟨⟨oI, hoI, hrest⟩, _⟩ := hst₁
    have N₂ : News h₀ env.locals h₁ ((I, oI) :: nx) := fun p hp => by
      rcases List.mem_cons.mp hp with rfl | hp
      · exact ⟨hoI, fun e => hL e.symm, hI⟩
      · exact N₁ p hp
    have back : ∀ (h₃ : Heap) (nx₃ : List (Addr × Obj)), News h₀ env.locals h₃ ((I, oI) :: nx₃) → h₃.IsListIter I ax (i + 1) := fun h₃ nx₃ N₃ => ⟨oI, (N₃ _ (.head _)).1, hrest⟩
    refine wpAny_mono (turn i v m' nx h₁ tk₁ oI hv hne' hJ F₁ N₂) (fun _ s₂ h₂ => wpAny_mono h₂ (fun f s₃ h₃ => ?_) fun _ _ e => e.elim) fun _ _ e => e.elim
    cases f with
    | ret v => exact h₃
    | brk => exact h₃
    | cont =>
      obtain ⟨h₃', tk₃, m₂, nx₂, rfl, F₃, N₃, ha₃, hJ₃⟩ := h₃
      exact ⟨vs.length + 1 - (i + 1), by omega, h₃', tk₃, m₂, nx₂, i + 1, rfl, back _ _ N₃, F₃, fun p hp => N₃ p (.tail _ hp), ha₃, hJ₃, hlt, rfl⟩
    | next =>
      obtain ⟨h₃', tk₃, m₂, nx₂, rfl, F₃, N₃, ha₃, hJ₃⟩ := h₃
      exact ⟨vs.length + 1 - (i + 1), by omega, h₃', tk₃, m₂, nx₂, i + 1, rfl, back _ _ N₃, F₃, fun p hp => N₃ p (.tail _ hp), ha₃, hJ₃, hlt, rfl⟩
  · have hin : i = vs.length := by omega
    subst hin
    refine W.done _ _ _ ⟨hst', hl⟩ fun h₁ tk₁ hk₁ => wpAny_execs_nil ?_
    obtain ⟨F₁, N₁⟩ := next h₁ hk₁
    exact done m' nx h₁ tk₁ hJ F₁ N₁
theorem for_list {E : Value → Shared → Prop} {iter : Expr} {pos : Pos} {m : Str → Option Value} (F₀ : Fr h₀ env.locals s.heap m) (hh : A.handled = none)
    (h : wpAny (model prog w) A (eval iter env) (LsLoop prog w A h₀ env x px body Q) NoE s)
    (hs : ∀ x, foldedSetIterable iter env x = pure x := by intro _; rfl) :
    wpAny (model prog w) A (exec (.For (.Name x px) iter body [] pos) env) Q E s := by
  refine wpAny_mono (Q := Q) (E := NoE) (wpAny_For (wpAny_mono h (fun xv s₁ h₁ => ?_) fun _ _ e => e) hs) (fun _ _ e => e) fun _ _ e => e.elim
  obtain ⟨ax, vs, k, m₀, news, J, rfl, F, N, hj, hax, turn, done⟩ := h₁
  have hl : s₁.heap.IsList ax vs.toArray := News.isList N (hax _ _ _ hj)
  refine wpAny_pyIter_list hl ?_
  refine codeAny_list (R := fun r s' => match r with | .ok f => Q f s' | .error e => cameBackBy (model prog w) A env NoE e s') (m₀ := m₀) (news := news) J hh s₁.heap.objs.size (next_is_new F) (Nat.ne_of_lt F.ns.lt) (fun p hp => Nat.ne_of_lt (Heap.lt_size (N p hp).1)) ⟨_, Heap.get?_push_size _ rfl, rfl, rfl⟩ (F.push _) (fun p hp => ⟨Heap.get?_push_of_some _ (N p hp).1, (N p hp).2⟩) hj hax ?_ ?_
  · intro i v m₁ nx h tk oI a b c d e
    exact turn i v m₁ nx h tk _ oI a b c d e
  · exact done
end
theorem wpAny_toks' {α : Type} {M : Model} {A : Around} {t : Sem α} {Q : α → Shared → Prop} {E : Value → Shared → Prop} {s : Shared} (h : ∀ tk, wpAny M A t Q E ⟨s.heap, s.gens, s.drawn, tk, s.os⟩) : wpAny M A t Q E s := h s.toks
/-- an optional int, as a value -/
def OV (v : Value) (a : Option Int) : Prop := (v = .none ∧ a = none) ∨ ∃ n t, v = .int n t ∧ a = some n
/-- what _law_filled gives back, its tuple taken apart -/
def FilledAt (w : World) (bag : List (Addr × Obj)) (nm : Str) (x rws : Addr) (last : Value) : Prop :=
  ∃ dx se o oe rows k nn lel kvs els tn, (x, instObj 229 dx) ∈ bag ∧ (dx, o) ∈ bag ∧ (se, oe) ∈ bag ∧ (rws, listOf rows.toArray k) ∈ bag ∧
    IsSp w.params o (.str nm tn) nn (.ref se) lel ∧ oe.IsDictOf (Iz w) kvs ∧ (se == sysModules) = false ∧ els.length ≤ 100 ∧ Same lel last ∧ Tie w.params bag kvs rows els
local macro_rules | `(tactic| walk_at "z14") => `(tactic| (k_here; k_dflt (refine' kda_set (knd := PySem.strKind _ _) ?F ?N ?U ?d (strKind_is _ _ _ _) ?z ?_; (case F => k_asm); (case N => k_asm); (case U => k_updF); (case d => k_asm); (case z => walk_at "zl")); intro h' o' F' N' hd'; (try dsimp only at N'); (try k_sweep)))
section
local macro_rules | `(tactic| walk_at "call ref") => `(tactic| (k_here; refine held ?_))
set_option maxHeartbeats 8000000 in
theorem e_init : ∀ {w : World} {mean : ExcName → Option Value} {mg mb : Str → Option Value} {dp un : Nat} {gd : Option (List Code)} {outer : List Env} {A₀ : Around} {base h₀ : Heap} {L : Addr} {m : Str → Option Value} {s : Shared} {tl : List Stmt} {Q : Flow → Shared → Prop} {E : Value → Shared → Prop} {rest : List (Addr × Obj)} 
    (B : Below A₀ base outer h₀) (F : Fr h₀ L s.heap m) (X : (heapK w.params).In h₀) (N : News h₀ L s.heap (rest)) (T : Top vw (looseW vw []) mean mg mb h₀) (hdp : dp < 335) (hu : un < 335)
    (hret : ∀ sp as oas h' tk' m', Fr h₀ L h' m' → m' (Str.ofString "spaces") = some (.ref sp) → m' (Str.ofString "asked") = some (.ref as) → Off [Str.ofString "spaces", Str.ofString "asked"] m m' → News h₀ L h' ((as, oas) :: (sp, listOf #[] 0) :: rest) → oas.IsDictOf (Dz w) [] → (as == sysModules) = false → AllLt sp rest → AllLt as rest → @LT.lt Nat _ sp as → wpAny (model PySem.Challenge.rw_no0077_01.row.prog w) (ktrTop dp un gd (Str.ofString "_law_end") (fnScope 26) L 262 (.ref 261) (cellsFrom (L + 1) (fnScope 26).names []) outer) (execs tl (envOfC (Str.ofString "_law_end") (fnScope 26) L 262 (.ref 261))) Q E { s with heap := h', toks := tk' }),
    wpAny (model PySem.Challenge.rw_no0077_01.row.prog w) (ktrTop dp un gd (Str.ofString "_law_end") (fnScope 26) L 262 (.ref 261) (cellsFrom (L + 1) (fnScope 26).names []) outer) (execs ((stAt (fnBody 26) 0) :: tl) (envOfC (Str.ofString "_law_end") (fnScope 26) L 262 (.ref 261))) Q E s := by
  k_fill
  intro w mean mg mb dp un gd outer A₀ base h₀ L m s tl Q E rest  B F X N T hdp hu  hret
  walk_at "zwa"
  k_steps
  try dsimp only
  (rename Fr _ _ _ _ => kF); (rename News _ _ _ _ => kN)
  refine' hret _ _ _ _ _ _ kF ?za ?zb ?zn (News.sub kN ?zk) ?y1 ?y2 ?y3 ?y4 ?y5
  case za => rfl
  case zb => rfl
  case zk => exact (by walk_at "zs")
  all_goals first | assumption | skip
  case zn => exact (by intro y hy; simp only [List.mem_cons, List.not_mem_nil, or_false, not_or] at hy; simp only [hy, if_false])
set_option maxHeartbeats 8000000 in
theorem e_call : ∀ {w : World} {mean : ExcName → Option Value} {mg mb : Str → Option Value} {dp un : Nat} {gd : Option (List Code)} {outer : List Env} {A₀ : Around} {base h₀ : Heap} {L : Addr} {m : Str → Option Value} {s : Shared} {tl : List Stmt} {Q : Flow → Shared → Prop} {E : Value → Shared → Prop} {rest : List (Addr × Obj)} {d : Addr} {od oc : Obj} {nm : Str} {tn tm : Tok} {most : Int}
    (B : Below A₀ base outer h₀) (F : Fr h₀ L s.heap m) (X : (heapK w.params).In h₀) (N : News h₀ L s.heap ((d, od) :: (L + 1, oc) :: rest)) (T : Top vw (looseW vw []) mean mg mb h₀) (hdp : dp < 335) (hu : un < 335)
    (hc : oc.data = .cell (some (.ref d))) (r1 : m (Str.ofString "name") = some (.str nm tn)) (r2 : m (Str.ofString "most") = some (.int most tm)) (hoff : ∀ p ∈ rest, p.1 ≠ d) (hdc : L + 1 ≠ d) (hlo : (d == sysModules) = false) (hdr : IsDraws w od) (v1 : 0 < most) (v2 : most ≤ 4)
    (hret : ∀ new od' x rws last h' tk' m', Fr h₀ L h' m' → m' (Str.ofString "space") = some (.ref x) → m' (Str.ofString "rows") = some (.ref rws) → m' (Str.ofString "last") = some (last) → Off [Str.ofString "space", Str.ofString "rows", Str.ofString "last"] m m' → News h₀ L h' ((d, od') :: (new ++ (L + 1, oc) :: rest)) → IsDraws w od' → FilledAt w new nm x rws last → (∀ p ∈ new, p.1 ≠ d) → (∀ p ∈ new, ∀ q ∈ (L + 1, oc) :: rest, p.1 ≠ q.1) → wpAny (model PySem.Challenge.rw_no0077_01.row.prog w) (ktrTop dp un gd (Str.ofString "_law_end") (fnScope 26) L 262 (.ref 261) (cellsFrom (L + 1) (fnScope 26).names []) outer) (execs tl (envOfC (Str.ofString "_law_end") (fnScope 26) L 262 (.ref 261))) Q E { s with heap := h', toks := tk' }),
    wpAny (model PySem.Challenge.rw_no0077_01.row.prog w) (ktrTop dp un gd (Str.ofString "_law_end") (fnScope 26) L 262 (.ref 261) (cellsFrom (L + 1) (fnScope 26).names []) outer) (execs ((stAt (forBody (stAt (fnBody 26) 1)) 0) :: tl) (envOfC (Str.ofString "_law_end") (fnScope 26) L 262 (.ref 261))) Q E s := by
  k_fill
  intro w mean mg mb dp un gd outer A₀ base h₀ L m s tl Q E rest d od oc nm tn tm most B F X N T hdp hu hc r1 r2 hoff hdc hlo hdr v1 v2 hret
  walk_at "zwa"
  k_steps
  (show wpAny _ _ (call (Value.ref 257) _) _ _ _)
  k_dflt ((refine' filled_call (N := ?N) ?B ?F ?X ?T ?k ?d ?u ?dr ?lo ?o ?v1 ?v2 ?_; (case N => k_asm); (case B => k_asm); (case F => k_asm); (case X => k_asm); (case T => k_asm); (case k => exact rfl); (case d => walk_at "zr"); (case u => walk_at "zu"); (case dr => assumption); (case lo => assumption); (case o => k_all); (case v1 => assumption); (case v2 => assumption); k_whole); intro tup od1 new h1 tk1 F1 N1 hd1 FI off1 ap1; (try dsimp only); (try k_sweep))
  obtain ⟨x, dx, se, rws, o, oe, rows, k, nn, lel, last, kvs, els, tn2, kt, m0, m1, m2, m3, m4, hs, he, lo, hel, same, tie⟩ := FI
  have N2 := News.sub N1 (l' := (tup, _) :: (d, od1) :: (new ++ (L + 1, oc) :: rest)) (by
    refine List.forall_mem_cons.mpr ⟨.tail _ (List.mem_append.mpr (.inl m0)), fun p hp => hp⟩)
  clear N1
  (try clear N)
  k_steps
  try dsimp only
  (rename Fr _ _ _ _ => kF); (rename News _ _ _ _ => kN)
  refine' hret new od1 x rws last _ _ _ kF ?za ?zb ?zc ?zn (News.drop1 kN) hd1 ⟨dx, se, o, oe, rows, k, nn, lel, kvs, els, tn2, m1, m2, m3, m4, hs, he, lo, hel, same, tie⟩ off1 ap1
  case za => rfl
  case zb => rfl
  case zc => rfl
  case zn => exact (by intro y hy; simp only [List.mem_cons, List.not_mem_nil, or_false, not_or] at hy; simp only [hy, if_false])
set_option maxHeartbeats 8000000 in
theorem e_app : ∀ {w : World} {mean : ExcName → Option Value} {mg mb : Str → Option Value} {dp un : Nat} {gd : Option (List Code)} {outer : List Env} {A₀ : Around} {base h₀ : Heap} {L : Addr} {m : Str → Option Value} {s : Shared} {tl : List Stmt} {Q : Flow → Shared → Prop} {E : Value → Shared → Prop} {rest : List (Addr × Obj)} {x sp : Addr} {sps : Array Value} {k : Nat}
    (B : Below A₀ base outer h₀) (F : Fr h₀ L s.heap m) (X : (heapK w.params).In h₀) (N : News h₀ L s.heap ((sp, listOf sps k) :: rest)) (T : Top vw (looseW vw []) mean mg mb h₀) (hdp : dp < 335) (hu : un < 335)
    (r1 : m (Str.ofString "space") = some (.ref x)) (r2 : m (Str.ofString "spaces") = some (.ref sp)) (hsz : sps.size ≤ 100) (o1 : ∀ p ∈ rest, p.1 ≠ sp)
    (hret : ∀ k' h' tk', Fr h₀ L h' m → News h₀ L h' ((sp, listOf (sps.push (.ref x)) k') :: rest) → wpAny (model PySem.Challenge.rw_no0077_01.row.prog w) (ktrTop dp un gd (Str.ofString "_law_end") (fnScope 26) L 262 (.ref 261) (cellsFrom (L + 1) (fnScope 26).names []) outer) (execs tl (envOfC (Str.ofString "_law_end") (fnScope 26) L 262 (.ref 261))) Q E { s with heap := h', toks := tk' }),
    wpAny (model PySem.Challenge.rw_no0077_01.row.prog w) (ktrTop dp un gd (Str.ofString "_law_end") (fnScope 26) L 262 (.ref 261) (cellsFrom (L + 1) (fnScope 26).names []) outer) (execs ((stAt (forBody (stAt (fnBody 26) 1)) 1) :: tl) (envOfC (Str.ofString "_law_end") (fnScope 26) L 262 (.ref 261))) Q E s := by
  k_fill
  intro w mean mg mb dp un gd outer A₀ base h₀ L m s tl Q E rest x sp sps k B F X N T hdp hu r1 r2 hsz o1 hret
  walk_at "zwe"
  k_steps
  try dsimp only
  (rename Fr _ _ _ _ => kF); (rename News _ _ _ _ => kN)
  exact hret _ _ _ kF kN
local macro_rules | `(tactic| walk_at "eval Name") => `(tactic| walk_at "z10")
local macro_rules | `(tactic| walk_at "eval ListComp") => `(tactic| (k_here; refine held ?_))
local macro_rules | `(tactic| walk_at "compareOp NotEq ref ref") => `(tactic| walk_at "z7")
local macro_rules | `(tactic| walk_at "setItem ref str") => `(tactic| walk_at "z14")
set_option maxHeartbeats 8000000 in
theorem e_ask : ∀ {w : World} {mean : ExcName → Option Value} {mg mb : Str → Option Value} {dp un : Nat} {gd : Option (List Code)} {outer : List Env} {A₀ : Around} {base h₀ : Heap} {L : Addr} {m : Str → Option Value} {s : Shared} {tl : List Stmt} {Q : Flow → Shared → Prop} {E : Value → Shared → Prop} {rest : List (Addr × Obj)} {as rws : Addr} {oas : Obj} {nm : Str} {tn : Tok} {last : Value} {rows : List Value} {k : Nat} {P : Params} {kvs : List (Int × Value)} {els : List (Int × Bool)} {avs : List (Str × Value)}
    (B : Below A₀ base outer h₀) (F : Fr h₀ L s.heap m) (X : (heapK w.params).In h₀) (N : News h₀ L s.heap ((as, oas) :: rest)) (T : Top vw (looseW vw []) mean mg mb h₀) (hdp : dp < 335) (hu : un < 335)
    (r1 : m (Str.ofString "name") = some (.str nm tn)) (r2 : m (Str.ofString "asked") = some (.ref as)) (r3 : m (Str.ofString "rows") = some (.ref rws)) (r4 : m (Str.ofString "last") = some (last)) (o1 : ∀ p ∈ rest, p.1 ≠ as) (has : oas.IsDictOf (Dz w) avs) (hal : avs.length ≤ 100) (hlo : (as == sysModules) = false) (mr : (rws, listOf rows.toArray k) ∈ rest) (ht : Tie P rest kvs rows els) (hel : els.length ≤ 100)
    (hret : ∀ oas' h' tk', Fr h₀ L h' m → News h₀ L h' ((as, oas') :: rest) → oas'.IsDictOf (Dz w) (stored avs nm (if 0 < (els.filter (·.2)).length then last else .none)) → wpAny (model PySem.Challenge.rw_no0077_01.row.prog w) (ktrTop dp un gd (Str.ofString "_law_end") (fnScope 26) L 262 (.ref 261) (cellsFrom (L + 1) (fnScope 26).names []) outer) (execs tl (envOfC (Str.ofString "_law_end") (fnScope 26) L 262 (.ref 261))) Q E { s with heap := h', toks := tk' }),
    wpAny (model PySem.Challenge.rw_no0077_01.row.prog w) (ktrTop dp un gd (Str.ofString "_law_end") (fnScope 26) L 262 (.ref 261) (cellsFrom (L + 1) (fnScope 26).names []) outer) (execs ((stAt (forBody (stAt (fnBody 26) 1)) 2) :: tl) (envOfC (Str.ofString "_law_end") (fnScope 26) L 262 (.ref 261))) Q E s := by
  k_fill
  intro w mean mg mb dp un gd outer A₀ base h₀ L m s tl Q E rest as rws oas nm tn last rows k P kvs els avs B F X N T hdp hu r1 r2 r3 r4 o1 has hal hlo mr ht hel hret
  walk_at "zwa"
  k_steps
  (show wpAny _ _ _ _ _ _)
  refine' comp_e (askP rest) (fun v y => y = v) F ?q1 ?q2 ?q3 ?q4 ?q5 ?q6 ?q7
  case q1 => with_unfolding_all rfl
  case q2 => decide
  case q3 => with_unfolding_all rfl
  case q4 => decide
  case q5 => with_unfolding_all rfl
  case q7 => intro _; with_unfolding_all rfl
  k_steps
  have hrl : rows.length ≤ 100 := by rw [ht.len.2]; exact hel
  refine' ⟨_, m, _, Src.list (by rfl) F N (News.isList N (.tail _ mr)) ?sz, ⟨?t, ?e⟩, ?q⟩
  case sz => rw [sizeLine_eq]; omega
  case t =>
    intro C v s₂ m₂ E' hv hn hm F2 N2
    obtain ⟨n', b, hb⟩ := ht.row v hv
    rw [show askP rest v = b from askP_eq (News.sub N2 (fun _ h => .tail _ h)) hb]
    obtain ⟨r, q, tn', tm', tt', rfl, h1⟩ := hb
    have N3 := News.sub N2 (l' := [(r, _)]) (List.forall_mem_cons.mpr ⟨.tail _ h1, List.forall_mem_nil _⟩)
    clear N2 N
    k_steps
    all_goals first | exact rfl | exact ⟨_, _, rfl, fun _ _ e => e⟩
  case e =>
    intro C v s₂ m₂ E' hv hp hn hm F2 N2
    clear N2 N
    k_steps
    all_goals first | exact rfl | exact ⟨_, _, rfl, fun _ _ e => e⟩
  case q =>
    intro D ys k3 h3 tk3 N3 ne3 hP3 F3
    have hy := paired_eq hP3
    subst hy
    have hly := ht.anyRow (p := askP rest) (fun v n b hb => askP_eq (News.sub N (fun _ h => .tail _ h)) hb)
    clear N
    simp only [List.forall_mem_cons] at ne3
    walk_at "zc"
    k_steps
    · (try dsimp only); (rename Fr _ _ _ _ => kF); (rename News _ _ _ _ => kN); (rename _ = true => hb); (rename Obj.IsDictOf _ _ (stored _ _ _) => hd)
      have hq : 0 < (els.filter (·.2)).length := by rw [← hly]; simp only [List.size_toArray, bne_iff_ne, ne_eq] at hb; omega
      rw [if_pos hq] at hret
      exact hret _ _ _ kF (News.sub kN (by walk_at "zs")) hd
    · (try dsimp only); (rename Fr _ _ _ _ => kF); (rename News _ _ _ _ => kN); (rename _ = false => hb); (rename Obj.IsDictOf _ _ (stored _ _ _) => hd)
      have hq : ¬ 0 < (els.filter (·.2)).length := by rw [← hly]; simp only [List.size_toArray, bne_eq_false_iff_eq] at hb; omega
      rw [if_neg hq] at hret
      exact hret _ _ _ kF (News.sub kN (by walk_at "zs")) hd
end
def names3 : List Str := [Str.ofString "initial", Str.ofString "handshake", Str.ofString "application"]
def SpIn (w : World) (bag : List (Addr × Obj)) (v : Value) (nm : Str) (a : Option Int) : Prop :=
  ∃ x dx se o oe rows nn lel kvs els tn, v = .ref x ∧ (x, instObj 229 dx) ∈ bag ∧ (dx, o) ∈ bag ∧ (se, oe) ∈ bag ∧ IsSp w.params o (.str nm tn) nn (.ref se) lel ∧ oe.IsDictOf (Iz w) kvs ∧ (se == sysModules) = false ∧
    els.length ≤ 100 ∧ Tie w.params bag kvs rows els ∧ (if 0 < (els.filter (·.2)).length then OV lel a else a = none)
structure En where
  nm : Str
  sv : Value
  av : Value
  a : Option Int
def EnOK (w : World) (bag : List (Addr × Obj)) (e : En) : Prop := SpIn w bag e.sv e.nm e.a ∧ OV e.av e.a
theorem SpIn.mono {w : World} {bag bag' : List (Addr × Obj)} {v : Value} {nm : Str} {a : Option Int} (h : SpIn w bag v nm a) (k : ∀ p ∈ bag, p ∈ bag') : SpIn w bag' v nm a := by
  obtain ⟨x, dx, se, o, oe, rows, nn, lel, kvs, els, tn, h0, h1, h2, h3, h4, h5, h6, h7, h8, h9⟩ := h
  exact ⟨x, dx, se, o, oe, rows, nn, lel, kvs, els, tn, h0, k _ h1, k _ h2, k _ h3, h4, h5, h6, h7, h8.mono k, h9⟩
theorem EnOK.mono {w : World} {bag bag' : List (Addr × Obj)} {e : En} (h : EnOK w bag e) (k : ∀ p ∈ bag, p ∈ bag') : EnOK w bag' e := ⟨h.1.mono k, h.2⟩
theorem same_ov {a b : Value} (h : Same a b) : ∃ o, OV a o ∧ OV b o := by
  rcases h with ⟨rfl, rfl⟩ | ⟨n, t, u, rfl, rfl⟩
  · exact ⟨none, .inl ⟨rfl, rfl⟩, .inl ⟨rfl, rfl⟩⟩
  · exact ⟨some n, .inr ⟨_, _, rfl, rfl⟩, .inr ⟨_, _, rfl, rfl⟩⟩
theorem FilledAt.en {w : World} {bag : List (Addr × Obj)} {nm : Str} {x rws : Addr} {last : Value} (h : FilledAt w bag nm x rws last) : ∃ rows k kvs els, (rws, listOf rows.toArray k) ∈ bag ∧ Tie w.params bag kvs rows els ∧ els.length ≤ 100 ∧
    ∃ a, EnOK w bag ⟨nm, .ref x, if 0 < (els.filter (·.2)).length then last else .none, a⟩ := by
  obtain ⟨dx, se, o, oe, rows, k, nn, lel, kvs, els, tn, h1, h2, h3, h4, h5, h6, h7, h8, h9, ht⟩ := h
  obtain ⟨a, ha, hb⟩ := same_ov h9
  refine ⟨rows, k, kvs, els, h4, ht, h8, if 0 < (els.filter (·.2)).length then a else none, ⟨x, dx, se, o, oe, rows, nn, lel, kvs, els, tn, rfl, h1, h2, h3, h5, h6, h7, h8, ht, ?_⟩, ?_⟩
  · by_cases hq : 0 < (els.filter (·.2)).length
    · simp only [if_pos hq]; exact ha
    · simp only [if_neg hq]
  · show OV (if 0 < (els.filter (·.2)).length then last else .none) _
    by_cases hq : 0 < (els.filter (·.2)).length
    · simp only [if_pos hq]; exact hb
    · simp only [if_neg hq]; exact .inl ⟨rfl, rfl⟩
theorem stored_newS {kvs : List (Str × Value)} {n : Str} {v : Value} (h : ∀ e ∈ kvs, e.1 ≠ n) : stored kvs n v = kvs ++ [(n, v)] := by
  unfold stored
  rw [if_neg]
  simp only [List.any_eq_true, not_exists, not_and, decide_eq_true_eq]
  exact fun e he => h e he
theorem names3_new : ∀ i : Fin 3, ∀ n ∈ names3.take i.val, n ≠ names3[i.val]! := by decide +kernel
abbrev nmL (t1 t2 t3 : Tok) : List Value := [.str (Str.ofString "initial") t1, .str (Str.ofString "handshake") t2, .str (Str.ofString "application") t3]
theorem nmL_at {t1 t2 t3 : Tok} {i : Nat} {v : Value} (h : (nmL t1 t2 t3)[i]? = some v) : ∃ nm t, v = .str nm t ∧ names3.take (i + 1) = names3.take i ++ [nm] ∧ ∀ n ∈ names3.take i, n ≠ nm := by
  match i, h with
  | 0, h => simp at h; exact ⟨_, _, h.symm, rfl, fun n hn => nomatch hn⟩
  | 1, h => simp at h; exact ⟨_, _, h.symm, rfl, names3_new 1⟩
  | 2, h => simp at h; exact ⟨_, _, h.symm, rfl, names3_new 2⟩
  | i + 3, h => simp at h
def EReads (m : Str → Option Value) (fd sp as : Addr) (most : Int) (tm : Tok) : Prop := m (Str.ofString "facts") = some (.ref fd) ∧ m (Str.ofString "most") = some (.int most tm) ∧ m (Str.ofString "spaces") = some (.ref sp) ∧ m (Str.ofString "asked") = some (.ref as)
structure JEI (w : World) (d sp as c fd ax : Addr) (oc ofd : Obj) (t1 t2 t3 : Tok) (i : Nat) (nx : List (Addr × Obj)) (od oas : Obj) (k : Nat) (bag : List (Addr × Obj)) (es : List En) : Prop where
  nx : nx = (d, od) :: (c, oc) :: (sp, listOf (es.map (·.sv)).toArray k) :: (as, oas) :: (fd, ofd) :: (ax, listOf (nmL t1 t2 t3).toArray 0) :: bag
  dr : IsDraws w od
  di : oas.IsDictOf (Dz w) (es.map fun e => (e.nm, e.av))
  nms : es.map (·.nm) = names3.take i
  ok : ∀ e ∈ es, EnOK w bag e
  o1 : ∀ p ∈ bag, p.1 ≠ d
  o2 : ∀ p ∈ bag, p.1 ≠ c
  o3 : ∀ p ∈ bag, p.1 ≠ sp
  o4 : ∀ p ∈ bag, p.1 ≠ as
  o5 : ∀ p ∈ bag, p.1 ≠ fd
def JE (w : World) (d sp as c fd ax : Addr) (oc ofd : Obj) (t1 t2 t3 : Tok) (most : Int) (tm : Tok) (i : Nat) (m : Str → Option Value) (nx : List (Addr × Obj)) : Prop :=
  ∃ od oas k bag es, JEI w d sp as c fd ax oc ofd t1 t2 t3 i nx od oas k bag es ∧ EReads m fd sp as most tm
/-- the addresses that the law holds in hand stand apart -/
structure ENe (d c sp as fd ax : Addr) : Prop where
  n1 : c ≠ d
  n2 : sp ≠ d
  n3 : as ≠ d
  n4 : fd ≠ d
  n5 : ax ≠ d
  n6 : c ≠ sp
  n7 : as ≠ sp
  n8 : fd ≠ sp
  n9 : ax ≠ sp
  na : c ≠ as
  nb : fd ≠ as
  nc : ax ≠ as
  nd : c ≠ fd
  ne : ax ≠ fd
theorem body26 : forBody (stAt (fnBody 26) 1) = [stAt (forBody (stAt (fnBody 26) 1)) 0, stAt (forBody (stAt (fnBody 26) 1)) 1, stAt (forBody (stAt (fnBody 26) 1)) 2] := by kernel_rfl
section
set_option maxHeartbeats 8000000 in
theorem e_turn {w : World} {mean : ExcName → Option Value} {mg mb : Str → Option Value} {dp un : Nat} {gd : Option (List Code)} {outer : List Env} {A₀ : Around} {base h₀ : Heap} {L : Addr} {m : Str → Option Value} {s : Shared} {Q : Flow → Shared → Prop}
    {d sp as fd ax : Addr} {oc ofd : Obj} {t1 t2 t3 : Tok} {nx : List (Addr × Obj)} {most : Int} {tm : Tok} {i : Nat} {I : Addr} {oI : Obj} {v : Value} {px : Pos}
    (B : Below A₀ base outer h₀) (F : Fr h₀ L s.heap m) (X : (heapK w.params).In h₀) (N : News h₀ L s.heap ((I, oI) :: nx)) (T : Top vw (looseW vw []) mean mg mb h₀) (hdp : dp < 335) (hu : un < 335)
    (hlo : (d == sysModules) = false) (hlo2 : (as == sysModules) = false) (v1 : 0 < most) (v2 : most ≤ 4) (hc : oc.data = .cell (some (.ref d))) (nn : ENe d (L + 1) sp as fd ax) (hne : ∀ p ∈ nx, p.1 ≠ I) (hv : (nmL t1 t2 t3)[i]? = some v) (hJ : JE w d sp as (L + 1) fd ax oc ofd t1 t2 t3 most tm i m nx) :
    wpAny (model PySem.Challenge.rw_no0077_01.row.prog w) (ktrTop dp un gd (Str.ofString "_law_end") (fnScope 26) L 262 (.ref 261) (cellsFrom (L + 1) (fnScope 26).names []) outer) (assign (.Name (Str.ofString "name") px) (envOfC (Str.ofString "_law_end") (fnScope 26) L 262 (.ref 261)) v) (fun _ s₂ => wpAny (model PySem.Challenge.rw_no0077_01.row.prog w) (ktrTop dp un gd (Str.ofString "_law_end") (fnScope 26) L 262 (.ref 261) (cellsFrom (L + 1) (fnScope 26).names []) outer) (execs (forBody (stAt (fnBody 26) 1)) (envOfC (Str.ofString "_law_end") (fnScope 26) L 262 (.ref 261)) ) (RgPost h₀ L (JE w d sp as (L + 1) fd ax oc ofd t1 t2 t3 most tm (i + 1)) I oI s Q) NoE s₂) NoE s := by
  k_fill
  rw [body26]
  obtain ⟨nm, tn, rfl, hnm, hnew⟩ := nmL_at hv
  obtain ⟨od, oas, k, bag, es, H, hr⟩ := hJ
  obtain ⟨rfl, dr, di, nms, ok, o1, o2, o3, o4, o5⟩ := H
  obtain ⟨n1, n2, n3, n4, n5, n6, n7, n8, n9, na, nb, nc, nd, ne⟩ := nn
  obtain ⟨r1, r2, r3, r4⟩ := hr
  have hel : es.length ≤ 3 := by
    have := congrArg List.length nms
    rw [List.length_map, List.length_take] at this
    exact this ▸ Nat.le_trans (Nat.min_le_right ..) (by decide)
  simp only [List.forall_mem_cons] at hne
  walk_at "zc"
  walk1
  walk1
  (rename Fr _ _ _ _ => F1); (rename News _ _ _ _ => N1)
  have off0 : Off [Str.ofString "name"] m (fun y => if y = Str.ofString "name" then some (.str nm tn) else m y) := (by intro y hy; simp only [List.mem_cons, List.not_mem_nil, or_false, not_or] at hy; simp only [hy, if_false])
  replace r1 := off0.get r1
  replace r2 := off0.get r2
  replace r3 := off0.get r3
  replace r4 := off0.get r4
  refine' e_call  B ?F1 X (News.pull2 ?P1_1 ?P2_1 ?N1) T hdp hu ?z0_1 ?z1_1 ?z2_1 ?z3_1 ?z4_1 ?z5_1 ?z6_1 ?z7_1 ?z8_1 ?hr1
  case F1 => with_reducible assumption
  case z0_1 => exact hc
  case z1_1 => exact rfl
  case z2_1 => exact r2
  case N1 => with_reducible assumption
  case P1_1 => walk_at "zp"
  case P2_1 => walk_at "zp"
  case z3_1 => k_all
  case z4_1 => assumption
  case z5_1 => exact hlo
  case z6_1 => exact dr
  case z7_1 => exact v1
  case z8_1 => exact v2
  intro new od1 x rws last h2 tk2 m2 F2 rx rr rl off2 N2 dr1 FA of1 ap1
  try dsimp only
  replace r1 := off2.get r1
  replace r2 := off2.get r2
  replace r3 := off2.get r3
  replace r4 := off2.get r4
  have rnm : m2 (Str.ofString "name") = some (.str nm tn) := off2.get rfl
  obtain ⟨rows, kr, kvs, els, mr, tie, hel2, a, hen⟩ := FA.en
  simp only [List.forall_mem_cons] at ap1
  have apI : ∀ p ∈ new, p.1 ≠ I := fun p hp => (ap1 p hp).2.1
  have apS : ∀ p ∈ new, p.1 ≠ sp := fun p hp => (ap1 p hp).2.2.1
  have apA : ∀ p ∈ new, p.1 ≠ as := fun p hp => (ap1 p hp).2.2.2.1
  have apF : ∀ p ∈ new, p.1 ≠ fd := fun p hp => (ap1 p hp).2.2.2.2.1
  have apC : ∀ p ∈ new, p.1 ≠ L + 1 := fun p hp => (ap1 p hp).1
  clear ap1
  have q1 : ∀ p ∈ new ++ bag, p.1 ≠ d := all_ne_app of1 o1
  have q2 : ∀ p ∈ new ++ bag, p.1 ≠ L + 1 := all_ne_app apC o2
  have q3 : ∀ p ∈ new ++ bag, p.1 ≠ sp := all_ne_app apS o3
  have q4 : ∀ p ∈ new ++ bag, p.1 ≠ as := all_ne_app apA o4
  have q5 : ∀ p ∈ new ++ bag, p.1 ≠ fd := all_ne_app apF o5
  have qI : ∀ p ∈ new ++ bag, p.1 ≠ I := all_ne_app apI (by assumption)
  have N3 := News.sub N2 (l' := (sp, listOf (es.map (·.sv)).toArray k) :: (as, oas) :: (d, od1) :: (I, oI) :: (L + 1, oc) :: (fd, ofd) :: (ax, listOf (nmL t1 t2 t3).toArray 0) :: (new ++ bag)) (by
    walk_at "zm")
  clear N2
  refine' e_app  B ?F2 X (Pull.news ?P1_2 ?N2) T hdp hu ?z0_2 ?z1_2 ?z2_2 ?z3_2 ?hr2
  case F2 => with_reducible assumption
  case z0_2 => exact rx
  case z1_2 => exact r3
  case N2 => with_reducible assumption
  case P1_2 => walk_at "zp"
  case z2_2 => (rw [List.size_toArray, List.length_map]; exact Nat.le_trans hel (by decide))
  case z3_2 => k_all
  intro k2 h3 tk3 F3 N4
  try dsimp only
  refine' e_ask (P := w.params) B ?F3 X (Pull.news ?P1_3 ?N3) T hdp hu ?z0_3 ?z1_3 ?z2_3 ?z3_3 ?z4_3 ?z5_3 ?z6_3 ?z7_3 ?z8_3 ?z9_3 ?z10_3 ?hr3
  case F3 => with_reducible assumption
  case z0_3 => exact rnm
  case z1_3 => exact r4
  case z2_3 => exact rr
  case z3_3 => exact rl
  case N3 => with_reducible assumption
  case P1_3 => walk_at "zp"
  case z4_3 => k_all
  case z5_3 => exact di
  case z6_3 => (rw [List.length_map]; exact Nat.le_trans hel (by decide))
  case z7_3 => exact hlo2
  case z8_3 => exact (by repeat (first | exact List.mem_append.mpr (.inl mr) | apply List.Mem.tail))
  case z9_3 => exact tie.mono (by intro p hp; repeat (first | exact List.mem_append.mpr (.inl hp) | apply List.Mem.tail))
  case z10_3 => exact hel2
  intro oas3 h4 tk4 F4 N5 di3
  try dsimp only
  refine wpAny_execs_nil ?_
  have hnew2 : ∀ e ∈ es.map (fun e => (e.nm, e.av)), e.1 ≠ nm := by
    intro e he
    obtain ⟨f, hf, rfl⟩ := List.mem_map.mp he
    exact hnew _ (nms ▸ List.mem_map_of_mem hf)
  rw [stored_newS hnew2] at di3
  refine ⟨h4, tk4, m2, (d, od1) :: (L + 1, oc) :: (sp, listOf ((es ++ [(⟨nm, .ref x, if 0 < (els.filter (·.2)).length then last else .none, a⟩ : En)]).map (·.sv)).toArray k2) :: (as, oas3) :: (fd, ofd) :: (ax, listOf (nmL t1 t2 t3).toArray 0) :: (new ++ bag), rfl, F4, ?nx, ?off, od1, oas3, k2, new ++ bag, es ++ [(⟨nm, .ref x, if 0 < (els.filter (·.2)).length then last else .none, a⟩ : En)], { nx := rfl, dr := dr1, di := ?di, nms := ?nms, ok := ?ok, o1 := q1, o2 := q2, o3 := q3, o4 := q4, o5 := q5 }, r1, r2, r3, r4⟩
  case nx =>
    have e : ((es ++ [(⟨nm, .ref x, if 0 < (els.filter (·.2)).length then last else .none, a⟩ : En)]).map (·.sv)).toArray = (es.map (·.sv)).toArray.push (.ref x) := by simp
    rw [e]
    exact News.sub N5 (by walk_at "zs")
  case off => k_all
  case di => simpa using di3
  case nms => rw [List.map_append, nms, hnm]; rfl
  case ok =>
    intro e he
    rcases List.mem_append.mp he with he | he
    · exact (ok e he).mono fun p hp => List.mem_append.mpr (.inr hp)
    · rw [List.mem_singleton.mp he]; exact hen.mono fun p hp => List.mem_append.mpr (.inl hp)
end
section
local macro_rules | `(tactic| walk_at "call ref") => `(tactic| (k_here; refine held ?_))
local macro_rules | `(tactic| walk_at "exec For Name Call cons nil") => `(tactic| (k_here; (rename Fr _ _ _ _ => F9); (with_unfolding_all refine' for_list F9 (by rfl) ?_)))
set_option maxHeartbeats 8000000 in
theorem e_loop : ∀ {w : World} {mean : ExcName → Option Value} {mg mb : Str → Option Value} {dp un : Nat} {gd : Option (List Code)} {outer : List Env} {A₀ : Around} {base h₀ : Heap} {L : Addr} {m : Str → Option Value} {s : Shared} {tl : List Stmt} {Q : Flow → Shared → Prop} {E : Value → Shared → Prop} {d sp as fd : Addr} {od oc ofd oas : Obj} {most : Int} {tm : Tok} {k : Nat}
    (B : Below A₀ base outer h₀) (F : Fr h₀ L s.heap m) (X : (heapK w.params).In h₀) (N : News h₀ L s.heap ((as, oas) :: (sp, listOf #[] k) :: (L + 1, oc) :: (d, od) :: [(fd, ofd)])) (T : Top vw (looseW vw []) mean mg mb h₀) (hdp : dp < 335) (hu : un < 335)
    (hr : EReads m fd sp as most tm) (hc : oc.data = .cell (some (.ref d))) (hlo : (d == sysModules) = false) (hlo2 : (as == sysModules) = false) (v1 : 0 < most) (v2 : most ≤ 4) (hdr : IsDraws w od) (has : oas.IsDictOf (Dz w) []) (n1 : L + 1 ≠ d) (n2 : sp ≠ d) (n3 : as ≠ d) (n4 : fd ≠ d) (n6 : L + 1 ≠ sp) (n7 : as ≠ sp) (n8 : fd ≠ sp) (na : L + 1 ≠ as) (nb : fd ≠ as) (nd : L + 1 ≠ fd)
    (hret : ∀ ax t1 t2 t3 h' tk' m' nx', Fr h₀ L h' m' → JE w d sp as (L + 1) fd ax oc ofd t1 t2 t3 most tm 3 m' nx' → News h₀ L h' nx' → wpAny (model PySem.Challenge.rw_no0077_01.row.prog w) (ktrTop dp un gd (Str.ofString "_law_end") (fnScope 26) L 262 (.ref 261) (cellsFrom (L + 1) (fnScope 26).names []) outer) (execs tl (envOfC (Str.ofString "_law_end") (fnScope 26) L 262 (.ref 261))) Q E { s with heap := h', toks := tk' }),
    wpAny (model PySem.Challenge.rw_no0077_01.row.prog w) (ktrTop dp un gd (Str.ofString "_law_end") (fnScope 26) L 262 (.ref 261) (cellsFrom (L + 1) (fnScope 26).names []) outer) (execs ((stAt (fnBody 26) 1) :: tl) (envOfC (Str.ofString "_law_end") (fnScope 26) L 262 (.ref 261))) Q E s := by
  k_fill
  intro w mean mg mb dp un gd outer A₀ base h₀ L m s tl Q E d sp as fd od oc ofd oas most tm k B F X N T hdp hu hr hc hlo hlo2 v1 v2 hdr has n1 n2 n3 n4 n6 n7 n8 na nb nd hret
  walk_at "zwf"
  obtain ⟨g1, g2, g3, g4⟩ := hr
  k_steps
  (show wpAny _ _ (call (Value.ref 240) []) _ _ _)
  k_dflt ((refine' names_call (N := ?N) ?B ?F ?X ?T ?k ?d ?u ?_; (case N => k_asm); (case B => k_asm); (case F => k_asm); (case X => k_asm); (case T => k_asm); (case k => exact rfl); (case d => walk_at "zr"); (case u => walk_at "zu"); k_whole); intro ax t1 t2 t3 h1 tk1 F1 N1 aX; (try dsimp only); (try k_sweep))
  (simp only [AllLt, and_true] at aX)
  walk_at "zc"
  k_steps
  have nn : ENe d (L + 1) sp as fd ax := ⟨n1, n2, n3, n4, Nat.ne_of_gt (by assumption), n6, n7, n8, Nat.ne_of_gt (by assumption), na, nb, Nat.ne_of_gt (by assumption), nd, Nat.ne_of_gt (by assumption)⟩
  refine' ⟨ax, nmL t1 t2 t3, 0, m, (d, od) :: (L + 1, oc) :: (sp, listOf ([] : List Value).toArray k) :: (as, oas) :: (fd, ofd) :: (ax, listOf (nmL t1 t2 t3).toArray 0) :: [], JE w d sp as (L + 1) fd ax oc ofd t1 t2 t3 most tm, rfl, F1, News.sub N1 (by walk_at "zs"), ⟨od, oas, k, [], [], { nx := rfl, dr := hdr, di := has, nms := rfl, ok := (fun _ h => nomatch h), o1 := (fun _ h => nomatch h), o2 := (fun _ h => nomatch h), o3 := (fun _ h => nomatch h), o4 := (fun _ h => nomatch h), o5 := (fun _ h => nomatch h) }, g1, g2, g3, g4⟩, ?mem, ?turn, ?done⟩
  case mem =>
    intro i m nx hJ
    obtain ⟨od, oas, k, bag, es, H, _⟩ := hJ
    rw [H.nx]
    exact .tail _ (.tail _ (.tail _ (.tail _ (.tail _ (.head _)))))
  case turn =>
    intro i v m₁ nx h tk I oI hv hne hJ F1 N1
    exact e_turn B F1 X N1 T hdp hu hlo hlo2 v1 v2 hc nn hne hv hJ
  case done =>
    intro m₁ nx h tk hJ F1 N1
    exact hret _ _ _ _ _ _ _ _ F1 hJ N1
end
theorem lk_list_keys : typeLookup (.type "list") "keys" = pure none := by rw [typeLookup_type, builtinLookup_eq_fast]; kernel_rfl
theorem lk_list_getattr : typeLookup (.type "list") "__getattr__" = pure none := by rw [typeLookup_type, builtinLookup_eq_fast]; kernel_rfl
section
variable {α : Type} {prog : Program} {w : World} {A : Around} {E : Value → Shared → Prop} {s : Shared}
/-- all that stood stands -/
abbrev Stood (h h' : Heap) : Prop := ∀ b ob, h.get? b = some ob → h'.get? b = some ob
theorem sub_attr_type : isSubtype (.type "type") (.type "type") = pure true := by rw [isSubtype_type]; kernel_rfl
theorem wpAny_raiseAttr {o : Value} {name msg : Str} {Q : α → Shared → Prop} (hh : A.handled = none) (hm : msg.length ≤ sizeLine)
    (h : ∀ h' tk e oe, Stood s.heap h' → h'.get? e = some oe → oe.cls = .type "AttributeError" → E (.ref e) { s with heap := h', toks := tk }) :
    wpAny (model prog w) A (raiseAttrError o name msg : Sem α) Q E s := by
  obtain ⟨hp, g, d, tk, os⟩ := s
  unfold raiseAttrError
  refine wpAny_bind (wpAny_mkStr ?_ hm)
  unfold newExc newTuple
  refine wpAny_bind ?_
  refine wpAny_bind (wpAny_newObj_type ?_)
  refine wpAny_bind (m := firstArgMember _ _) (wpAny_of_eq (a := Value.none) (by kernel_rfl) ?_)
  refine wpAny_newObj_type ?_
  refine wpAny_bind (wpAny_mkText ?_)
  refine wpAny_bind ?_
  dsimp only
  generalize ht : (hp.push _) = hp1
  have st : Stood hp hp1 := by intro b ob e; rw [← ht]; exact Heap.get?_push_of_some _ e
  clear ht
  generalize he : (hp1.push _) = hp2
  obtain ⟨tv, hg⟩ : ∃ tv : Value, hp2.get? hp1.objs.size = some { cls := .type "AttributeError", data := .fields #[tv, .none, .none, .none, .bool false, .none, unsetMember, unsetMember] } := ⟨_, by rw [← he]; exact Heap.get?_push_size _ rfl⟩
  have st2 : Stood hp hp2 := by intro b ob e; rw [← he]; exact Heap.get?_push_of_some _ (st _ _ e)
  have hnew : hp.get? hp1.objs.size = none := by
    cases e : hp.get? hp1.objs.size with
    | none => rfl
    | some ob => exact absurd (Heap.lt_size (st _ _ e)) (Nat.lt_irrefl _)
  clear he
  unfold noteAttr
  have hT : ∀ tk, (⟨hp2, g, d, tk, os⟩ : Shared).TypeIs (.ref hp1.objs.size) "AttributeError" := fun tk => ⟨_, hg, rfl⟩
  have sub : isSubtype (.type "AttributeError") (.type "AttributeError") = pure true := by rw [isSubtype_type]; kernel_rfl
  dsimp only
  refine wpAny_bind ?_
  unfold lacksNameAndObj
  refine wpAny_bind (wpAny_isInstance (hT _) sub ?_)
  rw [if_neg (by decide)]
  refine wpAny_bind (wpAny_load hg ?_)
  show wpAny _ _ (pure true) _ _ _
  refine wpAny_pure ?_
  rw [if_pos rfl]
  refine wpAny_bind (wpAny_rule ?_)
  refine wpAny_bind (wpAny_typeOf (hT _) ?_)
  dsimp only
  unfold layMembers
  refine wpAny_bind (wpAny_load hg ?_)
  dsimp only
  refine wpAny_update hg ?_
  unfold raiseNew
  refine wpAny_bind (wpAny_handled ?_)
  rw [hh]
  first
    | refine wpAny_throw ?_
    | refine wpAny_bind (wpAny_pure (wpAny_throw ?_))
  have sb := Heap.SameBut.update hp2 hp1.objs.size (Obj.mapFields fun vs => vs.extract 0 6 ++ #[Value.str name (tk + 1), o])
  refine h _ _ _ _ (fun b ob e => ?_) (Heap.get?_update_self _ hg rfl) rfl
  exact (sb.2 b (fun q => by rw [q, hnew] at e; cases e)).trans (st2 _ _ e)
end
section
variable {prog : Program} {w : World} {A : Around} {E : Value → Shared → Prop} {h : Heap} {g : Array GenState} {d : Drawn} {t : Nat} {os : OsState} {a : Addr} {o : Obj}
theorem keys_entry_list {tk : Tok} {items : Array Value} {k : Nat} {Q : Fin → Shared → Prop} (hh : A.handled = none) (hx : h.get? a = some { cls := .type "list", data := .seq items k })
   (hq : ∀ h' tk e oe, Stood h h' → h'.get? e = some oe → oe.cls = .type "AttributeError" → E (.ref e) ⟨h', g, d, tk, os⟩) :
    wpAny (model prog w) A (Builtin.«object.__getattribute__» ⟨[.ref a, .str "keys" tk], []⟩) Q E ⟨h, g, d, t, os⟩ := by
  have hT : (⟨h, g, d, t, os⟩ : Shared).TypeIs (.ref a) "list" := ⟨_, hx, rfl⟩
  have f4 := lk_list_keys
  repeat (any_goals (first | assumption | wp_step))
  exact wpAny_raiseAttr hh (by rw [sizeLine_eq]; decide +kernel) hq
theorem keys_call_list {tk : Tok} {items : Array Value} {k : Nat} {R : Result → Shared → Prop} (hh : A.handled = none) (hx : h.get? a = some { cls := .type "list", data := .seq items k })
   (hq : ∀ h' tk e oe, Stood h h' → h'.get? e = some oe → oe.cls = .type "AttributeError" → R (.error (.ref e)) ⟨h', g, d, tk, os⟩) :
    codeAny (model prog w) A (.call (.builtin "list.__getattribute__") ⟨[.ref a, .str "keys" tk], []⟩) R ⟨h, g, d, t, os⟩ :=
  codeAny_call_builtin F.slot_list_getattribute.plain F.entry_list_ga (F.slot_list_getattribute.check _ _ _ _ _ _ _ _ (show (⟨h, g, d, t, os⟩ : Shared).TypeIs (.ref a) "list" from ⟨_, hx, rfl⟩) (F.args_list_getattribute_2 _ _) (keys_entry_list (by simp [hh]) hx hq))
theorem keys_by_list {tk : Tok} {items : Array Value} {k : Nat} {Q : Value → Shared → Prop} (hh : A.handled = none) (hx : h.get? a = some { cls := .type "list", data := .seq items k })
   (hq : ∀ h' tk e oe, Stood h h' → h'.get? e = some oe → oe.cls = .type "AttributeError" → E (.ref e) ⟨h', g, d, tk, os⟩) :
    wpAny (model prog w) A (getAttrBy (.ref a) (.str "keys" tk) false) Q E ⟨h, g, d, t, os⟩ := by
  have hT : (⟨h, g, d, t, os⟩ : Shared).TypeIs (.ref a) "list" := ⟨_, hx, rfl⟩
  have f2 := F.slot_list_getattribute.lookup
  have f3 := F.slot_list_getattribute.bind (.ref a)
  repeat (any_goals (first | assumption | wp_step))
  refine keys_call_list (by simp [hh]) hx fun h' tk e oe st he hc => ?_
  dsimp only
  unfold getattributeRaised
  have sub : isSubtype (.type "AttributeError") (.type "AttributeError") = pure true := by rw [isSubtype_type]; kernel_rfl
  refine wpAny_bind (wpAny_isInstance (s := ⟨h', g, d, tk, os⟩) ⟨_, he, hc⟩ sub ?_)
  rw [if_pos rfl]
  refine wpAny_bind (wpAny_of_eq (t := hookBehind _ _) lk_list_getattr ?_)
  show wpAny _ _ (throw (Value.ref e)) _ _ _
  exact wpAny_throw (hq _ _ _ _ st he hc)
theorem no_keys {items : Array Value} {k : Nat} {Q : Option Value → Shared → Prop} (hh : A.handled = none) (hx : h.get? a = some { cls := .type "list", data := .seq items k })
   (hq : ∀ h' tk, Stood h h' → Q none ⟨h', g, d, tk, os⟩) :
    wpAny (model prog w) A (getAttr? (.ref a) "keys") Q E ⟨h, g, d, t, os⟩ := by
  unfold getAttr? getAttrBy?
  refine wpAny_bind (wpAny_mkText ?_)
  refine wpAny_bind (wpAny_attempt (keys_by_list hh hx fun h' tk e oe st he hc => ?_))
  have sub : isSubtype (.type "AttributeError") (.type "AttributeError") = pure true := by rw [isSubtype_type]; kernel_rfl
  dsimp only
  refine wpAny_bind (wpAny_isInstance (s := ⟨h', g, d, tk, os⟩) ⟨_, he, hc⟩ sub ?_)
  rw [if_pos rfl]
  exact wpAny_pure (hq _ _ st)
end
section
variable {prog : Program} {w : World} {A : Around} {E : Value → Shared → Prop} {s : Shared} {R : Result → Shared → Prop}
theorem entry_upd_loop : entryFor table "dict.update.loop" = some Builtin.«dict.update.loop» := entryFor_of_tree (by kernel_rfl)
theorem plain_upd_loop : plainId "dict.update.loop" = true := by decide +kernel
/-- a pair in a list that a dict is made of -/
def PairAt (h : Heap) (v : Value) (k : Str) (x : Value) : Prop := ∃ a t n, v = .ref a ∧ h.get? a = some { cls := .type "tuple", data := .seq #[.str k t, x] n }
inductive PairsAt (h : Heap) : List Value → List (Str × Value) → Prop
  | nil : PairsAt h [] []
  | cons {v : Value} {k : Str} {x : Value} {vs kvs} : PairAt h v k x → PairsAt h vs kvs → PairsAt h (v :: vs) ((k, x) :: kvs)
theorem PairsAt.at {h : Heap} : ∀ {vs : List Value} {kvs : List (Str × Value)}, PairsAt h vs kvs → vs.length = kvs.length ∧ ∀ (i : Nat) v, vs[i]? = some v → ∃ k x, kvs[i]? = some (k, x) ∧ PairAt h v k x
  | _, _, .nil => ⟨rfl, fun i v e => by simp at e⟩
  | _, _, .cons a t => ⟨congrArg (· + 1) t.at.1, fun i v e => by
      match i, e with
      | 0, e => simp at e; subst e; exact ⟨_, _, rfl, a⟩
      | i + 1, e => simp at e; exact t.at.2 i v e⟩
theorem codeAny_upd_loop {I l d : Addr} {items : List Value} {kvs : List (Str × Value)} {h₁ : Heap} (hh : A.in1.handled = none) (hl : l ≠ I) (hdI : d ≠ I) (hdl : d ≠ l) (hp : PairsAt h₁ items kvs) (hsz : kvs.length ≤ 1000)
    (hpd : ∀ v ∈ items, ∀ a, v = .ref a → a ≠ I ∧ a ≠ d) :
    ∀ (k i : Nat) (s : Shared) (t : Tok), items.length - i = k → i ≤ items.length → s.heap.IsListIter I l i → s.heap.IsList l items.toArray → s.heap.DictOf (strKind prog w) d (merged [] (kvs.take i)) →
      (∀ b ob, b ≠ I → b ≠ d → h₁.get? b = some ob → s.heap.get? b = some ob) →
      (∀ h' tk, h'.DictOf (strKind prog w) d (merged [] kvs) → (∀ b ob, b ≠ I → b ≠ d → s.heap.get? b = some ob → h'.get? b = some ob) → R (.ok (.ret .none)) { s with heap := h', toks := tk }) →
      codeAny (model prog w) A (.builtin "dict.update.loop" ⟨[.ref d, .ref I, .int i t, .none], []⟩) R s := by
  have W := Walks.list (prog := prog) (w := w) hh I l hl items.toArray
  have hk := hp.at
  intro k
  induction k with
  | zero =>
    intro i s t hk0 hi hst hls hD hkeep hR
    have hin : i = items.length := by omega
    subst hin
    refine codeAny_builtin entry_upd_loop ?_
    rw [Around.under_plainId plain_upd_loop _]
    show wpAny _ A.in1 (pyNext (.ref I) >>= _) _ _ s
    refine wpAny_bind (W.done s _ _ ⟨hst, hls⟩ fun h' tk hs' => ?_)
    show wpAny _ A.in1 (Builtin.Dict.addKeywords d [] >>= _) _ _ _
    refine wpAny_bind (wpAny_pure ?_)
    show wpAny _ A.in1 (ret Value.none) _ _ _
    refine wpAny_pure (hR h' tk ?_ fun b ob h1 _ e => hs' b ob (by simpa using h1) e)
    rw [hk.1, List.take_length] at hD
    obtain ⟨o, es, ep, ho, rest⟩ := hD
    exact ⟨o, es, ep, hs' d o (by simpa using hdI) ho, rest⟩
  | succ k ih =>
    intro i s t hk0 hi hst hls hD hkeep hR
    have hlt : i < items.length := by omega
    refine codeAny_builtin entry_upd_loop ?_
    rw [Around.under_plainId plain_upd_loop _]
    show wpAny _ A.in1 (pyNext (.ref I) >>= _) _ _ s
    refine wpAny_bind (W.item i s _ _ (by simpa using hlt) ⟨hst, hls⟩ fun v h' tk hP hst' hs' => ?_)
    have hv : items[i]? = some v := by simpa using hP
    obtain ⟨key, x, hkx, a, ta, na, rfl, ha⟩ := hk.2 i v hv
    obtain ⟨haI, had⟩ := hpd _ (List.mem_of_getElem? hv) a rfl
    have ha' : h'.get? a = some { cls := .type "tuple", data := .seq #[.str key ta, x] na } := hs' a _ (by simpa using haI) (hkeep a _ haI had ha)
    have hD' : h'.DictOf (strKind prog w) d (merged [] (kvs.take i)) := by
      obtain ⟨o, es, ep, ho, rest⟩ := hD
      exact ⟨o, es, ep, hs' d o (by simpa using hdI) ho, rest⟩
    show wpAny _ A.in1 (holding [Value.ref a] _ >>= _) _ _ _
    refine wpAny_bind (wpAny_holding ?_)
    refine wpAny_bind (wpAny_tryCatch ?_)
    unfold Builtin.Dict.pairItems
    refine wpAny_bind (wpAny_typeOf (s := { s with heap := h', toks := tk }) (T := "tuple") ⟨_, ha', rfl⟩ ?_)
    rw [if_pos (by decide)]
    refine wpAny_bind (wpAny_seqItems (s := { s with heap := h', toks := tk }) ha' rfl (wpAny_pure ?_))
    show wpAny _ A.in1 (holding [Value.str key ta, x] (dictSet d (.str key ta) x)) _ _ _
    refine wpAny_holding ?_
    have hml : (merged ([] : List (Str × Value)) (kvs.take i)).length ≤ sizeLine := by
      have e1 := merged_length_le ([] : List (Str × Value)) (kvs.take i)
      have e2 : (kvs.take i).length ≤ kvs.length := by rw [List.length_take]; omega
      rw [sizeLine_eq]
      simp only [List.length_nil] at e1
      omega
    refine wpAny_dictSet_pairs (knd := strKind prog w) (s := { s with heap := h', toks := tk }) (hsz := hml) (strKind_is _ _ _ _) hD' fun h2 hD2 hs2 => ?_
    have keep2 : ∀ b ob, b ≠ I → b ≠ d → s.heap.get? b = some ob → h2.get? b = some ob := fun b ob h1 h3 e => (hs2.2 b h3).trans (hs' b ob (by simpa using h1) e)
    refine wpAny_pure ⟨plainId_quiet plain_upd_loop _, ?_⟩
    obtain ⟨hst2, hls2⟩ := W.frame _ _ h2 hst' (fun b hb o e => (hs2.2 b (fun q => by
      subst q
      rcases List.mem_cons.mp hb with h | h
      · exact hdI h
      · exact hdl (List.mem_singleton.mp h))).trans e)
    refine ih (i + 1) _ 0 (by omega) hlt hst2 hls2 ?_ (fun b ob h1 h3 e => keep2 b ob h1 h3 (hkeep b ob h1 h3 e)) fun h3 tk3 hd3 k3 => hR h3 tk3 hd3 fun b ob h1 h4 e => k3 b ob h1 h4 (keep2 b ob h1 h4 e)
    rw [merged_take_succ _ _ _ _ hkx]
    exact hD2
/-- dict(pairs) -/
theorem call_dict_pairs {l : Addr} {items : List Value} {kvs : List (Str × Value)} {n : Nat} {Q : Value → Shared → Prop} (hh : A.handled = none) (hx : s.heap.get? l = some { cls := .type "list", data := .seq items.toArray n })
    (hp : PairsAt s.heap items kvs) (hsz : kvs.length ≤ 1000)
    (h : ∀ d h' tk, h'.DictOf (strKind prog w) d (merged [] kvs) → (∀ b ob, s.heap.get? b = some ob → h'.get? b = some ob) → s.heap.objs.size ≤ d → Q (.ref d) { s with heap := h', toks := tk }) :
    wpAny (model prog w) A (call (.type "dict") [.ref l]) Q E s := by
  refine callType_codes (Q₁ := fun obj s₁ => obj = .ref s.heap.objs.size ∧ s₁ = { s with heap := s.heap.push { cls := .type "dict", data := .dict #[] } }) F.kt_called_dict (F.kt_typeCall_dict_1 _) F.entry_dict_init (kt_code_dict_new _ ⟨rfl, rfl⟩) ?_
  rintro obj s₁ ⟨rfl, rfl⟩
  have hnew : (s.heap.push { cls := .type "dict", data := .dict #[] }).DictOf (strKind prog w) s.heap.objs.size [] := Heap.DictOf.new s.heap
  refine ⟨hnew.typeIs, F.args_dict_init_2 _ _, ?_⟩
  unfold Builtin.«dict.__init__»
  refine wpAny_bind ?_
  unfold Builtin.Dict.selfAndRest
  refine wpAny_bind (wpAny_notOrdered_dict hnew.typeIs ?_)
  show wpAny _ _ (pure (s.heap.objs.size, [Value.ref l])) _ _ _
  refine wpAny_pure ?_
  show wpAny _ _ (Builtin.Dict.updateFrom "dict.__init__" s.heap.objs.size (.ref l) [] .none) _ _ _
  unfold Builtin.Dict.updateFrom
  have hx1 : (s.heap.push { cls := .type "dict", data := .dict #[] }).get? l = some { cls := .type "list", data := .seq items.toArray n } := Heap.get?_push_of_some _ hx
  refine wpAny_bind (wpAny_typeOf (s := { s with heap := s.heap.push { cls := .type "dict", data := .dict #[] } }) (T := "list") ⟨_, hx1, rfl⟩ ?_)
  rw [if_pos (by decide)]
  refine wpAny_bind (no_keys (by simp [hh]) hx1 fun h1 tk1 st1 => ?_)
  rw [if_pos (show (none : Option Value).isNone = true from rfl)]
  refine wpAny_bind (wpAny_rule ?_)
  have hld : l < s.heap.objs.size := Heap.lt_size hx
  have stl := st1 _ _ hx1
  have hlI : l < h1.objs.size := Heap.lt_size stl
  obtain ⟨od, es, ep, hgd, hrest⟩ := hnew
  have hdI := Heap.lt_size (st1 _ _ hgd)
  refine wpAny_bind (wpAny_pyIter_list (s := ⟨h1, s.gens, s.drawn, tk1, s.os⟩) ⟨_, stl, rfl, n, rfl⟩ ?_)
  refine wpAny_pure ⟨plainId_quiet plain_upd_loop _, ?_⟩
  refine codeAny_upd_loop (A := A.in1) (h₁ := s.heap) (kvs := kvs) (items := items) (l := l) (by simp [hh]) (Nat.ne_of_lt hlI) (Nat.ne_of_lt hdI) (Nat.ne_of_gt hld) hp hsz ?_ (items.length - 0) 0 _ _ rfl (Nat.zero_le _) ⟨_, Heap.get?_push_size _ rfl, rfl, rfl⟩ ⟨_, Heap.get?_push_of_some _ stl, rfl, n, rfl⟩ ⟨od, es, ep, Heap.get?_push_of_some _ (st1 _ _ hgd), hrest⟩ ?_ ?_
  · intro v hv a ha
    obtain ⟨i, hi, hiv⟩ := List.getElem_of_mem hv
    obtain ⟨k, x, _, b, t, nn, e1, e2⟩ := hp.at.2 i v (by rw [List.getElem?_eq_getElem hi, hiv])
    rw [ha] at e1
    cases e1
    have := Heap.lt_size e2
    exact ⟨Nat.ne_of_lt (Nat.lt_of_lt_of_le this (Nat.le_of_lt (Nat.lt_of_le_of_lt (Nat.le_refl _) hdI))), Nat.ne_of_lt this⟩
  · intro b ob _ _ e
    exact Heap.get?_push_of_some _ (st1 _ _ (Heap.get?_push_of_some _ e))
  · intro h' tk hD k
    refine ⟨rfl, h _ _ _ hD (fun b ob e => ?_) (Nat.le_refl _)⟩
    have hb := Heap.lt_size e
    exact k b ob (Nat.ne_of_lt (Nat.lt_trans hb hdI)) (Nat.ne_of_lt hb) (Heap.get?_push_of_some _ (st1 _ _ (Heap.get?_push_of_some _ e)))
section
variable {h₀ : Heap} {L : Addr} {m : Str → Option Value} {news : List (Addr × Obj)}
/-- dict(pairs), over a ledger -/
theorem dict_pairs_N {l : Addr} {items : List Value} {kvs : List (Str × Value)} {n : Nat} {Q : Value → Shared → Prop} (F : Fr h₀ L s.heap m) (N : News h₀ L s.heap news) (hbig : sysModules < h₀.objs.size) (hh : A.handled = none)
    (hx : (l, ({ cls := .type "list", data := .seq items.toArray n } : Obj)) ∈ news) (hp : PairsAt s.heap items kvs) (hsz : kvs.length ≤ 1000)
    (h : ∀ d o h' tk, Fr h₀ L h' m → News h₀ L h' ((d, o) :: news) → o.IsDictOf (strKind prog w) (merged [] kvs) → (d == sysModules) = false → (∀ p ∈ news, @LT.lt Nat _ p.1 d) → Q (.ref d) { s with heap := h', toks := tk }) :
    wpAny (model prog w) A (call (.type "dict") [.ref l]) Q E s := by
  refine call_dict_pairs hh (N _ hx).1 hp hsz fun d h' tk hD k hd => ?_
  obtain ⟨o, ho, hd'⟩ := Heap.dictOf_iff.mp hD
  have hLd : L < d := Nat.lt_of_lt_of_le F.ns.lt hd
  have hs0 : h₀.objs.size ≤ d := Nat.le_trans F.above (Nat.le_of_lt hLd)
  refine h d o h' tk (F.keeps k) (fun p hp => ?_) hd' (by
    have : sysModules < d := Nat.lt_of_lt_of_le hbig hs0
    exact beq_eq_false_iff_ne.mpr (Nat.ne_of_gt this)) (fun p hp => Nat.lt_of_lt_of_le (Heap.lt_size (N p hp).1) hd)
  rcases List.mem_cons.mp hp with rfl | hp
  · refine ⟨ho, Nat.ne_of_gt hLd, ?_⟩
    cases e : h₀.get? d with
    | none => rfl
    | some ob => exact absurd (Heap.lt_size e) (Nat.not_lt.mpr hs0)
  · exact ⟨k _ _ (N p hp).1, (N p hp).2⟩
end
end
noncomputable def cl26 : Expr := match stAt (fnBody 26) 2 with
  | .Assign _ (.Call _ (e :: _) _ _) _ => e
  | _ => .Constant .none 0 q0
noncomputable def if26 : Expr := match cl26 with
  | .ListComp (.Tuple (_ :: e :: _) _ _) _ _ _ => e
  | _ => .Constant .none 0 q0
noncomputable def sc26 : Scope := match cl26 with
  | .ListComp _ _ sc _ => sc
  | _ => pg.main.scope
theorem PairAt.of {h₀ h : Heap} {L a : Addr} {news : List (Addr × Obj)} {k : Str} {x : Value} {t : Tok} {n : Nat} (N : News h₀ L h news) (hm : (a, ({ cls := .type "tuple", data := .seq #[.str k t, x] n } : Obj)) ∈ news) : PairAt h (.ref a) k x := ⟨a, t, n, rfl, (N _ hm).1⟩
theorem sub3 {a b c : Addr × Obj} {l l1 l2 r : List (Addr × Obj)} (q1 : Pull a l l1) (q2 : Pull b l1 l2) (q3 : Pull c l2 r) : ∀ p ∈ a :: b :: c :: r, p ∈ l := by
  intro p hp
  refine (q1.mem p).mp ?_
  rcases List.mem_cons.mp hp with h | hp
  · exact List.mem_cons.mpr (.inl h)
  refine .tail _ ((q2.mem p).mp ?_)
  rcases List.mem_cons.mp hp with h | hp
  · exact List.mem_cons.mpr (.inl h)
  exact .tail _ ((q3.mem p).mp hp)
section
local macro_rules | `(tactic| walk_at "call ref") => `(tactic| (k_here; refine held ?_))
set_option maxHeartbeats 8000000 in
theorem x_if : ∀ {w : World} {mean : ExcName → Option Value} {mg mb : Str → Option Value} {dp un : Nat} {gd : Option (List Code)} {outer : List Env} {A₀ : Around} {base h₀ : Heap} {L : Addr} {m : Str → Option Value} {s : Shared} {Q : Value → Shared → Prop} {E : Value → Shared → Prop} {rest : List (Addr × Obj)} {d C : Addr} {od oc : Obj}
    (B : Below A₀ base outer h₀) (F : Fr h₀ L s.heap m) (X : (heapK w.params).In h₀) (N : News h₀ L s.heap ((d, od) :: (L + 1, oc) :: rest)) (T : Top vw (looseW vw []) mean mg mb h₀) (hdp : dp < 335) (hu : un < 335)
    (hc : oc.data = .cell (some (.ref d))) (hoff : ∀ p ∈ rest, p.1 ≠ d) (hdc : L + 1 ≠ d) (hlo : (d == sysModules) = false) (hdr : IsDraws w od)
    (hret : ∀ v a od' h' tk', OV v a → Fr h₀ L h' m → News h₀ L h' ((d, od') :: (L + 1, oc) :: rest) → IsDraws w od' → Q v { s with heap := h', toks := tk' }),
    wpAny (model PySem.Challenge.rw_no0077_01.row.prog w) (ktrTop dp un gd (Str.ofString "_law_end") (fnScope 26) L 262 (.ref 261) (cellsFrom (L + 1) (fnScope 26).names []) outer) (eval if26 (compEnvC sc26 [(Str.ofString "draws", L + 1)] C (envOfC (Str.ofString "_law_end") (fnScope 26) L 262 (.ref 261)))) Q E s := by
  k_fill
  intro w mean mg mb dp un gd outer A₀ base h₀ L m s Q E rest d C od oc B F X N T hdp hu hc hoff hdc hlo hdr hret
  conv in if26 => whnf
  conv in sc26 => whnf
  k_steps
  (show wpAny _ _ (call (Value.ref 247) [Value.ref _, Value.int _ _]) _ _ _)
  k_dflt ((refine' take_call (N := Pull.news ?P ?N) ?B ?F ?X ?T ?k ?d ?u ?o ?lo ?dr ?hm ?_; (case N => k_asm); (case P => walk_at "zp"); (case B => k_asm); (case F => k_asm); (case X => k_asm); (case T => k_asm); (case k => exact rfl); (case d => walk_at "zr"); (case u => walk_at "zu"); (case o => k_all); (case lo => assumption); (case dr => assumption); (case hm => first | assumption | decide | omega); k_whole); intro r1 t1 o1 h1 tk1 F1 N1 hd1 ra1 rb1; (try dsimp only); (try k_sweep))
  k_steps
  (show wpAny _ _ (call (Value.ref 247) [Value.ref _, Value.int _ _]) _ _ _)
  k_dflt ((refine' take_call (N := Pull.news ?P ?N) ?B ?F ?X ?T ?k ?d ?u ?o ?lo ?dr ?hm ?_; (case N => k_asm); (case P => walk_at "zp"); (case B => k_asm); (case F => k_asm); (case X => k_asm); (case T => k_asm); (case k => exact rfl); (case d => walk_at "zr"); (case u => walk_at "zu"); (case o => k_all); (case lo => assumption); (case dr => assumption); (case hm => first | assumption | decide | omega); k_whole); intro r2 t2 o2 h2 tk2 F2 N2 hd2 ra2 rb2; (try dsimp only); (try k_sweep))
  k_steps
  all_goals (try dsimp only)
  · exact hret _ _ _ _ _ (.inr ⟨_, _, rfl, rfl⟩) F2 N2 hd2
  · exact hret _ _ _ _ _ (.inl ⟨rfl, rfl⟩) F1 N1 hd1
local macro_rules | `(tactic| walk_at "eval ListComp") => `(tactic| (k_here; refine held ?_))
local macro_rules | `(tactic| walk_at "eval IfExp") => `(tactic| (k_here; refine held ?_))
set_option maxHeartbeats 8000000 in
theorem e_loss : ∀ {w : World} {mean : ExcName → Option Value} {mg mb : Str → Option Value} {dp un : Nat} {gd : Option (List Code)} {outer : List Env} {A₀ : Around} {base h₀ : Heap} {L : Addr} {m : Str → Option Value} {s : Shared} {tl : List Stmt} {Q : Flow → Shared → Prop} {E : Value → Shared → Prop} {rest : List (Addr × Obj)} {d : Addr} {od oc : Obj}
    (B : Below A₀ base outer h₀) (F : Fr h₀ L s.heap m) (X : (heapK w.params).In h₀) (N : News h₀ L s.heap ((d, od) :: (L + 1, oc) :: rest)) (T : Top vw (looseW vw []) mean mg mb h₀) (hdp : dp < 335) (hu : un < 335)
    (hc : oc.data = .cell (some (.ref d))) (hoff : ∀ p ∈ rest, p.1 ≠ d) (hdc : L + 1 ≠ d) (hlo : (d == sysModules) = false) (hdr : IsDraws w od)
    (hret : ∀ lo ol od' v1 v2 v3 a1 a2 a3 h' tk' m', Fr h₀ L h' m' → m' (Str.ofString "losses") = some (.ref lo) → Off [Str.ofString "losses"] m m' → News h₀ L h' ((lo, ol) :: (d, od') :: (L + 1, oc) :: rest) → IsDraws w od' → ol.IsDictOf (Dz w) [(Str.ofString "initial", v1), (Str.ofString "handshake", v2), (Str.ofString "application", v3)] → OV v1 a1 → OV v2 a2 → OV v3 a3 → (lo == sysModules) = false → AllLt lo ((d, od) :: (L + 1, oc) :: rest) → wpAny (model PySem.Challenge.rw_no0077_01.row.prog w) (ktrTop dp un gd (Str.ofString "_law_end") (fnScope 26) L 262 (.ref 261) (cellsFrom (L + 1) (fnScope 26).names []) outer) (execs tl (envOfC (Str.ofString "_law_end") (fnScope 26) L 262 (.ref 261))) Q E { s with heap := h', toks := tk' }),
    wpAny (model PySem.Challenge.rw_no0077_01.row.prog w) (ktrTop dp un gd (Str.ofString "_law_end") (fnScope 26) L 262 (.ref 261) (cellsFrom (L + 1) (fnScope 26).names []) outer) (execs ((stAt (fnBody 26) 2) :: tl) (envOfC (Str.ofString "_law_end") (fnScope 26) L 262 (.ref 261))) Q E s := by
  k_fill
  intro w mean mg mb dp un gd outer A₀ base h₀ L m s tl Q E rest d od oc B F X N T hdp hu hc hoff hdc hlo hdr hret
  walk_at "zwa"
  k_steps
  (show wpAny _ _ _ _ _ _)
  k_dflt (refine LCg.ListComp_U (F₀ := by k_asm) (by rfl) (by decide) (by rfl) (by decide) (by rfl) ?_)
  k_steps
  (show wpAny _ _ (call (Value.ref 240) []) _ _ _)
  k_dflt ((refine' names_call (N := ?N) ?B ?F ?X ?T ?k ?d ?u ?_; (case N => k_asm); (case B => k_asm); (case F => k_asm); (case X => k_asm); (case T => k_asm); (case k => exact rfl); (case d => walk_at "zr"); (case u => walk_at "zu"); k_whole); intro ax t1 t2 t3 h1 tk1 F1 N1 aX; (try dsimp only); (try k_sweep))
  k_steps
  walk_at "zc"
  (show wpAny _ _ (eval _ _) _ _ _)
  refine' x_if (N := News.pull2 ?P11 ?P21 ?N1) B ?F1 X T hdp hu hc ?o1 hdc hlo ?dr1 ?hr1
  case N1 => with_reducible assumption
  case F1 => with_reducible assumption
  case P11 => walk_at "zp"
  case P21 => walk_at "zp"
  case o1 => k_all
  case dr1 => with_reducible assumption
  intro v1 a1 od1 h11 tk11 ov1 F11 N11 dr11
  try dsimp only
  try k_sweep
  k_steps
  (show LCg.CompEnd _ _ _ _ _ _ _ _ _ _ _ _ _ _)
  (try dsimp only)
  (rename Fr _ _ _ _ => kF1); (rename News _ _ _ _ => kN1)
  refine' LCg.CompEnd.intro kF1 kN1 _ (sub3 ?qa1 ?qb1 ?qc1) ?off1 ?src1 ?nxt1
  case qa1 => walk_at "zp"
  case qb1 => walk_at "zp"
  case qc1 => walk_at "zp"
  case src1 => exact Or.inr ⟨_, by k_mem, rfl, _, rfl⟩
  case off1 => (repeat (first | assumption | (refine And.intro ⟨by k_ne, by k_ne, by k_ne⟩ ?_)))
  k_steps
  walk_at "zc"
  (show wpAny _ _ (eval _ _) _ _ _)
  refine' x_if (N := News.pull2 ?P12 ?P22 ?N2) B ?F2 X T hdp hu hc ?o2 hdc hlo ?dr2 ?hr2
  case N2 => with_reducible assumption
  case F2 => with_reducible assumption
  case P12 => walk_at "zp"
  case P22 => walk_at "zp"
  case o2 => k_all
  case dr2 => with_reducible assumption
  intro v2 a2 od2 h21 tk21 ov2 F21 N21 dr21
  try dsimp only
  try k_sweep
  k_steps
  (show LCg.CompEnd _ _ _ _ _ _ _ _ _ _ _ _ _ _)
  (try dsimp only)
  (rename Fr _ _ _ _ => kF2); (rename News _ _ _ _ => kN2)
  refine' LCg.CompEnd.intro kF2 kN2 _ (sub3 ?qa2 ?qb2 ?qc2) ?off2 ?src2 ?nxt2
  case qa2 => walk_at "zp"
  case qb2 => walk_at "zp"
  case qc2 => walk_at "zp"
  case src2 => exact Or.inr ⟨_, by k_mem, rfl, _, rfl⟩
  case off2 => (repeat (first | assumption | (refine And.intro ⟨by k_ne, by k_ne, by k_ne⟩ ?_)))
  k_steps
  walk_at "zc"
  (show wpAny _ _ (eval _ _) _ _ _)
  refine' x_if (N := News.pull2 ?P13 ?P23 ?N3) B ?F3 X T hdp hu hc ?o3 hdc hlo ?dr3 ?hr3
  case N3 => with_reducible assumption
  case F3 => with_reducible assumption
  case P13 => walk_at "zp"
  case P23 => walk_at "zp"
  case o3 => k_all
  case dr3 => with_reducible assumption
  intro v3 a3 od3 h31 tk31 ov3 F31 N31 dr31
  try dsimp only
  try k_sweep
  k_steps
  (show LCg.CompEnd _ _ _ _ _ _ _ _ _ _ _ _ _ _)
  (try dsimp only)
  (rename Fr _ _ _ _ => kF3); (rename News _ _ _ _ => kN3)
  refine' LCg.CompEnd.intro kF3 kN3 _ (sub3 ?qa3 ?qb3 ?qc3) ?off3 ?src3 ?nxt3
  case qa3 => walk_at "zp"
  case qb3 => walk_at "zp"
  case qc3 => walk_at "zp"
  case src3 => exact Or.inr ⟨_, by k_mem, rfl, _, rfl⟩
  case off3 => (repeat (first | assumption | (refine And.intro ⟨by k_ne, by k_ne, by k_ne⟩ ?_)))
  k_steps
  (rename Fr _ _ _ _ => kF); (rename News _ _ _ _ => kN)
  refine' dict_pairs_N kF kN (modules_low (Top.nolimit T)) (by rfl) (items := [_, _, _]) (kvs := [(Str.ofString "initial", v1), (Str.ofString "handshake", v2), (Str.ofString "application", v3)]) ?mem ?prs ?sz ?nx
  case mem => k_mem
  case prs => exact .cons (PairAt.of kN (by k_mem)) (.cons (PairAt.of kN (by k_mem)) (.cons (PairAt.of kN (by k_mem)) .nil))
  case sz => exact Nat.le_of_ble_eq_true rfl
  clear kN
  intro lo ol h9 tk9 F9 N9 hd9 lo9 aL
  rw [merged_nil_of_nodup _ (by show List.Nodup [Str.ofString "initial", Str.ofString "handshake", Str.ofString "application"]; decide +kernel)] at hd9
  have aL := allLt_of aL
  simp only [AllLt] at aL
  walk_at "zc"
  try dsimp only
  k_steps
  try dsimp only
  (rename Fr _ _ _ _ => kF); (rename News _ _ _ _ => kN)
  refine' hret lo ol od3 v1 v2 v3 a1 a2 a3 _ _ _ kF ?za ?zn (News.sub kN ?zk) dr31 hd9 ov1 ov2 ov3 lo9 ?zl
  case za => rfl
  case zn => exact (by intro y hy; simp only [List.mem_cons, List.not_mem_nil, or_false, not_or] at hy; simp only [hy, if_false])
  case zk => exact (by walk_at "zs")
  case zl => exact ⟨by assumption, by assumption, by assumption⟩
end
section
variable {prog : Program} {w : World} {K : Type} [DecidableEq K] {knd : KeyKind prog w K} {A : Around} {E : Value → Shared → Prop} {s : Shared} {h₀ : Heap} {L d : Addr} {m : Str → Option Value} {rest : List (Addr × Obj)} {o : Obj} {kvs more : List (K × Value)}
theorem update_N {o₂ : Addr} {ob : Obj} {Q : Value → Shared → Prop} (F : Fr h₀ L s.heap m) (N : News h₀ L s.heap ((d, o) :: rest)) (h2 : ∀ p ∈ rest, p.1 ≠ d) (hd : o.IsDictOf knd kvs) (hm2 : (o₂, ob) ∈ rest) (hb : ob.IsDictOf knd more) (lo : (o₂ == sysModules) = false)
    (hsz : kvs.length + more.length ≤ sizeLine)
    (h : ∀ h' o', Fr h₀ L h' m → News h₀ L h' ((d, o') :: rest) → o'.IsDictOf knd (merged kvs more) → Q .none { s with heap := h' }) :
    wpAny (model prog w) A (call (.builtin "dict.update") [.ref d, .ref o₂]) Q E s := by
  have hm := N (d, o) (.head _)
  have hD : s.heap.DictOf knd d kvs := Heap.dictOf_iff.mpr ⟨o, hm.1, hd⟩
  have hD2 : s.heap.DictOf knd o₂ more := Heap.dictOf_iff.mpr ⟨ob, (N _ (.tail _ hm2)).1, hb⟩
  refine call_meetsIn PySem.F.slot_dict_update hD.typeIs PySem.F.entry_dict_update (PySem.F.args_dict_update_2 _ _) (meets_dict_update knd d o₂ (Ne.symm (h2 _ hm2)) lo)
    ⟨kvs, more, hD, hD2, hsz, fun h' hmm _ hs => ?_⟩
  obtain ⟨o', ho', hd'⟩ := Heap.dictOf_iff.mp hmm
  exact h h' o' (F.change hs hm.2.1 hm.2.2) (N.setIn (own := []) (fun _ h => nomatch h) h2 hs ho') hd'
end
section
local macro_rules | `(tactic| walk_at "call ref") => `(tactic| (k_here; refine held ?_))
local macro_rules | `(tactic| walk_at "getMethod ref") => `(tactic| (k_here; (with_reducible show wpAny _ _ (getMethod (Value.ref _) (Str.ofString "update") _) _ _ _); k_dflt (refine' kob_method (knd := PySem.strKind _ _) PySem.F.slot_dict_update PySem.F.type_dict_update ?N ?m ?d ?_; (case N => k_asm); (case m => k_mem); (case d => k_asm))))
local macro_rules | `(tactic| walk_at "call builtin:dict.update") => `(tactic| (k_here; refine held ?_))
local macro_rules | `(tactic| walk_at "zz2") => `(tactic| skip)
set_option maxHeartbeats 8000000 in
theorem e_upd : ∀ {w : World} {mean : ExcName → Option Value} {mg mb : Str → Option Value} {dp un : Nat} {gd : Option (List Code)} {outer : List Env} {A₀ : Around} {base h₀ : Heap} {L : Addr} {m : Str → Option Value} {s : Shared} {tl : List Stmt} {Q : Flow → Shared → Prop} {E : Value → Shared → Prop} {rest : List (Addr × Obj)} {d fd sp as lo : Addr} {od oc ofd : Obj} {v1 v2 v3 v4 : Value}
    (B : Below A₀ base outer h₀) (F : Fr h₀ L s.heap m) (X : (heapK w.params).In h₀) (N : News h₀ L s.heap ((d, od) :: (L + 1, oc) :: (fd, ofd) :: rest)) (T : Top vw (looseW vw []) mean mg mb h₀) (hdp : dp < 335) (hu : un < 335)
    (r1 : m (Str.ofString "facts") = some (.ref fd)) (r2 : m (Str.ofString "spaces") = some (.ref sp)) (r3 : m (Str.ofString "asked") = some (.ref as)) (r4 : m (Str.ofString "losses") = some (.ref lo)) (hc : oc.data = .cell (some (.ref d))) (hoff : ∀ p ∈ rest, p.1 ≠ d) (hdc : L + 1 ≠ d) (hfd : fd ≠ d) (hfc : L + 1 ≠ fd) (o2 : ∀ p ∈ rest, p.1 ≠ fd) (hlo : (d == sysModules) = false) (hlo2 : (fd == sysModules) = false) (hdr : IsDraws w od) (hf : ofd.IsDictOf (Dz w) [(Str.ofString "confirmed", v1), (Str.ofString "shown", v2), (Str.ofString "keys", v3), (Str.ofString "blocked", v4)])
    (hret : ∀ ofd' od' n tn h' tk', Fr h₀ L h' m → News h₀ L h' ((d, od') :: (L + 1, oc) :: (fd, ofd') :: rest) → IsDraws w od' → 0 ≤ n → n < 3 → ofd'.IsDictOf (Dz w) [(Str.ofString "confirmed", v1), (Str.ofString "shown", v2), (Str.ofString "keys", v3), (Str.ofString "blocked", v4), (Str.ofString "spaces", .ref sp), (Str.ofString "asked", .ref as), (Str.ofString "losses", .ref lo), (Str.ofString "count", .int n tn)] → wpAny (model PySem.Challenge.rw_no0077_01.row.prog w) (ktrTop dp un gd (Str.ofString "_law_end") (fnScope 26) L 262 (.ref 261) (cellsFrom (L + 1) (fnScope 26).names []) outer) (execs tl (envOfC (Str.ofString "_law_end") (fnScope 26) L 262 (.ref 261))) Q E { s with heap := h', toks := tk' }),
    wpAny (model PySem.Challenge.rw_no0077_01.row.prog w) (ktrTop dp un gd (Str.ofString "_law_end") (fnScope 26) L 262 (.ref 261) (cellsFrom (L + 1) (fnScope 26).names []) outer) (execs ((stAt (fnBody 26) 3) :: tl) (envOfC (Str.ofString "_law_end") (fnScope 26) L 262 (.ref 261))) Q E s := by
  k_fill
  intro w mean mg mb dp un gd outer A₀ base h₀ L m s tl Q E rest d fd sp as lo od oc ofd v1 v2 v3 v4 B F X N T hdp hu r1 r2 r3 r4 hc hoff hdc hfd hfc o2 hlo hlo2 hdr hf hret
  walk_at "zwe"
  k_steps
  (show wpAny _ _ (call (Value.ref 247) [Value.ref _, Value.int _ _]) _ _ _)
  k_dflt ((refine' take_call (N := Pull.news ?P ?N) ?B ?F ?X ?T ?k ?d ?u ?o ?lo ?dr ?hm ?_; (case N => k_asm); (case P => walk_at "zp"); (case B => k_asm); (case F => k_asm); (case X => k_asm); (case T => k_asm); (case k => exact rfl); (case d => walk_at "zr"); (case u => walk_at "zu"); (case o => k_all); (case lo => assumption); (case dr => assumption); (case hm => first | assumption | decide | omega); k_whole); intro r1 t1 o1 h1 tk1 F1 N1 hd1 ra1 rb1; (try dsimp only); (try k_sweep))
  k_steps
  (show wpAny _ _ (call (.builtin "dict.update") _) _ _ _)
  (rename Fr _ _ _ _ => kF); (rename News _ _ _ _ => kN); (rename Obj.IsDictOf _ _ (strPairs _) => hd)
  have hd2 : Obj.IsDictOf (Dz w) _ [(Str.ofString "spaces", .ref sp), (Str.ofString "asked", .ref as), (Str.ofString "losses", .ref lo), (Str.ofString "count", .int r1 t1)] := hd
  clear hd
  k_dflt (refine' update_N (knd := PySem.strKind _ _) kF (Pull.news ?P kN) ?o hf ?mm hd2 (by assumption) ?sz ?h)
  case P => walk_at "zp"
  case o => k_all
  case mm => k_mem
  case sz => rw [sizeLine_eq]; exact Nat.le_of_ble_eq_true rfl
  case h =>
    intro h9 o9 F9 N9 hd9
    try dsimp only
    k_steps
    (try dsimp only)
    exact hret _ _ _ _ _ _ F9 (News.sub N9 (by walk_at "zs")) hd1 ra1 rb1 hd9
set_option maxHeartbeats 8000000 in
theorem e_ret : ∀ {w : World} {mean : ExcName → Option Value} {mg mb : Str → Option Value} {dp un : Nat} {gd : Option (List Code)} {outer : List Env} {A₀ : Around} {base h₀ : Heap} {L : Addr} {m : Str → Option Value} {s : Shared} {tl : List Stmt} {Q : Flow → Shared → Prop} {E : Value → Shared → Prop} {rest : List (Addr × Obj)} {fd : Addr}
    (B : Below A₀ base outer h₀) (F : Fr h₀ L s.heap m) (X : (heapK w.params).In h₀) (N : News h₀ L s.heap (rest)) (T : Top vw (looseW vw []) mean mg mb h₀) (hdp : dp < 335) (hu : un < 335)
    (r1 : m (Str.ofString "facts") = some (.ref fd))
    (hret : ∀ tk', Q (.ret (.ref fd)) { s with toks := tk' }),
    wpAny (model PySem.Challenge.rw_no0077_01.row.prog w) (ktrTop dp un gd (Str.ofString "_law_end") (fnScope 26) L 262 (.ref 261) (cellsFrom (L + 1) (fnScope 26).names []) outer) (execs ((stAt (fnBody 26) 4) :: tl) (envOfC (Str.ofString "_law_end") (fnScope 26) L 262 (.ref 261))) Q E s := by
  k_fill
  intro w mean mg mb dp un gd outer A₀ base h₀ L m s tl Q E rest fd B F X N T hdp hu r1 hret
  walk_at "zwr"
  k_steps
  try dsimp only
  exact hret _
end
/-- what _law_end gives back -/
structure EndOK (w : World) (fd sp as lo : Addr) (ofd osp oas ol : Obj) (bag : List (Addr × Obj)) (c sh ky bl : Bool) (a1 a2 a3 l1 l2 l3 : Option Int) (n : Int) : Prop where
  dict : ∃ tn, ofd.IsDictOf (Dz w) [(Str.ofString "confirmed", .bool c), (Str.ofString "shown", .bool sh), (Str.ofString "keys", .bool ky), (Str.ofString "blocked", .bool bl), (Str.ofString "spaces", .ref sp), (Str.ofString "asked", .ref as), (Str.ofString "losses", .ref lo), (Str.ofString "count", .int n tn)]
  spo : ∃ sv1 sv2 sv3 k, osp = listOf #[sv1, sv2, sv3] k ∧ SpIn w bag sv1 (Str.ofString "initial") a1 ∧ SpIn w bag sv2 (Str.ofString "handshake") a2 ∧ SpIn w bag sv3 (Str.ofString "application") a3
  aso : ∃ v1 v2 v3, oas.IsDictOf (Dz w) [(Str.ofString "initial", v1), (Str.ofString "handshake", v2), (Str.ofString "application", v3)] ∧ OV v1 a1 ∧ OV v2 a2 ∧ OV v3 a3
  loo : ∃ v1 v2 v3, ol.IsDictOf (Dz w) [(Str.ofString "initial", v1), (Str.ofString "handshake", v2), (Str.ofString "application", v3)] ∧ OV v1 l1 ∧ OV v2 l2 ∧ OV v3 l3
  n0 : 0 ≤ n
  n3 : n < 3
  z1 : (fd == sysModules) = false
  z2 : (as == sysModules) = false
  z3 : (lo == sysModules) = false
structure EndNe (d fd sp as lo : Addr) (bag : List (Addr × Obj)) : Prop where
  n1 : sp ≠ d
  n2 : as ≠ d
  n3 : lo ≠ d
  n4 : sp ≠ fd
  n5 : as ≠ fd
  n6 : lo ≠ fd
  n7 : sp ≠ as
  n8 : sp ≠ lo
  n9 : as ≠ lo
  o1 : ∀ p ∈ bag, p.1 ≠ d
  o2 : ∀ p ∈ bag, p.1 ≠ fd
  o3 : ∀ p ∈ bag, p.1 ≠ sp
  o4 : ∀ p ∈ bag, p.1 ≠ as
  o5 : ∀ p ∈ bag, p.1 ≠ lo
theorem es_three {es : List En} (h : es.map (·.nm) = names3.take 3) : ∃ e1 e2 e3 : En, es = [e1, e2, e3] ∧ e1.nm = Str.ofString "initial" ∧ e2.nm = Str.ofString "handshake" ∧ e3.nm = Str.ofString "application" := by
  match es, h with
  | [e1, e2, e3], h => 
    have h : [e1.nm, e2.nm, e3.nm] = [Str.ofString "initial", Str.ofString "handshake", Str.ofString "application"] := h
    simp only [List.cons.injEq, and_true] at h
    exact ⟨e1, e2, e3, rfl, h.1, h.2.1, h.2.2⟩
  | [], h => exact absurd (congrArg List.length h) (by simp [names3])
  | [e1], h => exact absurd (congrArg List.length h) (by simp [names3])
  | [e1, e2], h => exact absurd (congrArg List.length h) (by simp [names3])
  | e1 :: e2 :: e3 :: e4 :: r, h => exact absurd (congrArg List.length h) (by simp [names3])
theorem off_two' {d fd : Addr} {od ofd : Obj} {rest : List (Addr × Obj)} (h1 : ∀ p ∈ rest, p.1 ≠ d) (h2 : ∀ p ∈ rest, p.1 ≠ fd) : ∀ p ∈ rest, p.1 ∉ [(d, od), (fd, ofd)].map (·.1) := off_two h1 h2
section
local macro_rules | `(tactic| k_ne) => `(tactic| walk_at "z13")
local macro_rules | `(tactic| k_room) => `(tactic| walk_at "z1")
local macro_rules | `(tactic| k_enter) => `(tactic| walk_at "z4")
set_option maxHeartbeats 8000000 in
theorem end_call : ∀ {w : World} {mean : ExcName → Option Value} {mg mb : Str → Option Value} {dp un : Nat} {gd : Option (List Code)} {cn : Str} {cs : Scope} {a : Addr} {ccd : Value} {cl : List (Str × Addr)} {outer : List Env} {A₀ : Around} {base h₀ : Heap} {L : Addr} {m : Str → Option Value} {s : Shared}
    {Q E : Value → Shared → Prop} {rest : List (Addr × Obj)} {d fd : Addr} {od ofd : Obj} {most : Int} {tm : Tok} {c sh ky bl : Bool}
    (B : Below A₀ base outer h₀) (F : Fr h₀ L s.heap m) (X : (heapK w.params).In h₀) (N : News h₀ L s.heap ((d, od) :: (fd, ofd) :: rest)) (T : Top vw (looseW vw []) mean mg mb h₀) (hk : cs.kind = .function) (hdp : dp < 330) (hu : un < 330)
    (hdr : IsDraws w od) (hlo : (d == sysModules) = false) (hlf : (fd == sysModules) = false) (hoff : ∀ p ∈ rest, p.1 ≠ d) (hof2 : ∀ p ∈ rest, p.1 ≠ fd) (hne : fd ≠ d) (v1 : 0 < most) (v2 : most ≤ 4) (hf : ofd.IsDictOf (Dz w) [(Str.ofString "confirmed", .bool c), (Str.ofString "shown", .bool sh), (Str.ofString "keys", .bool ky), (Str.ofString "blocked", .bool bl)])
    (hret : ∀ od' ofd' sp as lo osp oas ol bag a1 a2 a3 l1 l2 l3 n h' tk', Fr h₀ L h' m → News h₀ L h' ((d, od') :: (fd, ofd') :: (sp, osp) :: (as, oas) :: (lo, ol) :: (bag ++ rest)) → IsDraws w od' → EndOK w fd sp as lo ofd' osp oas ol bag c sh ky bl a1 a2 a3 l1 l2 l3 n → EndNe d fd sp as lo bag → (∀ p ∈ (sp, osp) :: (as, oas) :: (lo, ol) :: bag, ∀ q ∈ rest, p.1 ≠ q.1) → Q (.ref fd) { s with heap := h', toks := tk' }),
    wpAny (model PySem.Challenge.rw_no0077_01.row.prog w) (ktrTop dp un gd cn cs L a ccd cl outer) (call (.ref 262) [.ref d, .ref fd, .int most tm]) Q E s := by
  k_fill
  intro w mean mg mb dp un gd cn cs a ccd cl outer A₀ base h₀ L m s Q E rest d fd od ofd most tm c sh ky bl B F X N T hk hdp hu hdr hlo hlf hoff hof2 hne v1 v2 hf hret
  have N1 : News h₀ L s.heap [(d, od), (fd, ofd)] := News.sub N (by lcg_sub)
  refine wpAny_call ?_
  k_dflt (refine' enter_cells ?k1 ?k2 ?k3 ?k4 ?k5 ?kA ?kF ?kK ?k6 ?k7 ?k8 ?k9 ?kB ?kD ?_ ?c2 ?c3 ?c4; (case kA => exact rfl); (case kF => exact rfl); (case kK => assumption); (case k1 => k_asm); (case k2 => k_asm); (case k3 => k_asm); (case k4 => exact N1); (case k5 => k_asm); (case k6 => k_is); (case k7 => k_is); (case k8 => ktr_room); (case k9 => exact BindsTo.of_eq rfl); (case kB => exact rfl); (case kD => decide +kernel); (case c2 => exact rfl); (case c3 => exact rfl); (case c4 => exact rfl); k_whole; intro g' L' h' tk' cells' FG' F' N' Y' B' X' T' l1 GS'; (try k_lt l1); k_cells Y'; (try simp only [List.cons_append, List.nil_append] at N'); (try dsimp only); (try k_fold))
  (rename Obj.data _ = Data.cell _ => dcx)
  have dc : _ = Data.cell (some (.ref d)) := dcx
  clear dcx
  obtain ⟨mm, F1, r2, r3⟩ : ∃ mm, Fr g' L' h' mm ∧ mm (Str.ofString "facts") = some (.ref fd) ∧ mm (Str.ofString "most") = some (.int most tm) := ⟨_, F', rfl, rfl⟩
  clear F'
  change wpAny _ (ktrTop _ _ _ (Str.ofString "_law_end") (fnScope 26) _ 262 (.ref 261) (cellsFrom (L' + 1) (fnScope 26).names []) _) (execs (stAt (fnBody 26) 0 :: stAt (fnBody 26) 1 :: stAt (fnBody 26) 2 :: stAt (fnBody 26) 3 :: [stAt (fnBody 26) 4]) (envOfC (Str.ofString "_law_end") (fnScope 26) L' 262 (.ref 261))) _ _ _
  have ld : @LT.lt Nat _ d L' := by assumption
  have lf : @LT.lt Nat _ fd L' := by assumption
  refine' e_init  B' ?F1 X' ?N1 T' ?hd1 ?hu1  ?hr1
  case F1 => with_reducible assumption
  case hd1 => walk_at "zr"
  case hu1 => walk_at "zu"
  case N1 => with_reducible assumption
  intro sp as oas h2 tk2 m2 F2 qs qa off2 N2 hd2 ha2 l3 l4 l5
  try dsimp only
  replace r2 := off2.get r2
  replace r3 := off2.get r3
  (simp only [AllLt, and_true] at l3 l4); walk_at "zc"
  refine' e_loop  B' ?F2 X' ?N2 T' ?hd2 ?hu2 ?z0_2 ?z1_2 ?z2_2 ?z3_2 ?z4_2 ?z5_2 ?z6_2 ?z7_2 ?z8_2 ?z9_2 ?z10_2 ?z11_2 ?z12_2 ?z13_2 ?z14_2 ?z15_2 ?z16_2 ?z17_2 ?hr2
  case F2 => with_reducible assumption
  case hd2 => walk_at "zr"
  case hu2 => walk_at "zu"
  case z0_2 => exact ⟨r2, r3, qs, qa⟩
  case N2 => with_reducible assumption
  case z1_2 => exact dc
  case z2_2 => exact hlo
  case z3_2 => exact ha2
  case z4_2 => exact v1
  case z5_2 => exact v2
  case z6_2 => exact hdr
  case z7_2 => exact hd2
  case z8_2 => (first | assumption | (apply Ne.symm; assumption) | (apply Nat.ne_of_lt; assumption) | (apply Nat.ne_of_gt; assumption) | exact Nat.ne_of_gt (Nat.lt_succ_of_lt (by assumption)) | exact Nat.ne_of_lt (Nat.lt_succ_of_lt (by assumption)))
  case z9_2 => (first | assumption | (apply Ne.symm; assumption) | (apply Nat.ne_of_lt; assumption) | (apply Nat.ne_of_gt; assumption) | exact Nat.ne_of_gt (Nat.lt_succ_of_lt (by assumption)) | exact Nat.ne_of_lt (Nat.lt_succ_of_lt (by assumption)))
  case z10_2 => (first | assumption | (apply Ne.symm; assumption) | (apply Nat.ne_of_lt; assumption) | (apply Nat.ne_of_gt; assumption) | exact Nat.ne_of_gt (Nat.lt_succ_of_lt (by assumption)) | exact Nat.ne_of_lt (Nat.lt_succ_of_lt (by assumption)))
  case z11_2 => (first | assumption | (apply Ne.symm; assumption) | (apply Nat.ne_of_lt; assumption) | (apply Nat.ne_of_gt; assumption) | exact Nat.ne_of_gt (Nat.lt_succ_of_lt (by assumption)) | exact Nat.ne_of_lt (Nat.lt_succ_of_lt (by assumption)))
  case z12_2 => (first | assumption | (apply Ne.symm; assumption) | (apply Nat.ne_of_lt; assumption) | (apply Nat.ne_of_gt; assumption) | exact Nat.ne_of_gt (Nat.lt_succ_of_lt (by assumption)) | exact Nat.ne_of_lt (Nat.lt_succ_of_lt (by assumption)))
  case z13_2 => (first | assumption | (apply Ne.symm; assumption) | (apply Nat.ne_of_lt; assumption) | (apply Nat.ne_of_gt; assumption) | exact Nat.ne_of_gt (Nat.lt_succ_of_lt (by assumption)) | exact Nat.ne_of_lt (Nat.lt_succ_of_lt (by assumption)))
  case z14_2 => (first | assumption | (apply Ne.symm; assumption) | (apply Nat.ne_of_lt; assumption) | (apply Nat.ne_of_gt; assumption) | exact Nat.ne_of_gt (Nat.lt_succ_of_lt (by assumption)) | exact Nat.ne_of_lt (Nat.lt_succ_of_lt (by assumption)))
  case z15_2 => (first | assumption | (apply Ne.symm; assumption) | (apply Nat.ne_of_lt; assumption) | (apply Nat.ne_of_gt; assumption) | exact Nat.ne_of_gt (Nat.lt_succ_of_lt (by assumption)) | exact Nat.ne_of_lt (Nat.lt_succ_of_lt (by assumption)))
  case z16_2 => (first | assumption | (apply Ne.symm; assumption) | (apply Nat.ne_of_lt; assumption) | (apply Nat.ne_of_gt; assumption) | exact Nat.ne_of_gt (Nat.lt_succ_of_lt (by assumption)) | exact Nat.ne_of_lt (Nat.lt_succ_of_lt (by assumption)))
  case z17_2 => (first | assumption | (apply Ne.symm; assumption) | (apply Nat.ne_of_lt; assumption) | (apply Nat.ne_of_gt; assumption) | exact Nat.ne_of_gt (Nat.lt_succ_of_lt (by assumption)) | exact Nat.ne_of_lt (Nat.lt_succ_of_lt (by assumption)))
  intro ax t1 t2 t3 h3 tk3 m3 nx F3 J3 N3
  try dsimp only
  obtain ⟨od3, oas3, k3, bag, es, H3, g1, g2, g3, g4⟩ := J3
  obtain ⟨rfl, dr3, di3, nms, ok, o1, o2, o3, o4, o5⟩ := H3
  obtain ⟨e1, e2, e3, rfl, hn1, hn2, hn3⟩ := es_three nms
  clear N2 N1 N'
  have hdc : L' + 1 ≠ d := Nat.ne_of_gt (Nat.lt_succ_of_lt ld)
  have hfc : L' + 1 ≠ fd := Nat.ne_of_gt (Nat.lt_succ_of_lt lf)
  have lsd : @LT.lt Nat _ d sp := by assumption
  have lad : @LT.lt Nat _ d as := by assumption
  have lsf : @LT.lt Nat _ fd sp := by assumption
  have laf : @LT.lt Nat _ fd as := by assumption
  have lsa : @LT.lt Nat _ sp as := l5
  have N3b := News.sub N3 (l' := (d, od3) :: (L' + 1, _) :: (sp, listOf ([e1, e2, e3].map (·.sv)).toArray k3) :: (as, oas3) :: (fd, ofd) :: bag) (by walk_at "zs")
  clear N3
  refine' e_loss  B' ?F3 X' (News.pull2 ?P1_3 ?P2_3 ?N3) T' ?hd3 ?hu3 ?z0_3 ?z1_3 ?z2_3 ?z3_3 ?z4_3 ?hr3
  case F3 => with_reducible assumption
  case hd3 => walk_at "zr"
  case hu3 => walk_at "zu"
  case N3 => with_reducible assumption
  case P1_3 => walk_at "zp"
  case P2_3 => walk_at "zp"
  case z0_3 => exact dc
  case z1_3 => k_all
  case z2_3 => exact hdc
  case z3_3 => exact hlo
  case z4_3 => exact dr3
  intro lo ol od4 w1 w2 w3 j1 j2 j3 h4 tk4 m4 F4 q4 off4 N4 dr4 hd4 ov1 ov2 ov3 lo4 aL
  try dsimp only
  replace g1 := off4.get g1
  replace g3 := off4.get g3
  replace g4 := off4.get g4
  (simp only [AllLt] at aL); walk_at "zc"
  refine' e_upd (d := d) B' ?F4 X' (News.pull3 ?P1_4 ?P2_4 ?P3_4 ?N4) T' ?hd4 ?hu4 ?z0_4 ?z1_4 ?z2_4 ?z3_4 ?z4_4 ?z5_4 ?z6_4 ?z7_4 ?z8_4 ?z9_4 ?z10_4 ?z11_4 ?z12_4 ?z13_4 ?hr4
  case F4 => with_reducible assumption
  case hd4 => walk_at "zr"
  case hu4 => walk_at "zu"
  case z0_4 => exact g1
  case z1_4 => exact g3
  case z2_4 => exact g4
  case z3_4 => exact q4
  case N4 => with_reducible assumption
  case P1_4 => walk_at "zp"
  case P2_4 => walk_at "zp"
  case P3_4 => walk_at "zp"
  case z4_4 => exact dc
  case z5_4 => k_all
  case z6_4 => exact hdc
  case z7_4 => exact hne
  case z8_4 => exact hfc
  case z9_4 => k_all
  case z10_4 => exact hlo
  case z11_4 => exact hlf
  case z12_4 => exact dr4
  case z13_4 => exact hf
  intro ofd5 od5 n tn h5 tk5 F5 N5 dr5 n0 n3 hd5
  try dsimp only
  refine' e_ret  B' ?F5 X' ?N5 T' ?hd5 ?hu5 ?z0_5 ?hr5
  case F5 => with_reducible assumption
  case hd5 => walk_at "zr"
  case hu5 => walk_at "zu"
  case N5 => with_reducible assumption
  case z0_5 => exact g1
  intro tk6
  try dsimp only
  have EN : EndNe d fd sp as lo bag := ⟨Nat.ne_of_gt lsd, Nat.ne_of_gt lad, Nat.ne_of_gt (by assumption), Nat.ne_of_gt lsf, Nat.ne_of_gt laf, Nat.ne_of_gt (by assumption), Nat.ne_of_lt lsa, Nat.ne_of_lt (by assumption), Nat.ne_of_lt (by assumption), o1, o5, o3, o4, all_ne_of_lt (by assumption)⟩
  have AP := news_apart (led := [(d, od), (fd, ofd)]) N GS' (News.sub N5 (l' := (sp, listOf ([e1, e2, e3].map (·.sv)).toArray k3) :: (as, oas3) :: (lo, ol) :: bag) (by walk_at "zs")) (off_two' hoff hof2)
  have EO : EndOK w fd sp as lo ofd5 (listOf ([e1, e2, e3].map (·.sv)).toArray k3) oas3 ol bag c sh ky bl e1.a e2.a e3.a j1 j2 j3 n := by
    refine ⟨⟨tn, hd5⟩, ⟨e1.sv, e2.sv, e3.sv, k3, rfl, hn1 ▸ (ok e1 (.head _)).1, hn2 ▸ (ok e2 (.tail _ (.head _))).1, hn3 ▸ (ok e3 (.tail _ (.tail _ (.head _)))).1⟩, ⟨e1.av, e2.av, e3.av, ?_, (ok e1 (.head _)).2, (ok e2 (.tail _ (.head _))).2, (ok e3 (.tail _ (.tail _ (.head _)))).2⟩, ⟨w1, w2, w3, hd4, ov1, ov2, ov3⟩, n0, n3, hlf, ha2, lo4⟩
    have di3 : oas3.IsDictOf (Dz w) [(e1.nm, e1.av), (e2.nm, e2.av), (e3.nm, e3.av)] := di3
    rw [hn1, hn2, hn3] at di3
    exact di3
  have NF := News.sub N5 (l' := (d, od5) :: (fd, ofd5) :: (sp, listOf ([e1, e2, e3].map (·.sv)).toArray k3) :: (as, oas3) :: (lo, ol) :: bag) (by walk_at "zs")
  clear N5 N4
  k_steps
  (rename Fr _ _ _ _ => kF); (rename News _ _ _ _ => kN)
  exact hret _ _ _ _ _ _ _ _ _ _ _ _ _ _ _ _ _ _ kF (news_back (led := [(d, od), (fd, ofd)]) (new := (d, od5) :: (fd, ofd5) :: (sp, listOf ([e1, e2, e3].map (·.sv)).toArray k3) :: (as, oas3) :: (lo, ol) :: bag) N GS' F5 kN (off_two' hoff hof2)) dr5 EO EN AP
end
section
variable {prog : Program} {w : World} {A : Around} {s : Shared} {env : Env} {h₀ : Heap} {x : Str} {px : Pos} {body : List Stmt} {Q : Flow → Shared → Prop}
def TpLoop (prog : Program) (w : World) (A : Around) (h₀ : Heap) (env : Env) (x : Str) (px : Pos) (body : List Stmt) (Q : Flow → Shared → Prop) (xv : Value) (s : Shared) : Prop :=
  ∃ (ax : Addr) (vs : List Value) (m₀ : Str → Option Value) (news : List (Addr × Obj)) (J : Nat → (Str → Option Value) → List (Addr × Obj) → Prop),
    xv = .ref ax ∧ Fr h₀ env.locals s.heap m₀ ∧ News h₀ env.locals s.heap news ∧ J 0 m₀ news ∧ (∀ i m nx h, J i m nx → Fr h₀ env.locals h m → News h₀ env.locals h nx → h.IsTuple ax vs.toArray) ∧
    (∀ (i : Nat) v m₁ nx h tk I oI, vs[i]? = some v → (∀ p ∈ nx, p.1 ≠ I) → J i m₁ nx → Fr h₀ env.locals h m₁ → News h₀ env.locals h ((I, oI) :: nx) →
      wpAny (model prog w) A (assign (.Name x px) env v) (fun _ s₂ => wpAny (model prog w) A (execs body env) (RgPost h₀ env.locals (J (i + 1)) I oI { s with heap := h, toks := tk } Q) NoE s₂) NoE { s with heap := h, toks := tk }) ∧
    (∀ m₁ nx h tk, J vs.length m₁ nx → Fr h₀ env.locals h m₁ → News h₀ env.locals h nx → Q .next { s with heap := h, toks := tk })
theorem codeAny_tup {R : Result → Shared → Prop} {ax : Addr} {vs : List Value} {m₀ : Str → Option Value} {news : List (Addr × Obj)} (J : Nat → (Str → Option Value) → List (Addr × Obj) → Prop)
    (hh : A.handled = none) (I : Addr) (hI : h₀.get? I = none) (hL : env.locals ≠ I) (hne : ∀ p ∈ news, p.1 ≠ I) (hne2 : ax ≠ I) (hst : s.heap.IsTupleIter I ax 0) (F : Fr h₀ env.locals s.heap m₀) (N : News h₀ env.locals s.heap news) (hj : J 0 m₀ news)
    (hax : ∀ i m nx h, J i m nx → Fr h₀ env.locals h m → News h₀ env.locals h nx → h.IsTuple ax vs.toArray)
    (turn : ∀ (i : Nat) v m₁ nx h tk oI, vs[i]? = some v → (∀ p ∈ nx, p.1 ≠ I) → J i m₁ nx → Fr h₀ env.locals h m₁ → News h₀ env.locals h ((I, oI) :: nx) →
      wpAny (model prog w) A (assign (.Name x px) env v) (fun _ s₂ => wpAny (model prog w) A (execs body env) (RgPost h₀ env.locals (J (i + 1)) I oI { s with heap := h, toks := tk } fun f s' => R (.ok f) s') NoE s₂) NoE { s with heap := h, toks := tk })
    (done : ∀ m₁ nx h tk, J vs.length m₁ nx → Fr h₀ env.locals h m₁ → News h₀ env.locals h nx → R (.ok .next) { s with heap := h, toks := tk }) :
    codeAny (model prog w) A (.forLoop (.Name x px) (.ref I) body [] env) R s := by
  have W := Walks.tuple (prog := prog) (w := w) hh I ax hne2 vs.toArray
  rw [show vs.toArray.size = vs.length from rfl] at W
  refine codeAny_forLoop
    (fun k s' => ∃ h' tk m' nx i, s' = { s with heap := h', toks := tk } ∧ h'.IsTupleIter I ax i ∧ Fr h₀ env.locals h' m' ∧ News h₀ env.locals h' nx ∧ (∀ p ∈ nx, p.1 ≠ I) ∧ J i m' nx ∧ i ≤ vs.length ∧ k = vs.length + 1 - i) ?_ (vs.length + 1)
    ⟨s.heap, s.toks, m₀, news, 0, rfl, hst, F, N, hne, hj, Nat.zero_le _, rfl⟩
  rintro k' s' ⟨h', tk, m', nx, i, rfl, hst', F', N', hne', hJ, hi, rfl⟩
  have hl : h'.IsTuple ax vs.toArray := hax _ _ _ _ hJ F' N'
  have next : ∀ h₁ : Heap, (∀ b o, b ∉ [I] → h'.get? b = some o → h₁.get? b = some o) → Fr h₀ env.locals h₁ m' ∧ News h₀ env.locals h₁ nx := fun h₁ hk₁ =>
    ⟨⟨F'.ns.at' fun o e => hk₁ _ o (fun hm => hL (List.mem_singleton.mp hm)) e, fun b o e => hk₁ b o (fun hm => by rw [List.mem_singleton.mp hm, hI] at e; cases e) (F'.keep b o e), F'.above⟩, fun p hp => ⟨hk₁ _ _ (fun hm => hne' p hp (List.mem_singleton.mp hm)) (N' p hp).1, (N' p hp).2⟩⟩
  by_cases hlt : i < vs.length
  · refine W.item i _ _ _ hlt ⟨hst', hl⟩ fun v h₁ tk₁ hP hst₁ hk₁ => ?_
    obtain ⟨F₁, N₁⟩ := next h₁ hk₁
    have hv : vs[i]? = some v := by simpa using hP
    obtain ⟨⟨oI, hoI, hrest⟩, _⟩ := hst₁
    have N₂ : News h₀ env.locals h₁ ((I, oI) :: nx) := fun p hp => by
      rcases List.mem_cons.mp hp with rfl | hp
      · exact ⟨hoI, fun e => hL e.symm, hI⟩
      · exact N₁ p hp
    have back : ∀ (h₃ : Heap) (nx₃ : List (Addr × Obj)), News h₀ env.locals h₃ ((I, oI) :: nx₃) → h₃.IsTupleIter I ax (i + 1) := fun h₃ nx₃ N₃ => ⟨oI, (N₃ _ (.head _)).1, hrest⟩
    refine wpAny_mono (turn i v m' nx h₁ tk₁ oI hv hne' hJ F₁ N₂) (fun _ s₂ h₂ => wpAny_mono h₂ (fun f s₃ h₃ => ?_) fun _ _ e => e.elim) fun _ _ e => e.elim
    cases f with
    | ret v => exact h₃
    | brk => exact h₃
    | cont =>
      obtain ⟨h₃', tk₃, m₂, nx₂, rfl, F₃, N₃, ha₃, hJ₃⟩ := h₃
      exact ⟨vs.length + 1 - (i + 1), by omega, h₃', tk₃, m₂, nx₂, i + 1, rfl, back _ _ N₃, F₃, fun p hp => N₃ p (.tail _ hp), ha₃, hJ₃, hlt, rfl⟩
    | next =>
      obtain ⟨h₃', tk₃, m₂, nx₂, rfl, F₃, N₃, ha₃, hJ₃⟩ := h₃
      exact ⟨vs.length + 1 - (i + 1), by omega, h₃', tk₃, m₂, nx₂, i + 1, rfl, back _ _ N₃, F₃, fun p hp => N₃ p (.tail _ hp), ha₃, hJ₃, hlt, rfl⟩
  · have hin : i = vs.length := by omega
    subst hin
    refine W.done _ _ _ ⟨hst', hl⟩ fun h₁ tk₁ hk₁ => wpAny_execs_nil ?_
    obtain ⟨F₁, N₁⟩ := next h₁ hk₁
    exact done m' nx h₁ tk₁ hJ F₁ N₁
theorem for_tup {E : Value → Shared → Prop} {iter : Expr} {pos : Pos} {m : Str → Option Value} (F₀ : Fr h₀ env.locals s.heap m) (hh : A.handled = none)
    (h : wpAny (model prog w) A (eval iter env) (TpLoop prog w A h₀ env x px body Q) NoE s)
    (hs : ∀ x, foldedSetIterable iter env x = pure x := by intro _; rfl) :
    wpAny (model prog w) A (exec (.For (.Name x px) iter body [] pos) env) Q E s := by
  refine wpAny_mono (Q := Q) (E := NoE) (wpAny_For (wpAny_mono h (fun xv s₁ h₁ => ?_) fun _ _ e => e) hs) (fun _ _ e => e) fun _ _ e => e.elim
  obtain ⟨ax, vs, m₀, news, J, rfl, F, N, hj, hax, turn, done⟩ := h₁
  have hl : s₁.heap.IsTuple ax vs.toArray := hax _ _ _ _ hj F N
  have hlt : ax < s₁.heap.objs.size := by obtain ⟨o, e, _⟩ := hl; exact Heap.lt_size e
  refine wpAny_pyIter_tuple hl ?_
  refine codeAny_tup (R := fun r s' => match r with | .ok f => Q f s' | .error e => cameBackBy (model prog w) A env NoE e s') (m₀ := m₀) (news := news) J hh s₁.heap.objs.size (next_is_new F) (Nat.ne_of_lt F.ns.lt) (fun p hp => Nat.ne_of_lt (Heap.lt_size (N p hp).1)) (Nat.ne_of_lt hlt) ⟨_, Heap.get?_push_size _ rfl, rfl, rfl⟩ (F.push _) (fun p hp => ⟨Heap.get?_push_of_some _ (N p hp).1, (N p hp).2⟩) hj hax ?_ ?_
  · intro i v m₁ nx h tk oI a b c d e
    exact turn i v m₁ nx h tk _ oI a b c d e
  · exact done
end
section
local macro_rules | `(tactic| k_ne) => `(tactic| walk_at "z13")
local macro_rules | `(tactic| k_room) => `(tactic| walk_at "z1")
local macro_rules | `(tactic| k_enter) => `(tactic| walk_at "z4")
local macro_rules | `(tactic| walk_at "execs cons") => `(tactic| walk_at "z5")
set_option maxHeartbeats 8000000 in
theorem period_call : ∀ {w : World} {mean : ExcName → Option Value} {mg mb : Str → Option Value} {dp un : Nat} {gd : Option (List Code)} {cn : Str} {cs : Scope} {a : Addr} {ccd : Value} {cl : List (Str × Addr)} {outer : List Env} {A₀ : Around} {base h₀ : Heap} {L : Addr} {m : Str → Option Value} {s : Shared}
    {Q E : Value → Shared → Prop} {rest : List (Addr × Obj)} {b d c : Int} {tb td tc : Tok}
    (B : Below A₀ base outer h₀) (F : Fr h₀ L s.heap m) (X : (heapK w.params).In h₀) (N : News h₀ L s.heap (rest)) (T : Top vw (looseW vw []) mean mg mb h₀) (hk : cs.kind = .function) (hdp : dp < 400) (hu : un < 400)
    (hb0 : 0 ≤ b) (hb1 : b < 1000) (hd0 : 0 ≤ d) (hd1 : d < 1000) (hc0 : 0 ≤ c) (hc1 : c < 3)
    (hret : ∀ t h' tk', Fr h₀ L h' m → News h₀ L h' rest → Q (.int ((b + d) * 2 ^ c.toNat) t) { s with heap := h', toks := tk' }),
    wpAny (model PySem.Challenge.rw_no0077_01.row.prog w) (ktrTop dp un gd cn cs L a ccd cl outer) (call (.ref 29) [.int b tb, .int d td, .int c tc]) Q E s := by
  k_fill
  intro w mean mg mb dp un gd cn cs a ccd cl outer A₀ base h₀ L m s Q E rest b d c tb td tc B F X N T hk hdp hu hb0 hb1 hd0 hd1 hc0 hc1 hret
  have N1 := N
  refine wpAny_call ?_
  k_dflt (refine' code_defG ?k1 ?k2 ?k3 ?k4 ?k5 ?kA ?kF ?kK ?k6 ?k7 ?k8 ?k9 ?kB ?_ ?c2 ?c3 ?c4 ?c5; (case kA => exact rfl); (case kF => exact rfl); (case kK => assumption); (case k1 => k_asm); (case k2 => k_asm); (case k3 => k_asm); (case k4 => exact N1); (case k5 => k_asm); (case k6 => k_is); (case k7 => k_is); (case k8 => ktr_room); (case k9 => exact BindsTo.of_eq rfl); (case c5 => decide); (case kB => exact locs rfl); (case c2 => exact rfl); (case c3 => exact rfl); (case c4 => exact rfl); k_whole; intro g' L' h' FG' F' N' B' X' T' GS'; (try dsimp only); (try k_fold))
  k_steps
  (rename Fr _ _ _ _ => kF); (rename News _ _ _ _ => kN)
  exact hret _ _ _ kF kN
end
/-- an optional (time, name), as a value in a ledger -/
def TV (led : List (Addr × Obj)) (v : Value) (o : Option (Int × Str)) : Prop := (v = .none ∧ o = none) ∨ ∃ n t nm u a k, v = .ref a ∧ (a, ({ cls := .type "tuple", data := .seq #[.int n t, .str nm u] k } : Obj)) ∈ led ∧ o = some (n, nm)
/-- one turn of earliest_of -/
def stepF (f : Option (Int × Str)) (a : Option Int) (nm : Str) : Option (Int × Str) := match a with
  | none => f
  | some t => match f with
    | none => some (t, nm)
    | some (u, n) => if t < u then some (t, nm) else some (u, n)
def earliest (a b c : Option Int) : Option (Int × Str) := stepF (stepF (stepF none a (Str.ofString "initial")) b (Str.ofString "handshake")) c (Str.ofString "application")
local macro_rules | `(tactic| walk_at "z15") => `(tactic| (k_here; (with_reducible show wpAny _ _ (getMethod (Value.ref _) (Str.ofString "get") _) _ _ _); k_dflt (refine' kdg_method (knd := PySem.strKind _ _) ?N ?m ?d ?_; (case N => k_asm); (case m => k_mem); (case d => k_asm))))
local macro_rules | `(tactic| walk_at "z16") => `(tactic| (k_here; k_dflt (refine' kdg_get1 (knd := PySem.strKind _ _) ?N ?m ?d ?lo (strKind_is _ _ _ _) _ ?hl ?_; (case N => k_asm); (case m => k_mem); (case d => k_asm); (case lo => k_asm); (case hl => exact rfl))))
section
local macro_rules | `(tactic| walk_at "getMethod ref") => `(tactic| walk_at "z15")
local macro_rules | `(tactic| walk_at "call builtin:dict.get") => `(tactic| walk_at "z16")
set_option maxHeartbeats 8000000 in
theorem o_told : ∀ {w : World} {mean : ExcName → Option Value} {mg mb : Str → Option Value} {dp un : Nat} {gd : Option (List Code)} {outer : List Env} {A₀ : Around} {base h₀ : Heap} {L : Addr} {m : Str → Option Value} {s : Shared} {tl : List Stmt} {Q : Flow → Shared → Prop} {E : Value → Shared → Prop} {rest : List (Addr × Obj)} {td : Addr} {otd : Obj} {nm : Str} {tn : Tok} {kvs : List (Str × Value)}
    (B : Below A₀ base outer h₀) (F : Fr h₀ L s.heap m) (X : (heapK w.params).In h₀) (N : News h₀ L s.heap ((td, otd) :: rest)) (T : Top vw (looseW vw []) mean mg mb h₀) (hdp : dp < 400) (hu : un < 400)
    (r1 : m (Str.ofString "times") = some (.ref td)) (r2 : m (Str.ofString "space") = some (.str nm tn)) (hd : otd.IsDictOf (Dz w) kvs) (hlo : (td == sysModules) = false)
    (hret : ∀ h' tk' m', Fr h₀ L h' m' → m' (Str.ofString "told") = some ((valueAt kvs nm).getD .none) → Off [Str.ofString "told"] m m' → News h₀ L h' ((td, otd) :: rest) → wpAny (model PySem.Challenge.rw_no0077_01.row.prog w) (ktrTop dp un gd (Str.ofString "earliest_of") (fnScope 4) L 36 (.ref 35) [] outer) (execs tl (envOf (Str.ofString "earliest_of") (fnScope 4) L 36 (.ref 35))) Q E { s with heap := h', toks := tk' }),
    wpAny (model PySem.Challenge.rw_no0077_01.row.prog w) (ktrTop dp un gd (Str.ofString "earliest_of") (fnScope 4) L 36 (.ref 35) [] outer) (execs ((stAt (forBody (stAt (fnBody 4) 1)) 0) :: tl) (envOf (Str.ofString "earliest_of") (fnScope 4) L 36 (.ref 35))) Q E s := by
  k_fill
  intro w mean mg mb dp un gd outer A₀ base h₀ L m s tl Q E rest td otd nm tn kvs B F X N T hdp hu r1 r2 hd hlo hret
  walk_at "zwa"
  k_steps
  try dsimp only
  (rename Fr _ _ _ _ => kF); (rename News _ _ _ _ => kN)
  refine' hret _ _ _ kF ?za ?zn kN
  case za => rfl
  case zn => exact (by intro y hy; simp only [List.mem_cons, List.not_mem_nil, or_false, not_or] at hy; simp only [hy, if_false])
set_option maxHeartbeats 8000000 in
theorem o_if : ∀ {w : World} {mean : ExcName → Option Value} {mg mb : Str → Option Value} {dp un : Nat} {gd : Option (List Code)} {outer : List Env} {A₀ : Around} {base h₀ : Heap} {L : Addr} {m : Str → Option Value} {s : Shared} {tl : List Stmt} {Q : Flow → Shared → Prop} {E : Value → Shared → Prop} {rest : List (Addr × Obj)} {led : List (Addr × Obj)} {nm : Str} {tn : Tok} {tv fv : Value} {a : Option Int} {fo : Option (Int × Str)}
    (B : Below A₀ base outer h₀) (F : Fr h₀ L s.heap m) (X : (heapK w.params).In h₀) (N : News h₀ L s.heap (rest)) (T : Top vw (looseW vw []) mean mg mb h₀) (hdp : dp < 400) (hu : un < 400)
    (r1 : m (Str.ofString "told") = some (tv)) (r2 : m (Str.ofString "found") = some (fv)) (r3 : m (Str.ofString "space") = some (.str nm tn)) (ht : OV tv a) (hf : TV led fv fo) (hsb : ∀ p ∈ led, p ∈ rest)
    (hret : ∀ fv' nw h' tk' m', Fr h₀ L h' m' → m' (Str.ofString "found") = some (fv') → Off [Str.ofString "found"] m m' → News h₀ L h' (nw ++ rest) → TV (nw ++ led) fv' (stepF fo a nm) → (∀ p ∈ nw, ∀ q ∈ rest, p.1 ≠ q.1) → wpAny (model PySem.Challenge.rw_no0077_01.row.prog w) (ktrTop dp un gd (Str.ofString "earliest_of") (fnScope 4) L 36 (.ref 35) [] outer) (execs tl (envOf (Str.ofString "earliest_of") (fnScope 4) L 36 (.ref 35))) Q E { s with heap := h', toks := tk' }),
    wpAny (model PySem.Challenge.rw_no0077_01.row.prog w) (ktrTop dp un gd (Str.ofString "earliest_of") (fnScope 4) L 36 (.ref 35) [] outer) (execs ((stAt (forBody (stAt (fnBody 4) 1)) 1) :: tl) (envOf (Str.ofString "earliest_of") (fnScope 4) L 36 (.ref 35))) Q E s := by
  k_fill
  intro w mean mg mb dp un gd outer A₀ base h₀ L m s tl Q E rest led nm tn tv fv a fo B F X N T hdp hu r1 r2 r3 ht hf hsb hret
  walk_at "zwi"
  rcases ht with ⟨rfl, rfl⟩ | ⟨n, t, rfl, rfl⟩
  · k_steps
    try dsimp only
    exact hret fv [] _ _ _ F r2 (fun _ _ => rfl) N hf (fun _ h => nomatch h)
  · rcases hf with ⟨rfl, rfl⟩ | ⟨n2, t2, nm2, u2, a2, k2, rfl, h2, rfl⟩
    · k_steps
      try dsimp only
      (rename Fr _ _ _ _ => kF); (rename News _ _ _ _ => kN); (rename AllLt _ rest => hA)
      refine' hret _ [_] _ _ _ kF ?za ?zn kN (.inr ⟨n, t, nm, tn, _, _, rfl, .head _, rfl⟩) (fun p hp q hq => by rw [List.mem_singleton.mp hp]; exact Nat.ne_of_gt (tb_ltOf hA q hq))
      case za => rfl
      case zn => exact (by intro y hy; simp only [List.mem_cons, List.not_mem_nil, or_false, not_or] at hy; simp only [hy, if_false])
    · have N2 := News.sub N (l' := (a2, _) :: rest) (List.forall_mem_cons.mpr ⟨hsb _ h2, fun p hp => hp⟩)
      k_steps
      · try dsimp only
        (rename Fr _ _ _ _ => kF); (rename News _ _ _ _ => kN); (rename AllLt _ rest => hA); (rename n < n2 => hlt)
        refine' hret _ [_] _ _ _ kF ?za ?zn (News.sub kN (List.forall_mem_cons.mpr ⟨.head _, fun p hp => .tail _ (.tail _ hp)⟩)) (.inr ⟨n, t, nm, tn, _, _, rfl, .head _, if_pos hlt⟩) (fun p hp q hq => by rw [List.mem_singleton.mp hp]; exact Nat.ne_of_gt (tb_ltOf hA q hq))
        case za => rfl
        case zn => exact (by intro y hy; simp only [List.mem_cons, List.not_mem_nil, or_false, not_or] at hy; simp only [hy, if_false])
      · try dsimp only
        (rename ¬ n < n2 => hlt)
        exact hret _ [] _ _ _ F r2 (fun _ _ => rfl) N (.inr ⟨n2, t2, nm2, u2, a2, k2, rfl, h2, if_neg hlt⟩) (fun _ h => nomatch h)
end
def ear (a b c : Option Int) : Nat → Option (Int × Str)
  | 0 => none
  | 1 => stepF none a (Str.ofString "initial")
  | 2 => stepF (stepF none a (Str.ofString "initial")) b (Str.ofString "handshake")
  | _ => earliest a b c
def nthO (a b c : Option Int) : Nat → Option Int
  | 0 => a
  | 1 => b
  | _ => c
def JO (td : Addr) (otd : Obj) (base : List (Addr × Obj)) (a b c : Option Int) (i : Nat) (m : Str → Option Value) (nx : List (Addr × Obj)) : Prop :=
  ∃ fv nw, nx = nw ++ (td, otd) :: base ∧ m (Str.ofString "found") = some fv ∧ m (Str.ofString "times") = some (.ref td) ∧ TV (nw ++ (td, otd) :: base) fv (ear a b c i) ∧ ∀ p ∈ nw, ∀ q ∈ (td, otd) :: base, p.1 ≠ q.1
theorem body4 : forBody (stAt (fnBody 4) 1) = [stAt (forBody (stAt (fnBody 4) 1)) 0, stAt (forBody (stAt (fnBody 4) 1)) 1] := by kernel_rfl
section
set_option maxHeartbeats 8000000 in
theorem o_turn {w : World} {mean : ExcName → Option Value} {mg mb : Str → Option Value} {dp un : Nat} {gd : Option (List Code)} {outer : List Env} {A₀ : Around} {base h₀ : Heap} {L : Addr} {m : Str → Option Value} {s : Shared} {Q : Flow → Shared → Prop}
    {td : Addr} {otd : Obj} {bs nx : List (Addr × Obj)} {kvs : List (Str × Value)} {a b c : Option Int} {t1 t2 t3 : Tok} {i : Nat} {I : Addr} {oI : Obj} {v : Value} {px : Pos}
    (B : Below A₀ base outer h₀) (F : Fr h₀ L s.heap m) (X : (heapK w.params).In h₀) (N : News h₀ L s.heap ((I, oI) :: nx)) (T : Top vw (looseW vw []) mean mg mb h₀) (hdp : dp < 400) (hu : un < 400)
    (hlo : (td == sysModules) = false) (hd : otd.IsDictOf (Dz w) kvs) (ha : OV ((valueAt kvs (Str.ofString "initial")).getD .none) a) (hb : OV ((valueAt kvs (Str.ofString "handshake")).getD .none) b) (hc : OV ((valueAt kvs (Str.ofString "application")).getD .none) c)
    (hne : ∀ p ∈ nx, p.1 ≠ I) (hv : (nmL t1 t2 t3)[i]? = some v) (hJ : JO td otd bs a b c i m nx) :
    wpAny (model PySem.Challenge.rw_no0077_01.row.prog w) (ktrTop dp un gd (Str.ofString "earliest_of") (fnScope 4) L 36 (.ref 35) [] outer) (assign (.Name (Str.ofString "space") px) (envOf (Str.ofString "earliest_of") (fnScope 4) L 36 (.ref 35)) v) (fun _ s₂ => wpAny (model PySem.Challenge.rw_no0077_01.row.prog w) (ktrTop dp un gd (Str.ofString "earliest_of") (fnScope 4) L 36 (.ref 35) [] outer) (execs (forBody (stAt (fnBody 4) 1)) (envOf (Str.ofString "earliest_of") (fnScope 4) L 36 (.ref 35)) ) (RgPost h₀ L (JO td otd bs a b c (i + 1)) I oI s Q) NoE s₂) NoE s := by
  k_fill
  rw [body4]
  obtain ⟨nm, tn, rfl, hov, hst⟩ : ∃ nm tn, v = .str nm tn ∧ OV ((valueAt kvs nm).getD .none) (nthO a b c i) ∧ ear a b c (i + 1) = stepF (ear a b c i) (nthO a b c i) nm := by
    match i, hv with
    | 0, h => simp at h; exact ⟨_, _, h.symm, ha, rfl⟩
    | 1, h => simp at h; exact ⟨_, _, h.symm, hb, rfl⟩
    | 2, h => simp at h; exact ⟨_, _, h.symm, hc, rfl⟩
    | i + 3, h => simp at h
  obtain ⟨fv, nw, rfl, r1, r2, htv, hap⟩ := hJ
  walk1
  walk1
  (rename Fr _ _ _ _ => F1); (rename News _ _ _ _ => N1)
  have off0 : Off [Str.ofString "space"] m (fun y => if y = Str.ofString "space" then some (.str nm tn) else m y) := (by intro y hy; simp only [List.mem_cons, List.not_mem_nil, or_false, not_or] at hy; simp only [hy, if_false])
  have rs : (fun y => if y = Str.ofString "space" then some (.str nm tn) else m y) (Str.ofString "space") = some (.str nm tn) := rfl
  replace r1 := off0.get r1
  replace r2 := off0.get r2
  have N2 := News.sub N1 (l' := (td, otd) :: (I, oI) :: (nw ++ (td, otd) :: bs)) (List.forall_mem_cons.mpr ⟨.tail _ (List.mem_append.mpr (.inr (.head _))), fun p hp => hp⟩)
  clear N1
  refine' o_told  B ?F1 X (Pull.news ?P1_1 ?N1) T hdp hu ?z0_1 ?z1_1 ?z2_1 ?z3_1 ?hr1
  case F1 => with_reducible assumption
  case z0_1 => exact r2
  case z1_1 => exact rs
  case N1 => with_reducible assumption
  case P1_1 => walk_at "zp"
  case z2_1 => exact hd
  case z3_1 => exact hlo
  intro h3 tk3 m3 F3 rt off3 N3
  try dsimp only
  replace r1 := off3.get r1
  replace r2 := off3.get r2
  replace rs := off3.get rs
  have N4 := News.sub N3 (l' := (I, oI) :: (nw ++ (td, otd) :: bs)) (fun p hp => .tail _ hp)
  clear N3 N2
  refine' o_if  B ?F2 X ?N2 T hdp hu ?z0_2 ?z1_2 ?z2_2 ?z3_2 ?z4_2 ?z5_2 ?hr2
  case F2 => with_reducible assumption
  case z0_2 => exact rt
  case z1_2 => exact r1
  case z2_2 => exact rs
  case z3_2 => exact hov
  case z4_2 => exact htv
  case N2 => with_reducible assumption
  case z5_2 => exact fun p hp => .tail _ hp
  intro fv5 nw5 h5 tk5 m5 F5 rf5 off5 N5 tv5 ap5
  try dsimp only
  replace r2 := off5.get r2
  refine wpAny_execs_nil ?_
  rw [← hst] at tv5
  have sb : ∀ p ∈ nw5 ++ (I, oI) :: (nw ++ (td, otd) :: bs), p ∈ (I, oI) :: ((nw5 ++ nw) ++ (td, otd) :: bs) := by
    intro p hp; simp only [List.mem_cons, List.mem_append] at hp ⊢; rcases hp with h | h | h | h | h <;> simp only [h, true_or, or_true]
  have sb2 : ∀ p ∈ (I, oI) :: ((nw5 ++ nw) ++ (td, otd) :: bs), p ∈ nw5 ++ (I, oI) :: (nw ++ (td, otd) :: bs) := by
    intro p hp; simp only [List.mem_cons, List.mem_append] at hp ⊢; rcases hp with h | (h | h) | h | h <;> simp only [h, true_or, or_true]
  refine ⟨h5, tk5, m5, (nw5 ++ nw) ++ (td, otd) :: bs, rfl, F5, News.sub N5 sb2, ?_, fv5, nw5 ++ nw, rfl, rf5, r2, ?_, ?_⟩
  · intro p hp
    rcases List.mem_append.mp hp with hp | hp
    · rcases List.mem_append.mp hp with hp | hp
      · exact ap5 p hp _ (.head _)
      · exact hne p (List.mem_append.mpr (.inl hp))
    · exact hne p (List.mem_append.mpr (.inr hp))
  · rw [List.append_assoc]; exact tv5
  · intro p hp q hq
    rcases List.mem_append.mp hp with hp | hp
    · exact ap5 p hp q (.tail _ (List.mem_append.mpr (.inr hq)))
    · exact hap p hp q hq
end
local macro_rules | `(tactic| walk_at "z17") => `(tactic| (k_here; (rename Fr _ _ _ _ => F9); (with_unfolding_all refine' for_tup F9 (by rfl) ?_)))
section
local macro_rules | `(tactic| walk_at "exec For Name Name cons nil") => `(tactic| walk_at "z17")
set_option maxHeartbeats 8000000 in
theorem o_init : ∀ {w : World} {mean : ExcName → Option Value} {mg mb : Str → Option Value} {dp un : Nat} {gd : Option (List Code)} {outer : List Env} {A₀ : Around} {base h₀ : Heap} {L : Addr} {m : Str → Option Value} {s : Shared} {tl : List Stmt} {Q : Flow → Shared → Prop} {E : Value → Shared → Prop} {rest : List (Addr × Obj)} 
    (B : Below A₀ base outer h₀) (F : Fr h₀ L s.heap m) (X : (heapK w.params).In h₀) (N : News h₀ L s.heap (rest)) (T : Top vw (looseW vw []) mean mg mb h₀) (hdp : dp < 400) (hu : un < 400)
    (hret : ∀ h' tk' m', Fr h₀ L h' m' → m' (Str.ofString "found") = some (.none) → Off [Str.ofString "found"] m m' → News h₀ L h' rest → wpAny (model PySem.Challenge.rw_no0077_01.row.prog w) (ktrTop dp un gd (Str.ofString "earliest_of") (fnScope 4) L 36 (.ref 35) [] outer) (execs tl (envOf (Str.ofString "earliest_of") (fnScope 4) L 36 (.ref 35))) Q E { s with heap := h', toks := tk' }),
    wpAny (model PySem.Challenge.rw_no0077_01.row.prog w) (ktrTop dp un gd (Str.ofString "earliest_of") (fnScope 4) L 36 (.ref 35) [] outer) (execs ((stAt (fnBody 4) 0) :: tl) (envOf (Str.ofString "earliest_of") (fnScope 4) L 36 (.ref 35))) Q E s := by
  k_fill
  intro w mean mg mb dp un gd outer A₀ base h₀ L m s tl Q E rest  B F X N T hdp hu  hret
  walk_at "zwa"
  k_steps
  try dsimp only
  (rename Fr _ _ _ _ => kF); (rename News _ _ _ _ => kN)
  refine' hret _ _ _ kF ?za ?zn kN
  case za => rfl
  case zn => exact (by intro y hy; simp only [List.mem_cons, List.not_mem_nil, or_false, not_or] at hy; simp only [hy, if_false])
set_option maxHeartbeats 8000000 in
theorem o_loop : ∀ {w : World} {mean : ExcName → Option Value} {mg mb : Str → Option Value} {dp un : Nat} {gd : Option (List Code)} {outer : List Env} {A₀ : Around} {base h₀ : Heap} {L : Addr} {m : Str → Option Value} {s : Shared} {tl : List Stmt} {Q : Flow → Shared → Prop} {E : Value → Shared → Prop} {td : Addr} {otd : Obj} {bs : List (Addr × Obj)} {kvs : List (Str × Value)} {a b c : Option Int}
    (B : Below A₀ base outer h₀) (F : Fr h₀ L s.heap m) (X : (heapK w.params).In h₀) (N : News h₀ L s.heap ((td, otd) :: bs)) (T : Top vw (looseW vw []) mean mg mb h₀) (hdp : dp < 400) (hu : un < 400)
    (r1 : m (Str.ofString "found") = some (.none)) (r2 : m (Str.ofString "times") = some (.ref td)) (hlo : (td == sysModules) = false) (hd : otd.IsDictOf (Dz w) kvs) (ha : OV ((valueAt kvs (Str.ofString "initial")).getD .none) a) (hb : OV ((valueAt kvs (Str.ofString "handshake")).getD .none) b) (hc : OV ((valueAt kvs (Str.ofString "application")).getD .none) c)
    (hret : ∀ fv nw h' tk' m', Fr h₀ L h' m' → m' (Str.ofString "found") = some (fv) → News h₀ L h' (nw ++ (td, otd) :: bs) → TV (nw ++ (td, otd) :: bs) fv (earliest a b c) → (∀ p ∈ nw, ∀ q ∈ (td, otd) :: bs, p.1 ≠ q.1) → wpAny (model PySem.Challenge.rw_no0077_01.row.prog w) (ktrTop dp un gd (Str.ofString "earliest_of") (fnScope 4) L 36 (.ref 35) [] outer) (execs tl (envOf (Str.ofString "earliest_of") (fnScope 4) L 36 (.ref 35))) Q E { s with heap := h', toks := tk' }),
    wpAny (model PySem.Challenge.rw_no0077_01.row.prog w) (ktrTop dp un gd (Str.ofString "earliest_of") (fnScope 4) L 36 (.ref 35) [] outer) (execs ((stAt (fnBody 4) 1) :: tl) (envOf (Str.ofString "earliest_of") (fnScope 4) L 36 (.ref 35))) Q E s := by
  k_fill
  intro w mean mg mb dp un gd outer A₀ base h₀ L m s tl Q E td otd bs kvs a b c B F X N T hdp hu r1 r2 hlo hd ha hb hc hret
  walk_at "zwf"
  k_steps
  (rename Fr _ _ _ _ => F)
  refine' ⟨22, nmL 196 197 198, m, (td, otd) :: bs, JO td otd bs a b c, rfl, F, N, ⟨.none, [], rfl, r1, r2, .inl ⟨rfl, rfl⟩, (fun _ h => nomatch h)⟩, ?tup, ?turn, ?done⟩
  case tup =>
    intro i m nx h hJ F2 N2
    k_dflt (refine' tupK (K := heapK w.params) (X.keeps F2.keep) ?l; (case l => k_is))
  case turn =>
    intro i v m₁ nx h tk I oI hv hne hJ F1 N1
    exact o_turn B F1 X N1 T hdp hu hlo hd ha hb hc hne hv hJ
  case done =>
    intro m₁ nx h tk hJ F1 N1
    obtain ⟨fv, nw, rfl, r1, r2, htv, hap⟩ := hJ
    exact hret _ _ _ _ _ F1 r1 N1 htv hap
set_option maxHeartbeats 8000000 in
theorem o_ret : ∀ {w : World} {mean : ExcName → Option Value} {mg mb : Str → Option Value} {dp un : Nat} {gd : Option (List Code)} {outer : List Env} {A₀ : Around} {base h₀ : Heap} {L : Addr} {m : Str → Option Value} {s : Shared} {tl : List Stmt} {Q : Flow → Shared → Prop} {E : Value → Shared → Prop} {rest : List (Addr × Obj)} {fv : Value}
    (B : Below A₀ base outer h₀) (F : Fr h₀ L s.heap m) (X : (heapK w.params).In h₀) (N : News h₀ L s.heap (rest)) (T : Top vw (looseW vw []) mean mg mb h₀) (hdp : dp < 400) (hu : un < 400)
    (r1 : m (Str.ofString "found") = some (fv))
    (hret : ∀ tk', Q (.ret fv) { s with toks := tk' }),
    wpAny (model PySem.Challenge.rw_no0077_01.row.prog w) (ktrTop dp un gd (Str.ofString "earliest_of") (fnScope 4) L 36 (.ref 35) [] outer) (execs ((stAt (fnBody 4) 2) :: tl) (envOf (Str.ofString "earliest_of") (fnScope 4) L 36 (.ref 35))) Q E s := by
  k_fill
  intro w mean mg mb dp un gd outer A₀ base h₀ L m s tl Q E rest fv B F X N T hdp hu r1 hret
  walk_at "zwr"
  k_steps
  try dsimp only
  exact hret _
end
section
local macro_rules | `(tactic| k_ne) => `(tactic| walk_at "z13")
local macro_rules | `(tactic| k_room) => `(tactic| walk_at "z1")
local macro_rules | `(tactic| k_enter) => `(tactic| walk_at "z4")
local macro_rules | `(tactic| walk_at "execs cons") => `(tactic| walk_at "z5")
local macro_rules | `(tactic| walk_at "zz3") => `(tactic| skip)
set_option maxHeartbeats 8000000 in
theorem earliest_call : ∀ {w : World} {mean : ExcName → Option Value} {mg mb : Str → Option Value} {dp un : Nat} {gd : Option (List Code)} {cn : Str} {cs : Scope} {a : Addr} {ccd : Value} {cl : List (Str × Addr)} {outer : List Env} {A₀ : Around} {base h₀ : Heap} {L : Addr} {m : Str → Option Value} {s : Shared}
    {Q E : Value → Shared → Prop} {rest : List (Addr × Obj)} {td : Addr} {otd : Obj} {kvs : List (Str × Value)} {a1 a2 a3 : Option Int}
    (B : Below A₀ base outer h₀) (F : Fr h₀ L s.heap m) (X : (heapK w.params).In h₀) (N : News h₀ L s.heap ((td, otd) :: rest)) (T : Top vw (looseW vw []) mean mg mb h₀) (hk : cs.kind = .function) (hdp : dp < 390) (hu : un < 390)
    (hlo : (td == sysModules) = false) (hd : otd.IsDictOf (Dz w) kvs) (ha : OV ((valueAt kvs (Str.ofString "initial")).getD .none) a1) (hb : OV ((valueAt kvs (Str.ofString "handshake")).getD .none) a2) (hc : OV ((valueAt kvs (Str.ofString "application")).getD .none) a3) (hoff : ∀ p ∈ rest, p.1 ≠ td)
    (hret : ∀ v new h' tk', Fr h₀ L h' m → News h₀ L h' (new ++ (td, otd) :: rest) → TV (new ++ [(td, otd)]) v (earliest a1 a2 a3) → (∀ p ∈ new, ∀ q ∈ (td, otd) :: rest, p.1 ≠ q.1) → Q v { s with heap := h', toks := tk' }),
    wpAny (model PySem.Challenge.rw_no0077_01.row.prog w) (ktrTop dp un gd cn cs L a ccd cl outer) (call (.ref 36) [.ref td]) Q E s := by
  k_fill
  intro w mean mg mb dp un gd cn cs a ccd cl outer A₀ base h₀ L m s Q E rest td otd kvs a1 a2 a3 B F X N T hk hdp hu hlo hd ha hb hc hoff hret
  have N1 : News h₀ L s.heap [(td, otd)] := News.sub N (by lcg_sub)
  refine wpAny_call ?_
  k_dflt (refine' code_defG ?k1 ?k2 ?k3 ?k4 ?k5 ?kA ?kF ?kK ?k6 ?k7 ?k8 ?k9 ?kB ?_ ?c2 ?c3 ?c4 ?c5; (case kA => exact rfl); (case kF => exact rfl); (case kK => assumption); (case k1 => k_asm); (case k2 => k_asm); (case k3 => k_asm); (case k4 => exact N1); (case k5 => k_asm); (case k6 => k_is); (case k7 => k_is); (case k8 => ktr_room); (case k9 => exact BindsTo.of_eq rfl); (case c5 => decide); (case kB => exact locs rfl); (case c2 => exact rfl); (case c3 => exact rfl); (case c4 => exact rfl); k_whole; intro g' L' h' FG' F' N' B' X' T' GS'; (try dsimp only); (try k_fold))
  obtain ⟨mm, F1, r2⟩ : ∃ mm, Fr g' L' h' mm ∧ mm (Str.ofString "times") = some (.ref td) := ⟨_, F', rfl⟩
  clear F'
  change wpAny _ (ktrTop _ _ _ (Str.ofString "earliest_of") (fnScope 4) _ 36 (.ref 35) [] _) (execs (stAt (fnBody 4) 0 :: stAt (fnBody 4) 1 :: [stAt (fnBody 4) 2]) (envOf (Str.ofString "earliest_of") (fnScope 4) L' 36 (.ref 35))) _ _ _
  refine' o_init  B' ?F1 X' ?N1 T' ?hd1 ?hu1  ?hr1
  case F1 => with_reducible assumption
  case hd1 => walk_at "zr"
  case hu1 => walk_at "zu"
  case N1 => with_reducible assumption
  intro h2 tk2 m2 F2 rf off2 N2
  try dsimp only
  replace r2 := off2.get r2
  refine' o_loop  B' ?F2 X' ?N2 T' ?hd2 ?hu2 ?z0_2 ?z1_2 ?z2_2 ?z3_2 ?z4_2 ?z5_2 ?z6_2 ?hr2
  case F2 => with_reducible assumption
  case hd2 => walk_at "zr"
  case hu2 => walk_at "zu"
  case z0_2 => exact rf
  case z1_2 => exact r2
  case N2 => with_reducible assumption
  case z2_2 => exact hlo
  case z3_2 => exact hd
  case z4_2 => exact ha
  case z5_2 => exact hb
  case z6_2 => exact hc
  intro fv nw h3 tk3 m3 F3 rf3 N3 tv3 ap3
  try dsimp only
  refine' o_ret  B' ?F3 X' ?N3 T' ?hd3 ?hu3 ?z0_3 ?hr3
  case F3 => with_reducible assumption
  case hd3 => walk_at "zr"
  case hu3 => walk_at "zu"
  case z0_3 => exact rf3
  case N3 => with_reducible assumption
  intro tk4
  try dsimp only
  have GS := GS'
  have AP := news_apart (led := [(td, otd)]) N GS (News.sub N3 (l' := nw) (fun p hp => List.mem_append.mpr (.inl hp))) (off_one hoff)
  clear N2 N'
  k_steps
  (rename Fr h₀ _ _ _ => kF); (rename News h₀ _ _ _ => kN)
  have K1 := news_back (led := [(td, otd)]) (new := nw ++ [(td, otd)]) N GS F3 kN (off_one hoff)
  rw [List.append_assoc] at K1
  refine hret fv nw _ _ kF K1 tv3 fun p hp q hq => ?_
  rcases List.mem_cons.mp hq with rfl | hq
  · exact ap3 p hp _ (.head _)
  · exact AP p hp q hq
end
/-- a time of probe_times -/
def ptO (b d c : Int) (cf : Bool) (a : Option Int) (nm : Str) : Option Int := match a with
  | none => none
  | some t => if (nm == Str.ofString "application" && !cf) = true then none else some (t + (b + if (nm == Str.ofString "application") = true then d else 0) * 2 ^ c.toNat)
section
local macro_rules | `(tactic| walk_at "call ref") => `(tactic| (k_here; refine held ?_))
local macro_rules | `(tactic| walk_at "getMethod ref") => `(tactic| walk_at "z15")
local macro_rules | `(tactic| walk_at "call builtin:dict.get") => `(tactic| walk_at "z16")
local macro_rules | `(tactic| walk_at "setItem ref str") => `(tactic| walk_at "z14")
set_option maxHeartbeats 8000000 in
theorem p_sent : ∀ {w : World} {mean : ExcName → Option Value} {mg mb : Str → Option Value} {dp un : Nat} {gd : Option (List Code)} {outer : List Env} {A₀ : Around} {base h₀ : Heap} {L : Addr} {m : Str → Option Value} {s : Shared} {tl : List Stmt} {Q : Flow → Shared → Prop} {E : Value → Shared → Prop} {rest : List (Addr × Obj)} {la : Addr} {ola : Obj} {nm : Str} {tn : Tok} {kvs : List (Str × Value)}
    (B : Below A₀ base outer h₀) (F : Fr h₀ L s.heap m) (X : (heapK w.params).In h₀) (N : News h₀ L s.heap ((la, ola) :: rest)) (T : Top vw (looseW vw []) mean mg mb h₀) (hdp : dp < 390) (hu : un < 390)
    (r1 : m (Str.ofString "last_asked") = some (.ref la)) (r2 : m (Str.ofString "space") = some (.str nm tn)) (hd : ola.IsDictOf (Dz w) kvs) (hlo : (la == sysModules) = false)
    (hret : ∀ h' tk' m', Fr h₀ L h' m' → m' (Str.ofString "sent_at") = some ((valueAt kvs nm).getD .none) → Off [Str.ofString "sent_at"] m m' → News h₀ L h' ((la, ola) :: rest) → wpAny (model PySem.Challenge.rw_no0077_01.row.prog w) (ktrTop dp un gd (Str.ofString "probe_times") (fnScope 5) L 43 (.ref 42) [] outer) (execs tl (envOf (Str.ofString "probe_times") (fnScope 5) L 43 (.ref 42))) Q E { s with heap := h', toks := tk' }),
    wpAny (model PySem.Challenge.rw_no0077_01.row.prog w) (ktrTop dp un gd (Str.ofString "probe_times") (fnScope 5) L 43 (.ref 42) [] outer) (execs ((stAt (forBody (stAt (fnBody 5) 1)) 0) :: tl) (envOf (Str.ofString "probe_times") (fnScope 5) L 43 (.ref 42))) Q E s := by
  k_fill
  intro w mean mg mb dp un gd outer A₀ base h₀ L m s tl Q E rest la ola nm tn kvs B F X N T hdp hu r1 r2 hd hlo hret
  walk_at "zwa"
  k_steps
  try dsimp only
  (rename Fr _ _ _ _ => kF); (rename News _ _ _ _ => kN)
  refine' hret _ _ _ kF ?za ?zn kN
  case za => rfl
  case zn => exact (by intro y hy; simp only [List.mem_cons, List.not_mem_nil, or_false, not_or] at hy; simp only [hy, if_false])
set_option maxHeartbeats 8000000 in
theorem p_if : ∀ {w : World} {mean : ExcName → Option Value} {mg mb : Str → Option Value} {dp un : Nat} {gd : Option (List Code)} {outer : List Env} {A₀ : Around} {base h₀ : Heap} {L : Addr} {m : Str → Option Value} {s : Shared} {tl : List Stmt} {Q : Flow → Shared → Prop} {E : Value → Shared → Prop} {rest : List (Addr × Obj)} {nm : Str} {tn : Tok} {sv : Value} {a : Option Int} {cf : Bool} {b d c : Int}
    (B : Below A₀ base outer h₀) (F : Fr h₀ L s.heap m) (X : (heapK w.params).In h₀) (N : News h₀ L s.heap (rest)) (T : Top vw (looseW vw []) mean mg mb h₀) (hdp : dp < 390) (hu : un < 390)
    (r1 : m (Str.ofString "sent_at") = some (sv)) (r2 : m (Str.ofString "space") = some (.str nm tn)) (r3 : m (Str.ofString "is_confirmed") = some (.bool cf)) (ha : OV sv a) (hcont : ptO b d c cf a nm = none → ∀ tk', Q .cont { s with toks := tk' })
    (hret : ∀ n t tk', sv = .int n t → ptO b d c cf a nm = some (n + (b + if (nm == Str.ofString "application") = true then d else 0) * 2 ^ c.toNat) → wpAny (model PySem.Challenge.rw_no0077_01.row.prog w) (ktrTop dp un gd (Str.ofString "probe_times") (fnScope 5) L 43 (.ref 42) [] outer) (execs tl (envOf (Str.ofString "probe_times") (fnScope 5) L 43 (.ref 42))) Q E { s with toks := tk' }),
    wpAny (model PySem.Challenge.rw_no0077_01.row.prog w) (ktrTop dp un gd (Str.ofString "probe_times") (fnScope 5) L 43 (.ref 42) [] outer) (execs ((stAt (forBody (stAt (fnBody 5) 1)) 1) :: tl) (envOf (Str.ofString "probe_times") (fnScope 5) L 43 (.ref 42))) Q E s := by
  k_fill
  intro w mean mg mb dp un gd outer A₀ base h₀ L m s tl Q E rest nm tn sv a cf b d c B F X N T hdp hu r1 r2 r3 ha hcont hret
  walk_at "zwi"
  rcases ha with ⟨rfl, rfl⟩ | ⟨n, t, rfl, rfl⟩
  · k_steps
    all_goals (try dsimp only)
    all_goals exact hcont rfl _
  · k_steps
    all_goals (try dsimp only)
    · (rename (nm == _) = _ => e1); (rename cf = _ => e2)
      exact hret n t _ rfl (by simp [ptO, e1, e2])
    · (rename (nm == _) = _ => e1); (rename cf = _ => e2)
      exact hcont (by simp [ptO, e1, e2]) _
    · (rename (nm == _) = _ => e1)
      exact hret n t _ rfl (by simp [ptO, e1])
set_option maxHeartbeats 8000000 in
theorem p_delay : ∀ {w : World} {mean : ExcName → Option Value} {mg mb : Str → Option Value} {dp un : Nat} {gd : Option (List Code)} {outer : List Env} {A₀ : Around} {base h₀ : Heap} {L : Addr} {m : Str → Option Value} {s : Shared} {tl : List Stmt} {Q : Flow → Shared → Prop} {E : Value → Shared → Prop} {rest : List (Addr × Obj)} {nm : Str} {tn : Tok} {d : Int} {td : Tok}
    (B : Below A₀ base outer h₀) (F : Fr h₀ L s.heap m) (X : (heapK w.params).In h₀) (N : News h₀ L s.heap (rest)) (T : Top vw (looseW vw []) mean mg mb h₀) (hdp : dp < 390) (hu : un < 390)
    (r1 : m (Str.ofString "most_delay") = some (.int d td)) (r2 : m (Str.ofString "space") = some (.str nm tn))
    (hret : ∀ t h' tk' m', Fr h₀ L h' m' → m' (Str.ofString "delay") = some (.int (if (nm == Str.ofString "application") = true then d else 0) t) → Off [Str.ofString "delay"] m m' → News h₀ L h' rest → wpAny (model PySem.Challenge.rw_no0077_01.row.prog w) (ktrTop dp un gd (Str.ofString "probe_times") (fnScope 5) L 43 (.ref 42) [] outer) (execs tl (envOf (Str.ofString "probe_times") (fnScope 5) L 43 (.ref 42))) Q E { s with heap := h', toks := tk' }),
    wpAny (model PySem.Challenge.rw_no0077_01.row.prog w) (ktrTop dp un gd (Str.ofString "probe_times") (fnScope 5) L 43 (.ref 42) [] outer) (execs ((stAt (forBody (stAt (fnBody 5) 1)) 2) :: tl) (envOf (Str.ofString "probe_times") (fnScope 5) L 43 (.ref 42))) Q E s := by
  k_fill
  intro w mean mg mb dp un gd outer A₀ base h₀ L m s tl Q E rest nm tn d td B F X N T hdp hu r1 r2 hret
  walk_at "zwa"
  k_steps
  all_goals (try dsimp only)
  · (rename Fr _ _ _ _ => kF); (rename News _ _ _ _ => kN); (rename (nm == _) = _ => e1)
    rw [if_pos e1] at hret
    refine' hret _ _ _ _ kF ?za ?zn kN
    case za => rfl
    case zn => exact (by intro y hy; simp only [List.mem_cons, List.not_mem_nil, or_false, not_or] at hy; simp only [hy, if_false])
  · (rename Fr _ _ _ _ => kF); (rename News _ _ _ _ => kN); (rename (nm == _) = _ => e1)
    rw [if_neg (by rw [e1]; decide)] at hret
    refine' hret _ _ _ _ kF ?za ?zn kN
    case za => rfl
    case zn => exact (by intro y hy; simp only [List.mem_cons, List.not_mem_nil, or_false, not_or] at hy; simp only [hy, if_false])
set_option maxHeartbeats 8000000 in
theorem p_set : ∀ {w : World} {mean : ExcName → Option Value} {mg mb : Str → Option Value} {dp un : Nat} {gd : Option (List Code)} {outer : List Env} {A₀ : Around} {base h₀ : Heap} {L : Addr} {m : Str → Option Value} {s : Shared} {tl : List Stmt} {Q : Flow → Shared → Prop} {E : Value → Shared → Prop} {rest : List (Addr × Obj)} {fd : Addr} {ofd : Obj} {nm : Str} {tn : Tok} {b d c n : Int} {tb td tc t : Tok} {kvs : List (Str × Value)}
    (B : Below A₀ base outer h₀) (F : Fr h₀ L s.heap m) (X : (heapK w.params).In h₀) (N : News h₀ L s.heap ((fd, ofd) :: rest)) (T : Top vw (looseW vw []) mean mg mb h₀) (hdp : dp < 390) (hu : un < 390)
    (r1 : m (Str.ofString "found") = some (.ref fd)) (r2 : m (Str.ofString "space") = some (.str nm tn)) (r3 : m (Str.ofString "sent_at") = some (.int n t)) (r4 : m (Str.ofString "base") = some (.int b tb)) (r5 : m (Str.ofString "delay") = some (.int d td)) (r6 : m (Str.ofString "count") = some (.int c tc)) (hd : ofd.IsDictOf (Dz w) kvs) (hsz : kvs.length ≤ 100) (o1 : ∀ p ∈ rest, p.1 ≠ fd) (hb0 : 0 ≤ b) (hb1 : b < 1000) (hd0 : 0 ≤ d) (hd1 : d < 1000) (hc0 : 0 ≤ c) (hc1 : c < 3)
    (hret : ∀ ofd' t' h' tk', Fr h₀ L h' m → News h₀ L h' ((fd, ofd') :: rest) → ofd'.IsDictOf (Dz w) (stored kvs nm (.int (n + (b + d) * 2 ^ c.toNat) t')) → wpAny (model PySem.Challenge.rw_no0077_01.row.prog w) (ktrTop dp un gd (Str.ofString "probe_times") (fnScope 5) L 43 (.ref 42) [] outer) (execs tl (envOf (Str.ofString "probe_times") (fnScope 5) L 43 (.ref 42))) Q E { s with heap := h', toks := tk' }),
    wpAny (model PySem.Challenge.rw_no0077_01.row.prog w) (ktrTop dp un gd (Str.ofString "probe_times") (fnScope 5) L 43 (.ref 42) [] outer) (execs ((stAt (forBody (stAt (fnBody 5) 1)) 3) :: tl) (envOf (Str.ofString "probe_times") (fnScope 5) L 43 (.ref 42))) Q E s := by
  k_fill
  intro w mean mg mb dp un gd outer A₀ base h₀ L m s tl Q E rest fd ofd nm tn b d c n tb td tc t kvs B F X N T hdp hu r1 r2 r3 r4 r5 r6 hd hsz o1 hb0 hb1 hd0 hd1 hc0 hc1 hret
  walk_at "zwa"
  k_steps
  (show wpAny _ _ (call (Value.ref 29) _) _ _ _)
  k_dflt ((refine' period_call (N := ?N) ?B ?F ?X ?T ?k ?d ?u ?z1 ?z2 ?z3 ?z4 ?z5 ?z6 ?_; (case N => k_asm); (case B => k_asm); (case F => k_asm); (case X => k_asm); (case T => k_asm); (case k => exact rfl); (case d => walk_at "zr"); (case u => walk_at "zu"); (case z1 => assumption); (case z2 => assumption); (case z3 => assumption); (case z4 => assumption); (case z5 => assumption); (case z6 => assumption); k_whole); intro t1 h1 tk1 F1 N1; (try dsimp only); (try k_sweep))
  k_steps
  try dsimp only
  (rename Fr _ _ _ _ => kF); (rename News _ _ _ _ => kN)
  (rename Obj.IsDictOf _ _ (stored _ _ _) => hd')
  exact hret _ _ _ _ kF kN hd'
end
section
variable {K : Type} [DecidableEq K]
theorem find_map_same (k : K) (v : Value) : ∀ (l : List (K × Value)), (l.any fun kv => decide (kv.1 = k)) = true → ((l.map fun kv => if kv.1 = k then (kv.1, v) else kv).find? fun kv => decide (kv.1 = k)).map (·.2) = some v
  | [], h => by simp at h
  | p :: r, h => by
    by_cases e : p.1 = k
    · simp [e]
    · have h' : (r.any fun kv => decide (kv.1 = k)) = true := by simpa [e] using h
      have := find_map_same k v r h'
      simp only [List.map_cons, if_neg e, List.find?_cons, decide_eq_false e]
      exact this
theorem find_map_ne (k k' : K) (v : Value) (hk : k ≠ k') : ∀ (l : List (K × Value)), ((l.map fun kv => if kv.1 = k then (kv.1, v) else kv).find? fun kv => decide (kv.1 = k')).map (·.2) = (l.find? fun kv => decide (kv.1 = k')).map (·.2)
  | [] => rfl
  | p :: r => by
    have ih := find_map_ne k k' v hk r
    by_cases e : p.1 = k
    · have e' : ¬ p.1 = k' := fun q => hk (e.symm.trans q)
      simp only [List.map_cons, if_pos e, List.find?_cons, decide_eq_false e']
      exact ih
    · by_cases e' : p.1 = k'
      · simp only [List.map_cons, if_neg e, List.find?_cons, decide_eq_true e']
      · simp only [List.map_cons, if_neg e, List.find?_cons, decide_eq_false e']
        exact ih
theorem valueAt_same (kvs : List (K × Value)) (k : K) (v : Value) : valueAt (stored kvs k v) k = some v := by
  unfold stored valueAt
  by_cases h : (kvs.any fun kv => decide (kv.1 = k)) = true
  · rw [if_pos h]; exact find_map_same k v kvs h
  · rw [if_neg h, List.find?_append]
    have : (kvs.find? fun kv => decide (kv.1 = k)) = none := by
      rw [List.find?_eq_none]
      intro x hx hd
      exact h (List.any_eq_true.mpr ⟨x, hx, hd⟩)
    rw [this]
    simp
theorem valueAt_ne (kvs : List (K × Value)) (k k' : K) (v : Value) (hk : k ≠ k') : valueAt (stored kvs k v) k' = valueAt kvs k' := by
  unfold stored valueAt
  by_cases h : (kvs.any fun kv => decide (kv.1 = k)) = true
  · rw [if_pos h]; exact find_map_ne k k' v hk kvs
  · rw [if_neg h, List.find?_append]
    cases kvs.find? fun kv => decide (kv.1 = k') with
    | none => simp [hk]
    | some x => rfl
end
def PReads (m : Str → Option Value) (fd la : Addr) (b d c : Int) (tb td tc : Tok) (cf : Bool) : Prop :=
  m (Str.ofString "found") = some (.ref fd) ∧ m (Str.ofString "last_asked") = some (.ref la) ∧ m (Str.ofString "base") = some (.int b tb) ∧ m (Str.ofString "most_delay") = some (.int d td) ∧ m (Str.ofString "count") = some (.int c tc) ∧ m (Str.ofString "is_confirmed") = some (.bool cf)
def taken (i j : Nat) (x : Option Int) : Option Int := if j < i then x else none
def JPt (w : World) (fd la : Addr) (ola : Obj) (b d c : Int) (tb td tc : Tok) (cf : Bool) (a1 a2 a3 : Option Int) (i : Nat) (m : Str → Option Value) (nx : List (Addr × Obj)) : Prop :=
  ∃ ofd kvs, nx = [(fd, ofd), (la, ola)] ∧ ofd.IsDictOf (Dz w) kvs ∧ kvs.length ≤ i ∧ i ≤ 3 ∧ OV ((valueAt kvs (Str.ofString "initial")).getD .none) (taken i 0 (ptO b d c cf a1 (Str.ofString "initial"))) ∧ OV ((valueAt kvs (Str.ofString "handshake")).getD .none) (taken i 1 (ptO b d c cf a2 (Str.ofString "handshake"))) ∧ OV ((valueAt kvs (Str.ofString "application")).getD .none) (taken i 2 (ptO b d c cf a3 (Str.ofString "application"))) ∧ PReads m fd la b d c tb td tc cf
theorem body5 : forBody (stAt (fnBody 5) 1) = [stAt (forBody (stAt (fnBody 5) 1)) 0, stAt (forBody (stAt (fnBody 5) 1)) 1, stAt (forBody (stAt (fnBody 5) 1)) 2, stAt (forBody (stAt (fnBody 5) 1)) 3] := by kernel_rfl
theorem jpt_next {w : World} {i : Nat} {kvs : List (Str × Value)} {b d c : Int} {cf : Bool} {a1 a2 a3 : Option Int} {nm : Str} (hi : i < 3) (hn : names3[i]? = some nm)
    (h1 : OV ((valueAt kvs (Str.ofString "initial")).getD .none) (taken i 0 (ptO b d c cf a1 (Str.ofString "initial")))) (h2 : OV ((valueAt kvs (Str.ofString "handshake")).getD .none) (taken i 1 (ptO b d c cf a2 (Str.ofString "handshake")))) (h3 : OV ((valueAt kvs (Str.ofString "application")).getD .none) (taken i 2 (ptO b d c cf a3 (Str.ofString "application")))) :
    (ptO b d c cf (nthO a1 a2 a3 i) nm = none → OV ((valueAt kvs (Str.ofString "initial")).getD .none) (taken (i + 1) 0 (ptO b d c cf a1 (Str.ofString "initial"))) ∧ OV ((valueAt kvs (Str.ofString "handshake")).getD .none) (taken (i + 1) 1 (ptO b d c cf a2 (Str.ofString "handshake"))) ∧ OV ((valueAt kvs (Str.ofString "application")).getD .none) (taken (i + 1) 2 (ptO b d c cf a3 (Str.ofString "application")))) ∧
    (∀ v, OV v (ptO b d c cf (nthO a1 a2 a3 i) nm) → OV ((valueAt (stored kvs nm v) (Str.ofString "initial")).getD .none) (taken (i + 1) 0 (ptO b d c cf a1 (Str.ofString "initial"))) ∧ OV ((valueAt (stored kvs nm v) (Str.ofString "handshake")).getD .none) (taken (i + 1) 1 (ptO b d c cf a2 (Str.ofString "handshake"))) ∧ OV ((valueAt (stored kvs nm v) (Str.ofString "application")).getD .none) (taken (i + 1) 2 (ptO b d c cf a3 (Str.ofString "application")))) := by
  have n1 : (Str.ofString "initial") ≠ (Str.ofString "handshake") := by decide +kernel
  have n2 : (Str.ofString "initial") ≠ (Str.ofString "application") := by decide +kernel
  have n3 : (Str.ofString "handshake") ≠ (Str.ofString "application") := by decide +kernel
  match i, hi, hn with
  | 0, _, hn =>
    obtain rfl : (Str.ofString "initial") = nm := Option.some.inj hn
    refine ⟨fun e => ⟨?_, h2, h3⟩, fun v hv => ⟨?_, ?_, ?_⟩⟩
    · have e : ptO b d c cf a1 (Str.ofString "initial") = none := e
      show OV _ (ptO b d c cf a1 (Str.ofString "initial")); rw [e]; exact h1
    · rw [valueAt_same]; exact hv
    · rw [valueAt_ne _ _ _ _ n1]; exact h2
    · rw [valueAt_ne _ _ _ _ n2]; exact h3
  | 1, _, hn =>
    obtain rfl : (Str.ofString "handshake") = nm := Option.some.inj hn
    refine ⟨fun e => ⟨h1, ?_, h3⟩, fun v hv => ⟨?_, ?_, ?_⟩⟩
    · have e : ptO b d c cf a2 (Str.ofString "handshake") = none := e
      show OV _ (ptO b d c cf a2 (Str.ofString "handshake")); rw [e]; exact h2
    · rw [valueAt_ne _ _ _ _ n1.symm]; exact h1
    · rw [valueAt_same]; exact hv
    · rw [valueAt_ne _ _ _ _ n3]; exact h3
  | 2, _, hn =>
    obtain rfl : (Str.ofString "application") = nm := Option.some.inj hn
    refine ⟨fun e => ⟨h1, h2, ?_⟩, fun v hv => ⟨?_, ?_, ?_⟩⟩
    · have e : ptO b d c cf a3 (Str.ofString "application") = none := e
      show OV _ (ptO b d c cf a3 (Str.ofString "application")); rw [e]; exact h3
    · rw [valueAt_ne _ _ _ _ n2.symm]; exact h1
    · rw [valueAt_ne _ _ _ _ n3.symm]; exact h2
    · rw [valueAt_same]; exact hv
section
set_option maxHeartbeats 8000000 in
theorem p_turn {w : World} {mean : ExcName → Option Value} {mg mb : Str → Option Value} {dp un : Nat} {gd : Option (List Code)} {outer : List Env} {A₀ : Around} {base h₀ : Heap} {L : Addr} {m : Str → Option Value} {s : Shared} {Q : Flow → Shared → Prop}
    {fd la : Addr} {ola : Obj} {b d c : Int} {tb td tc t1 t2 t3 : Tok} {cf : Bool} {nx : List (Addr × Obj)} {kv0 : List (Str × Value)} {a1 a2 a3 : Option Int} {i : Nat} {I : Addr} {oI : Obj} {v : Value} {px : Pos}
    (B : Below A₀ base outer h₀) (F : Fr h₀ L s.heap m) (X : (heapK w.params).In h₀) (N : News h₀ L s.heap ((I, oI) :: nx)) (T : Top vw (looseW vw []) mean mg mb h₀) (hdp : dp < 390) (hu : un < 390)
    (hlo : (la == sysModules) = false) (hd : ola.IsDictOf (Dz w) kv0) (h1 : OV ((valueAt kv0 (Str.ofString "initial")).getD .none) a1) (h2 : OV ((valueAt kv0 (Str.ofString "handshake")).getD .none) a2) (h3 : OV ((valueAt kv0 (Str.ofString "application")).getD .none) a3)
    (hb0 : 0 ≤ b) (hb1 : b < 1000) (hd0 : 0 ≤ d) (hd1 : d < 1000) (hc0 : 0 ≤ c) (hc1 : c < 3) (hfl : fd ≠ la)
    (hne : ∀ p ∈ nx, p.1 ≠ I) (hv : (nmL t1 t2 t3)[i]? = some v) (hJ : JPt w fd la ola b d c tb td tc cf a1 a2 a3 i m nx) :
    wpAny (model PySem.Challenge.rw_no0077_01.row.prog w) (ktrTop dp un gd (Str.ofString "probe_times") (fnScope 5) L 43 (.ref 42) [] outer) (assign (.Name (Str.ofString "space") px) (envOf (Str.ofString "probe_times") (fnScope 5) L 43 (.ref 42)) v) (fun _ s₂ => wpAny (model PySem.Challenge.rw_no0077_01.row.prog w) (ktrTop dp un gd (Str.ofString "probe_times") (fnScope 5) L 43 (.ref 42) [] outer) (execs (forBody (stAt (fnBody 5) 1)) (envOf (Str.ofString "probe_times") (fnScope 5) L 43 (.ref 42)) ) (RgPost h₀ L (JPt w fd la ola b d c tb td tc cf a1 a2 a3 (i + 1)) I oI s Q) NoE s₂) NoE s := by
  k_fill
  rw [body5]
  obtain ⟨nm, tn, rfl, hov, hst, hi3⟩ : ∃ nm tn, v = .str nm tn ∧ OV ((valueAt kv0 nm).getD .none) (nthO a1 a2 a3 i) ∧ names3[i]? = some nm ∧ i < 3 := by
    match i, hv with
    | 0, h => simp at h; exact ⟨_, _, h.symm, h1, rfl, by decide⟩
    | 1, h => simp at h; exact ⟨_, _, h.symm, h2, rfl, by decide⟩
    | 2, h => simp at h; exact ⟨_, _, h.symm, h3, rfl, by decide⟩
    | i + 3, h => simp at h
  obtain ⟨ofd, kvs, rfl, hfd, hlen, _, g1, g2, g3, r1, r2, r3, r4, r5, r6⟩ := hJ
  obtain ⟨nx1, nx2⟩ := jpt_next (w := w) hi3 hst g1 g2 g3
  simp only [List.forall_mem_cons] at hne
  walk_at "zc"
  walk1
  walk1
  (rename Fr _ _ _ _ => F1); (rename News _ _ _ _ => N1)
  have off0 : Off [Str.ofString "space"] m (fun y => if y = Str.ofString "space" then some (.str nm tn) else m y) := (by intro y hy; simp only [List.mem_cons, List.not_mem_nil, or_false, not_or] at hy; simp only [hy, if_false])
  have rs : (fun y => if y = Str.ofString "space" then some (.str nm tn) else m y) (Str.ofString "space") = some (.str nm tn) := rfl
  replace r1 := off0.get r1
  replace r2 := off0.get r2
  replace r3 := off0.get r3
  replace r4 := off0.get r4
  replace r5 := off0.get r5
  replace r6 := off0.get r6
  refine' p_sent  B ?F1 X (Pull.news ?P1_1 ?N1) T hdp hu ?z0_1 ?z1_1 ?z2_1 ?z3_1 ?hr1
  case F1 => with_reducible assumption
  case z0_1 => exact r2
  case z1_1 => exact rs
  case N1 => with_reducible assumption
  case P1_1 => walk_at "zp"
  case z2_1 => exact hd
  case z3_1 => exact hlo
  intro h3 tk3 m3 F3 rt off3 N3
  try dsimp only
  replace r1 := off3.get r1
  replace r2 := off3.get r2
  replace r3 := off3.get r3
  replace r4 := off3.get r4
  replace r5 := off3.get r5
  replace r6 := off3.get r6
  replace rs := off3.get rs
  refine' p_if (b := b) (d := d) (c := c) B ?F2 X ?N2 T hdp hu ?z0_2 ?z1_2 ?z2_2 ?z3_2 ?z4_2 ?hr2
  case F2 => with_reducible assumption
  case z0_2 => exact rt
  case z1_2 => exact rs
  case z2_2 => exact r6
  case z3_2 => exact hov
  case N2 => with_reducible assumption
  case z4_2 => (
      intro hp tk4
      obtain ⟨e1, e2, e3⟩ := nx1 hp
      exact ⟨h3, tk4, m3, [(fd, ofd), (la, ola)], rfl, F3, News.sub N3 (by walk_at "zs"), (by k_all), ofd, kvs, rfl, hfd, by omega, by omega, e1, e2, e3, r1, r2, r3, r4, r5, r6⟩)
  intro n t tk4 hn hp
  try dsimp only
  rw [hn] at rt
  refine' p_delay  B ?F3 X ?N3 T hdp hu ?z0_3 ?z1_3 ?hr3
  case F3 => with_reducible assumption
  case z0_3 => exact r4
  case z1_3 => exact rs
  case N3 => with_reducible assumption
  intro t5 h5 tk5 m5 F5 rd5 off5 N5
  try dsimp only
  replace r1 := off5.get r1
  replace r2 := off5.get r2
  replace r3 := off5.get r3
  replace r4 := off5.get r4
  replace r5 := off5.get r5
  replace r6 := off5.get r6
  replace rs := off5.get rs
  replace rt := off5.get rt
  refine' p_set  B ?F4 X (Pull.news ?P1_4 ?N4) T hdp hu ?z0_4 ?z1_4 ?z2_4 ?z3_4 ?z4_4 ?z5_4 ?z6_4 ?z7_4 ?z8_4 ?z9_4 ?z10_4 ?z11_4 ?z12_4 ?z13_4 ?z14_4 ?hr4
  case F4 => with_reducible assumption
  case z0_4 => exact r1
  case z1_4 => exact rs
  case z2_4 => exact rt
  case z3_4 => exact r3
  case z4_4 => exact rd5
  case z5_4 => exact r5
  case N4 => with_reducible assumption
  case P1_4 => walk_at "zp"
  case z6_4 => exact hfd
  case z7_4 => omega
  case z8_4 => k_all
  case z9_4 => exact hb0
  case z10_4 => exact hb1
  case z11_4 => (split <;> omega)
  case z12_4 => (split <;> omega)
  case z13_4 => exact hc0
  case z14_4 => exact hc1
  intro ofd6 t6 h6 tk6 F6 N6 hd6
  try dsimp only
  refine wpAny_execs_nil ?_
  obtain ⟨e1, e2, e3⟩ := nx2 _ (.inr ⟨_, t6, rfl, hp⟩)
  have hl6 : (stored kvs nm (.int (n + (b + if (nm == Str.ofString "application") = true then d else 0) * 2 ^ c.toNat) t6)).length ≤ i + 1 := Nat.le_trans (stored_length_le ..) (Nat.succ_le_succ hlen)
  exact ⟨h6, tk6, m5, [(fd, ofd6), (la, ola)], rfl, F6, News.sub N6 (by walk_at "zs"), (by k_all), ofd6, _, rfl, hd6, hl6, by omega, e1, e2, e3, r1, r2, r3, r4, r5, r6⟩
end
section
local macro_rules | `(tactic| walk_at "exec For Name Name cons nil") => `(tactic| walk_at "z17")
set_option maxHeartbeats 8000000 in
theorem p_init : ∀ {w : World} {mean : ExcName → Option Value} {mg mb : Str → Option Value} {dp un : Nat} {gd : Option (List Code)} {outer : List Env} {A₀ : Around} {base h₀ : Heap} {L : Addr} {m : Str → Option Value} {s : Shared} {tl : List Stmt} {Q : Flow → Shared → Prop} {E : Value → Shared → Prop} {rest : List (Addr × Obj)} 
    (B : Below A₀ base outer h₀) (F : Fr h₀ L s.heap m) (X : (heapK w.params).In h₀) (N : News h₀ L s.heap (rest)) (T : Top vw (looseW vw []) mean mg mb h₀) (hdp : dp < 390) (hu : un < 390)
    (hret : ∀ fd ofd h' tk' m', Fr h₀ L h' m' → m' (Str.ofString "found") = some (.ref fd) → Off [Str.ofString "found"] m m' → News h₀ L h' ((fd, ofd) :: rest) → ofd.IsDictOf (Dz w) [] → (fd == sysModules) = false → AllLt fd rest → wpAny (model PySem.Challenge.rw_no0077_01.row.prog w) (ktrTop dp un gd (Str.ofString "probe_times") (fnScope 5) L 43 (.ref 42) [] outer) (execs tl (envOf (Str.ofString "probe_times") (fnScope 5) L 43 (.ref 42))) Q E { s with heap := h', toks := tk' }),
    wpAny (model PySem.Challenge.rw_no0077_01.row.prog w) (ktrTop dp un gd (Str.ofString "probe_times") (fnScope 5) L 43 (.ref 42) [] outer) (execs ((stAt (fnBody 5) 0) :: tl) (envOf (Str.ofString "probe_times") (fnScope 5) L 43 (.ref 42))) Q E s := by
  k_fill
  intro w mean mg mb dp un gd outer A₀ base h₀ L m s tl Q E rest  B F X N T hdp hu  hret
  walk_at "zwa"
  k_steps
  try dsimp only
  (rename Fr _ _ _ _ => kF); (rename News _ _ _ _ => kN)
  refine' hret _ _ _ _ _ kF ?za ?zn kN (by assumption) (by assumption) (by assumption)
  case za => rfl
  case zn => exact (by intro y hy; simp only [List.mem_cons, List.not_mem_nil, or_false, not_or] at hy; simp only [hy, if_false])
set_option maxHeartbeats 8000000 in
theorem p_loop : ∀ {w : World} {mean : ExcName → Option Value} {mg mb : Str → Option Value} {dp un : Nat} {gd : Option (List Code)} {outer : List Env} {A₀ : Around} {base h₀ : Heap} {L : Addr} {m : Str → Option Value} {s : Shared} {tl : List Stmt} {Q : Flow → Shared → Prop} {E : Value → Shared → Prop} {fd la : Addr} {ofd ola : Obj} {b d c : Int} {tb td tc : Tok} {cf : Bool} {kv0 : List (Str × Value)} {a1 a2 a3 : Option Int}
    (B : Below A₀ base outer h₀) (F : Fr h₀ L s.heap m) (X : (heapK w.params).In h₀) (N : News h₀ L s.heap ([(fd, ofd), (la, ola)])) (T : Top vw (looseW vw []) mean mg mb h₀) (hdp : dp < 390) (hu : un < 390)
    (hr : PReads m fd la b d c tb td tc cf) (hlo : (la == sysModules) = false) (hf : ofd.IsDictOf (Dz w) []) (hd : ola.IsDictOf (Dz w) kv0) (h1 : OV ((valueAt kv0 (Str.ofString "initial")).getD .none) a1) (h2 : OV ((valueAt kv0 (Str.ofString "handshake")).getD .none) a2) (h3 : OV ((valueAt kv0 (Str.ofString "application")).getD .none) a3) (hb0 : 0 ≤ b) (hb1 : b < 1000) (hd0 : 0 ≤ d) (hd1 : d < 1000) (hc0 : 0 ≤ c) (hc1 : c < 3) (hfl : fd ≠ la)
    (hret : ∀ ofd' kvs h' tk' m', Fr h₀ L h' m' → m' (Str.ofString "found") = some (.ref fd) → News h₀ L h' [(fd, ofd'), (la, ola)] → ofd'.IsDictOf (Dz w) kvs → OV ((valueAt kvs (Str.ofString "initial")).getD .none) (ptO b d c cf a1 (Str.ofString "initial")) → OV ((valueAt kvs (Str.ofString "handshake")).getD .none) (ptO b d c cf a2 (Str.ofString "handshake")) → OV ((valueAt kvs (Str.ofString "application")).getD .none) (ptO b d c cf a3 (Str.ofString "application")) → wpAny (model PySem.Challenge.rw_no0077_01.row.prog w) (ktrTop dp un gd (Str.ofString "probe_times") (fnScope 5) L 43 (.ref 42) [] outer) (execs tl (envOf (Str.ofString "probe_times") (fnScope 5) L 43 (.ref 42))) Q E { s with heap := h', toks := tk' }),
    wpAny (model PySem.Challenge.rw_no0077_01.row.prog w) (ktrTop dp un gd (Str.ofString "probe_times") (fnScope 5) L 43 (.ref 42) [] outer) (execs ((stAt (fnBody 5) 1) :: tl) (envOf (Str.ofString "probe_times") (fnScope 5) L 43 (.ref 42))) Q E s := by
  k_fill
  intro w mean mg mb dp un gd outer A₀ base h₀ L m s tl Q E fd la ofd ola b d c tb td tc cf kv0 a1 a2 a3 B F X N T hdp hu hr hlo hf hd h1 h2 h3 hb0 hb1 hd0 hd1 hc0 hc1 hfl hret
  walk_at "zwf"
  k_steps
  (rename Fr _ _ _ _ => F)
  refine' ⟨22, nmL 196 197 198, m, _, JPt w fd la ola b d c tb td tc cf a1 a2 a3, rfl, F, N, ⟨ofd, [], rfl, hf, Nat.le_refl _, by decide, .inl ⟨rfl, rfl⟩, .inl ⟨rfl, rfl⟩, .inl ⟨rfl, rfl⟩, hr⟩, ?tup, ?turn, ?done⟩
  case tup =>
    intro i m nx h hJ F2 N2
    k_dflt (refine' tupK (K := heapK w.params) (X.keeps F2.keep) ?l; (case l => k_is))
  case turn =>
    intro i v m₁ nx h tk I oI hv hne hJ F1 N1
    exact p_turn B F1 X N1 T hdp hu hlo hd h1 h2 h3 hb0 hb1 hd0 hd1 hc0 hc1 hfl hne hv hJ
  case done =>
    intro m₁ nx h tk hJ F1 N1
    obtain ⟨ofd, kvs, rfl, hfd, hlen, _, g1, g2, g3, r1, r2, r3, r4, r5, r6⟩ := hJ
    exact hret _ _ _ _ _ F1 r1 N1 hfd g1 g2 g3
set_option maxHeartbeats 8000000 in
theorem p_ret : ∀ {w : World} {mean : ExcName → Option Value} {mg mb : Str → Option Value} {dp un : Nat} {gd : Option (List Code)} {outer : List Env} {A₀ : Around} {base h₀ : Heap} {L : Addr} {m : Str → Option Value} {s : Shared} {tl : List Stmt} {Q : Flow → Shared → Prop} {E : Value → Shared → Prop} {rest : List (Addr × Obj)} {fd : Addr}
    (B : Below A₀ base outer h₀) (F : Fr h₀ L s.heap m) (X : (heapK w.params).In h₀) (N : News h₀ L s.heap (rest)) (T : Top vw (looseW vw []) mean mg mb h₀) (hdp : dp < 390) (hu : un < 390)
    (r1 : m (Str.ofString "found") = some (.ref fd))
    (hret : ∀ tk', Q (.ret (.ref fd)) { s with toks := tk' }),
    wpAny (model PySem.Challenge.rw_no0077_01.row.prog w) (ktrTop dp un gd (Str.ofString "probe_times") (fnScope 5) L 43 (.ref 42) [] outer) (execs ((stAt (fnBody 5) 2) :: tl) (envOf (Str.ofString "probe_times") (fnScope 5) L 43 (.ref 42))) Q E s := by
  k_fill
  intro w mean mg mb dp un gd outer A₀ base h₀ L m s tl Q E rest fd B F X N T hdp hu r1 hret
  walk_at "zwr"
  k_steps
  try dsimp only
  exact hret _
end
section
local macro_rules | `(tactic| k_ne) => `(tactic| walk_at "z13")
local macro_rules | `(tactic| k_room) => `(tactic| walk_at "z1")
local macro_rules | `(tactic| k_enter) => `(tactic| walk_at "z4")
local macro_rules | `(tactic| walk_at "execs cons") => `(tactic| walk_at "z5")
local macro_rules | `(tactic| walk_at "zz4") => `(tactic| skip)
set_option maxHeartbeats 8000000 in
theorem times_call : ∀ {w : World} {mean : ExcName → Option Value} {mg mb : Str → Option Value} {dp un : Nat} {gd : Option (List Code)} {cn : Str} {cs : Scope} {a : Addr} {ccd : Value} {cl : List (Str × Addr)} {outer : List Env} {A₀ : Around} {base h₀ : Heap} {L : Addr} {m : Str → Option Value} {s : Shared}
    {Q E : Value → Shared → Prop} {rest : List (Addr × Obj)} {la : Addr} {ola : Obj} {b d c : Int} {tb td tc : Tok} {cf : Bool} {kv0 : List (Str × Value)} {a1 a2 a3 : Option Int}
    (B : Below A₀ base outer h₀) (F : Fr h₀ L s.heap m) (X : (heapK w.params).In h₀) (N : News h₀ L s.heap ((la, ola) :: rest)) (T : Top vw (looseW vw []) mean mg mb h₀) (hk : cs.kind = .function) (hdp : dp < 380) (hu : un < 380)
    (hlo : (la == sysModules) = false) (hd : ola.IsDictOf (Dz w) kv0) (h1 : OV ((valueAt kv0 (Str.ofString "initial")).getD .none) a1) (h2 : OV ((valueAt kv0 (Str.ofString "handshake")).getD .none) a2) (h3 : OV ((valueAt kv0 (Str.ofString "application")).getD .none) a3) (hb0 : 0 ≤ b) (hb1 : b < 1000) (hd0 : 0 ≤ d) (hd1 : d < 1000) (hc0 : 0 ≤ c) (hc1 : c < 3) (hoff : ∀ p ∈ rest, p.1 ≠ la)
    (hret : ∀ fd ofd kvs h' tk', Fr h₀ L h' m → News h₀ L h' ((fd, ofd) :: (la, ola) :: rest) → ofd.IsDictOf (Dz w) kvs → (fd == sysModules) = false → OV ((valueAt kvs (Str.ofString "initial")).getD .none) (ptO b d c cf a1 (Str.ofString "initial")) → OV ((valueAt kvs (Str.ofString "handshake")).getD .none) (ptO b d c cf a2 (Str.ofString "handshake")) → OV ((valueAt kvs (Str.ofString "application")).getD .none) (ptO b d c cf a3 (Str.ofString "application")) → fd ≠ la → (∀ q ∈ rest, q.1 ≠ fd) → Q (.ref fd) { s with heap := h', toks := tk' }),
    wpAny (model PySem.Challenge.rw_no0077_01.row.prog w) (ktrTop dp un gd cn cs L a ccd cl outer) (call (.ref 43) [.ref la, .int b tb, .int d td, .int c tc, .bool cf]) Q E s := by
  k_fill
  intro w mean mg mb dp un gd cn cs a ccd cl outer A₀ base h₀ L m s Q E rest la ola b d c tb td tc cf kv0 a1 a2 a3 B F X N T hk hdp hu hlo hd h1 h2 h3 hb0 hb1 hd0 hd1 hc0 hc1 hoff hret
  have N1 : News h₀ L s.heap [(la, ola)] := News.sub N (by lcg_sub)
  refine wpAny_call ?_
  k_dflt (refine' code_defG ?k1 ?k2 ?k3 ?k4 ?k5 ?kA ?kF ?kK ?k6 ?k7 ?k8 ?k9 ?kB ?_ ?c2 ?c3 ?c4 ?c5; (case kA => exact rfl); (case kF => exact rfl); (case kK => assumption); (case k1 => k_asm); (case k2 => k_asm); (case k3 => k_asm); (case k4 => exact N1); (case k5 => k_asm); (case k6 => k_is); (case k7 => k_is); (case k8 => ktr_room); (case k9 => exact BindsTo.of_eq rfl); (case c5 => decide); (case kB => exact locs rfl); (case c2 => exact rfl); (case c3 => exact rfl); (case c4 => exact rfl); k_whole; intro g' L' h' FG' F' N' B' X' T' GS'; (try dsimp only); (try k_fold))
  obtain ⟨mm, F1, r1, r2, r3, r4, r5⟩ : ∃ mm, Fr g' L' h' mm ∧ mm (Str.ofString "last_asked") = some (.ref la) ∧ mm (Str.ofString "base") = some (.int b tb) ∧ mm (Str.ofString "most_delay") = some (.int d td) ∧ mm (Str.ofString "count") = some (.int c tc) ∧ mm (Str.ofString "is_confirmed") = some (.bool cf) := ⟨_, F', rfl, rfl, rfl, rfl, rfl⟩
  clear F'
  change wpAny _ (ktrTop _ _ _ (Str.ofString "probe_times") (fnScope 5) _ 43 (.ref 42) [] _) (execs (stAt (fnBody 5) 0 :: stAt (fnBody 5) 1 :: [stAt (fnBody 5) 2]) (envOf (Str.ofString "probe_times") (fnScope 5) L' 43 (.ref 42))) _ _ _
  refine' p_init  B' ?F1 X' ?N1 T' ?hd1 ?hu1  ?hr1
  case F1 => with_reducible assumption
  case hd1 => walk_at "zr"
  case hu1 => walk_at "zu"
  case N1 => with_reducible assumption
  intro fd ofd hp2 tk2 m2 F2 rf off2 N2 hf2 lo2 aq
  try dsimp only
  replace r1 := off2.get r1
  replace r2 := off2.get r2
  replace r3 := off2.get r3
  replace r4 := off2.get r4
  replace r5 := off2.get r5
  have hfl : fd ≠ la := Nat.ne_of_gt aq.1
  refine' p_loop  B' ?F2 X' ?N2 T' ?hd2 ?hu2 ?z0_2 ?z1_2 ?z2_2 ?z3_2 ?z4_2 ?z5_2 ?z6_2 ?z7_2 ?z8_2 ?z9_2 ?z10_2 ?z11_2 ?z12_2 ?z13_2 ?hr2
  case F2 => with_reducible assumption
  case hd2 => walk_at "zr"
  case hu2 => walk_at "zu"
  case z0_2 => exact ⟨rf, r1, r2, r3, r4, r5⟩
  case N2 => with_reducible assumption
  case z1_2 => exact hlo
  case z2_2 => exact hf2
  case z3_2 => exact hd
  case z4_2 => exact h1
  case z5_2 => exact h2
  case z6_2 => exact h3
  case z7_2 => exact hb0
  case z8_2 => exact hb1
  case z9_2 => exact hd0
  case z10_2 => exact hd1
  case z11_2 => exact hc0
  case z12_2 => exact hc1
  case z13_2 => exact hfl
  intro ofd3 kvs hp3 tk3 m3 F3 rf3 N3 hd3 g1 g2 g3
  try dsimp only
  refine' p_ret  B' ?F3 X' ?N3 T' ?hd3 ?hu3 ?z0_3 ?hr3
  case F3 => with_reducible assumption
  case hd3 => walk_at "zr"
  case hu3 => walk_at "zu"
  case z0_3 => exact rf3
  case N3 => with_reducible assumption
  intro tk4
  try dsimp only
  have AP := news_apart (led := [(la, ola)]) N GS' (News.sub N3 (l' := [(fd, ofd3)]) (by lcg_sub)) (off_one hoff)
  clear N2 N'
  k_steps
  (rename Fr h₀ _ _ _ => kF); (rename News h₀ _ _ _ => kN)
  exact hret fd ofd3 kvs _ _ kF (news_back (led := [(la, ola)]) (new := [(fd, ofd3), (la, ola)]) N GS' F3 kN (off_one hoff)) hd3 lo2 g1 g2 g3 hfl (fun q hq => (AP _ (.head _) q hq).symm)
end
section
variable {prog : Program} {w : World} {A : Around} {E : Value → Shared → Prop} {s : Shared} {h₀ : Heap} {L : Addr} {m : Str → Option Value} {env : Env}
/-- a comprehension over a tuple that stood before the call -/
def TpSrc (prog : Program) (w : World) (A : Around) (h₀ : Heap) (L : Addr) (m : Str → Option Value) (env : Env) (elt : Expr) (x : Str) (scope : Scope) (cl : List (Str × Addr)) (Q : Value → Shared → Prop) (xv : Value) (s₁ : Shared) : Prop :=
  ∃ (ax : Addr) (its : Array Value) (news : List (Addr × Obj)), xv = .ref ax ∧ A.handled = none ∧ Fr h₀ L s₁.heap m ∧ News h₀ L s₁.heap news ∧ h₀.IsTuple ax its ∧ its.size ≤ sizeLine ∧
    ∀ g, LCg.CompRest prog w A h₀ L m env elt x scope cl { s₁ with heap := g } (fun _ => True) (fun i v => its[i]? = some v) (LCg.FinE h₀ L m { s₁ with heap := g } Q) its.size 0 [] news
theorem comp_tup {elt iter : Expr} {x : Str} {px : Pos} {scope : Scope} {cl : List (Str × Addr)} {pos : Pos} {Q : Value → Shared → Prop}
    (hclos : closureFor scope env = pure cl) (hcell : ∀ y ∈ scope.names, y.2 ≠ .cell) (hkind : scope.kind = .function)
    (hnames : ∀ y ∈ scope.names, y.2 = .local → scope.names.lookup y.1 = some .local) (hx : scope.names.lookup x = some .local)
    (h : wpAny (model prog w) A (eval iter env) (TpSrc prog w A h₀ L m env elt x scope cl Q) E s)
    (hs : ∀ x, foldedSetIterable iter env x = pure x := by intro _; rfl) :
    wpAny (model prog w) A (eval (.ListComp elt [⟨.Name x px, iter, [], 0⟩] scope pos) env) Q E s := by
  rw [eval_ListComp]
  refine wpAny_comprehension_free (use := none) rfl hs hclos hkind hnames (wpAny_mono h (fun xv s₁ h₁ => ?_) fun _ _ e => e)
  obtain ⟨ax, its, news, rfl, hh, F, N, ht, hsz, R⟩ := h₁
  have hl : s₁.heap.IsTuple ax its := ht.at fun o e => F.keep ax o e
  have hlt : ax < s₁.heap.objs.size := by obtain ⟨_, e, _⟩ := hl; exact Heap.lt_size e
  refine wpAny_pyIter_tuple hl ?_
  have up : ∀ b o, s₁.heap.get? b = some o → (s₁.heap.push { cls := .type "tuple_iterator", data := .fields #[.ref ax, .int 0 0] }).get? b = some o := fun b o e => Heap.get?_push_of_some _ e
  refine LCg.block_U (S := fun _ => True) (Walks.tuple hh s₁.heap.objs.size ax (Nat.ne_of_lt hlt) its) hsz (fun i h st => by obtain ⟨o, e, _⟩ := st.1; exact ⟨o, e⟩) ?st hcell hkind hx ⟨⟨_, Heap.get?_push_size _ rfl, rfl, rfl⟩, hl.at (up ax)⟩ (fun b hb => ?fp)
    (F.keeps up) (N.grown up) (Nat.ne_of_lt F.ns.lt) (next_is_new F) (fun p hp => Nat.ne_of_lt (Heap.lt_size (N p hp).1)) trivial (R _) ?fin
  case st =>
    intro i h h' o nw st e e' k _ _
    exact ⟨by obtain ⟨o', q, r⟩ := st.1; rw [e] at q; cases q; exact ⟨o, e', r⟩, ht.at fun o e => k ax o e⟩
  case fp =>
    show b < (s₁.heap.push _).objs.size
    rw [Heap.size_push]
    rcases List.mem_cons.mp hb with rfl | hb
    · exact Nat.lt_succ_self _
    · rw [List.mem_singleton.mp hb]; exact Nat.lt_succ_of_lt hlt
  case fin =>
    intro D C h tk m' ys news' F' N' o1 hn hC₀ hD₀ hCL hDL hCD offC fin
    refine ⟨m', hn, fun h'' hs'' => fin D h'' tk (F'.change hs'' hCL hC₀) (fun p hp => ?_) o1⟩
    refine ⟨hs''.extBut _ _ ?_ (N' p hp).1, (N' p hp).2⟩
    rcases List.mem_cons.mp hp with rfl | hp
    · exact Ne.symm hCD
    · exact offC p hp
end
section
variable {prog : Program} {w : World} {A : Around} {E : Value → Shared → Prop} {s : Shared} {Q : Value → Shared → Prop}
theorem isnot_ov {v : Value} {a : Option Int} (h : OV v a) (k : Q (.bool a.isSome) s) : wpAny (model prog w) A (compareOp .IsNot v .none) Q E s := by
  rcases h with ⟨rfl, rfl⟩ | ⟨n, t, rfl, rfl⟩
  · exact wpAny_isNot_self (by rfl) k
  · exact wpAny_isNot_other (by rfl) (by intro x; cases x) k
end
section
local macro_rules | `(tactic| walk_at "getMethod ref") => `(tactic| walk_at "z15")
local macro_rules | `(tactic| walk_at "call builtin:dict.get") => `(tactic| walk_at "z16")
local macro_rules | `(tactic| walk_at "compareOp IsNot") => `(tactic| (k_here; refine isnot_ov (by with_reducible assumption) ?_))
local macro_rules | `(tactic| walk_at "eval ListComp") => `(tactic| (k_here; refine held ?_))
set_option maxHeartbeats 8000000 in
theorem a_ret : ∀ {w : World} {mean : ExcName → Option Value} {mg mb : Str → Option Value} {dp un : Nat} {gd : Option (List Code)} {outer : List Env} {A₀ : Around} {base h₀ : Heap} {L : Addr} {m : Str → Option Value} {s : Shared} {tl : List Stmt} {Q : Flow → Shared → Prop} {E : Value → Shared → Prop} {rest : List (Addr × Obj)} {la : Addr} {ola oc : Obj} {kv0 : List (Str × Value)} {a1 a2 a3 : Option Int}
    (B : Below A₀ base outer h₀) (F : Fr h₀ L s.heap m) (X : (heapK w.params).In h₀) (N : News h₀ L s.heap ((la, ola) :: (L + 1, oc) :: rest)) (T : Top vw (looseW vw []) mean mg mb h₀) (hdp : dp < 390) (hu : un < 390)
    (hc : oc.data = .cell (some (.ref la))) (hlo : (la == sysModules) = false) (hd : ola.IsDictOf (Dz w) kv0) (h1 : OV ((valueAt kv0 (Str.ofString "initial")).getD .none) a1) (h2 : OV ((valueAt kv0 (Str.ofString "handshake")).getD .none) a2) (h3 : OV ((valueAt kv0 (Str.ofString "application")).getD .none) a3)
    (hret : ∀ h' tk', Fr h₀ L h' m → News h₀ L h' ((la, ola) :: (L + 1, oc) :: rest) → Q (.ret (.bool (a1.isSome || (a2.isSome || a3.isSome)))) { s with heap := h', toks := tk' }),
    wpAny (model PySem.Challenge.rw_no0077_01.row.prog w) (ktrTop dp un gd (Str.ofString "is_anything_asked") (fnScope 6) L 48 (.ref 47) (cellsFrom (L + 1) (fnScope 6).names []) outer) (execs ((stAt (fnBody 6) 0) :: tl) (envOfC (Str.ofString "is_anything_asked") (fnScope 6) L 48 (.ref 47))) Q E s := by
  k_fill
  intro w mean mg mb dp un gd outer A₀ base h₀ L m s tl Q E rest la ola oc kv0 a1 a2 a3 B F X N T hdp hu hc hlo hd h1 h2 h3 hret
  walk_at "zwr"
  k_steps
  (show wpAny _ _ _ _ _ _)
  k_dflt (refine comp_tup (h₀ := h₀) (L := L) (m := m) (by rfl) (by decide) (by rfl) (by decide) (by rfl) ?_)
  k_steps
  refine' ⟨22, (nmL 196 197 198).toArray, _, rfl, by rfl, F, N, ?tup, ?sz, ?R⟩
  case tup => k_dflt (refine' tupK (K := heapK w.params) X ?l; (case l => k_is))
  case sz => exact Nat.le_of_ble_eq_true rfl
  case R =>
    intro g
    show LCg.CompRest _ _ _ _ _ _ _ _ _ _ _ _ _ _ _ 3 _ _ _
    k_steps
    walk_at "zc"
    (show LCg.CompEnd _ _ _ _ _ _ _ _ _ _ _ _ _ _)
    (rename Fr _ _ _ _ => kF1); (rename News _ _ _ _ => kN1)
    refine' LCg.CompEnd.intro kF1 kN1 _ (sub3 ?qa1 ?qb1 ?qc1) ?off1 ?src1 ?nxt1
    case qa1 => walk_at "zp"
    case qb1 => walk_at "zp"
    case qc1 => walk_at "zp"
    case src1 => trivial
    case off1 => (repeat (first | assumption | (refine And.intro ⟨by k_ne, by k_ne, by k_ne⟩ ?_)))
    k_steps
    walk_at "zc"
    (show LCg.CompEnd _ _ _ _ _ _ _ _ _ _ _ _ _ _)
    (rename Fr _ _ _ _ => kF2); (rename News _ _ _ _ => kN2)
    refine' LCg.CompEnd.intro kF2 kN2 _ (sub3 ?qa2 ?qb2 ?qc2) ?off2 ?src2 ?nxt2
    case qa2 => walk_at "zp"
    case qb2 => walk_at "zp"
    case qc2 => walk_at "zp"
    case src2 => trivial
    case off2 => (repeat (first | assumption | (refine And.intro ⟨by k_ne, by k_ne, by k_ne⟩ ?_)))
    k_steps
    walk_at "zc"
    (show LCg.CompEnd _ _ _ _ _ _ _ _ _ _ _ _ _ _)
    (rename Fr _ _ _ _ => kF3); (rename News _ _ _ _ => kN3)
    refine' LCg.CompEnd.intro kF3 kN3 _ (sub3 ?qa3 ?qb3 ?qc3) ?off3 ?src3 ?nxt3
    case qa3 => walk_at "zp"
    case qb3 => walk_at "zp"
    case qc3 => walk_at "zp"
    case src3 => trivial
    case off3 => (repeat (first | assumption | (refine And.intro ⟨by k_ne, by k_ne, by k_ne⟩ ?_)))
    k_steps
    (try dsimp only); (rename Fr _ _ _ _ => kF); (rename News _ _ _ _ => kN)
    exact hret _ _ kF (News.sub kN (by walk_at "zs"))
end
section
local macro_rules | `(tactic| k_ne) => `(tactic| walk_at "z13")
local macro_rules | `(tactic| k_room) => `(tactic| walk_at "z1")
local macro_rules | `(tactic| k_enter) => `(tactic| walk_at "z4")
local macro_rules | `(tactic| walk_at "execs cons") => `(tactic| walk_at "z5")
set_option maxHeartbeats 8000000 in
theorem asked_call : ∀ {w : World} {mean : ExcName → Option Value} {mg mb : Str → Option Value} {dp un : Nat} {gd : Option (List Code)} {cn : Str} {cs : Scope} {a : Addr} {ccd : Value} {cl : List (Str × Addr)} {outer : List Env} {A₀ : Around} {base h₀ : Heap} {L : Addr} {m : Str → Option Value} {s : Shared}
    {Q E : Value → Shared → Prop} {rest : List (Addr × Obj)} {la : Addr} {ola : Obj} {kv0 : List (Str × Value)} {a1 a2 a3 : Option Int}
    (B : Below A₀ base outer h₀) (F : Fr h₀ L s.heap m) (X : (heapK w.params).In h₀) (N : News h₀ L s.heap ((la, ola) :: rest)) (T : Top vw (looseW vw []) mean mg mb h₀) (hk : cs.kind = .function) (hdp : dp < 385) (hu : un < 385)
    (hlo : (la == sysModules) = false) (hd : ola.IsDictOf (Dz w) kv0) (h1 : OV ((valueAt kv0 (Str.ofString "initial")).getD .none) a1) (h2 : OV ((valueAt kv0 (Str.ofString "handshake")).getD .none) a2) (h3 : OV ((valueAt kv0 (Str.ofString "application")).getD .none) a3) (hoff : ∀ p ∈ rest, p.1 ≠ la)
    (hret : ∀ h' tk', Fr h₀ L h' m → News h₀ L h' ((la, ola) :: rest) → Q (.bool (a1.isSome || (a2.isSome || a3.isSome))) { s with heap := h', toks := tk' }),
    wpAny (model PySem.Challenge.rw_no0077_01.row.prog w) (ktrTop dp un gd cn cs L a ccd cl outer) (call (.ref 48) [.ref la]) Q E s := by
  k_fill
  intro w mean mg mb dp un gd cn cs a ccd cl outer A₀ base h₀ L m s Q E rest la ola kv0 a1 a2 a3 B F X N T hk hdp hu hlo hd h1 h2 h3 hoff hret
  have N1 : News h₀ L s.heap [(la, ola)] := News.sub N (by lcg_sub)
  refine wpAny_call ?_
  k_dflt (refine' enter_cells ?k1 ?k2 ?k3 ?k4 ?k5 ?kA ?kF ?kK ?k6 ?k7 ?k8 ?k9 ?kB ?kD ?_ ?c2 ?c3 ?c4; (case kA => exact rfl); (case kF => exact rfl); (case kK => assumption); (case k1 => k_asm); (case k2 => k_asm); (case k3 => k_asm); (case k4 => exact N1); (case k5 => k_asm); (case k6 => k_is); (case k7 => k_is); (case k8 => ktr_room); (case k9 => exact BindsTo.of_eq rfl); (case kB => exact rfl); (case kD => decide +kernel); (case c2 => exact rfl); (case c3 => exact rfl); (case c4 => exact rfl); k_whole; intro g' L' h' tk' cells' FG' F' N' Y' B' X' T' l1 GS'; (try k_lt l1); k_cells Y'; (try simp only [List.cons_append, List.nil_append] at N'); (try dsimp only); (try k_fold))
  (rename Obj.data _ = Data.cell _ => dcx)
  have dc : _ = Data.cell (some (.ref la)) := dcx
  clear dcx
  obtain ⟨mm, F1⟩ : ∃ mm, Fr g' L' h' mm := ⟨_, F'⟩
  clear F'
  change wpAny _ (ktrTop _ _ _ (Str.ofString "is_anything_asked") (fnScope 6) _ 48 (.ref 47) (cellsFrom (L' + 1) (fnScope 6).names []) _) (execs [stAt (fnBody 6) 0] (envOfC (Str.ofString "is_anything_asked") (fnScope 6) L' 48 (.ref 47))) _ _ _
  refine' a_ret (la := la) B' ?F1 X' (News.pull2 ?P1_1 ?P2_1 ?N1) T' ?hd1 ?hu1 ?z0_1 ?z1_1 ?z2_1 ?z3_1 ?z4_1 ?z5_1 ?hr1
  case F1 => with_reducible assumption
  case hd1 => walk_at "zr"
  case hu1 => walk_at "zu"
  case N1 => with_reducible assumption
  case P1_1 => walk_at "zp"
  case P2_1 => walk_at "zp"
  case z0_1 => exact dc
  case z1_1 => exact hlo
  case z2_1 => exact hd
  case z3_1 => exact h1
  case z4_1 => exact h2
  case z5_1 => exact h3
  intro hp3 tk3 F3 N3
  try dsimp only
  have NF := News.sub N3 (l' := [(la, ola)]) (by lcg_sub)
  k_steps
  (rename Fr h₀ _ _ _ => kF); (rename News h₀ _ _ _ => kN)
  exact hret _ _ kF (news_back (led := [(la, ola)]) (new := [(la, ola)]) N GS' F3 (News.sub kN (by lcg_sub)) (off_one hoff))
end
def probeS (b d c now : Int) (cf vl ky : Bool) (a1 a2 a3 : Option Int) : Option (Int × Str) :=
  if (a1.isSome || (a2.isSome || a3.isSome)) = true then earliest (ptO b d c cf a1 (Str.ofString "initial")) (ptO b d c cf a2 (Str.ofString "handshake")) (ptO b d c cf a3 (Str.ofString "application")) else if vl = true then none else some (now + (b + 0) * 2 ^ c.toNat, if ky = true then Str.ofString "handshake" else Str.ofString "initial")
section
local macro_rules | `(tactic| walk_at "call ref") => `(tactic| (k_here; refine held ?_))
local macro_rules | `(tactic| walk_at "zz5") => `(tactic| skip)
set_option maxHeartbeats 8000000 in
theorem d_one : ∀ {w : World} {mean : ExcName → Option Value} {mg mb : Str → Option Value} {dp un : Nat} {gd : Option (List Code)} {outer : List Env} {A₀ : Around} {base h₀ : Heap} {L : Addr} {m : Str → Option Value} {s : Shared} {tl : List Stmt} {Q : Flow → Shared → Prop} {E : Value → Shared → Prop} {rest : List (Addr × Obj)} {la : Addr} {ola : Obj} {b d c : Int} {tb td tc : Tok} {cf : Bool} {kv0 : List (Str × Value)} {a1 a2 a3 : Option Int}
    (B : Below A₀ base outer h₀) (F : Fr h₀ L s.heap m) (X : (heapK w.params).In h₀) (N : News h₀ L s.heap ((la, ola) :: rest)) (T : Top vw (looseW vw []) mean mg mb h₀) (hdp : dp < 375) (hu : un < 375)
    (r1 : m (Str.ofString "last_asked") = some (.ref la)) (r2 : m (Str.ofString "base") = some (.int b tb)) (r3 : m (Str.ofString "most_delay") = some (.int d td)) (r4 : m (Str.ofString "count") = some (.int c tc)) (r5 : m (Str.ofString "is_confirmed") = some (.bool cf)) (hlo : (la == sysModules) = false) (hd : ola.IsDictOf (Dz w) kv0) (h1 : OV ((valueAt kv0 (Str.ofString "initial")).getD .none) a1) (h2 : OV ((valueAt kv0 (Str.ofString "handshake")).getD .none) a2) (h3 : OV ((valueAt kv0 (Str.ofString "application")).getD .none) a3) (hb0 : 0 ≤ b) (hb1 : b < 1000) (hd0 : 0 ≤ d) (hd1 : d < 1000) (hc0 : 0 ≤ c) (hc1 : c < 3) (hoff : ∀ p ∈ rest, p.1 ≠ la) (hyes : (a1.isSome || (a2.isSome || a3.isSome)) = true → ∀ v new h' tk', Fr h₀ L h' m → News h₀ L h' (new ++ (la, ola) :: rest) → TV new v (earliest (ptO b d c cf a1 (Str.ofString "initial")) (ptO b d c cf a2 (Str.ofString "handshake")) (ptO b d c cf a3 (Str.ofString "application"))) → (∀ p ∈ new, ∀ q ∈ (la, ola) :: rest, p.1 ≠ q.1) → Q (.ret v) { s with heap := h', toks := tk' })
    (hret : (a1.isSome || (a2.isSome || a3.isSome)) = false → ∀ h' tk', Fr h₀ L h' m → News h₀ L h' ((la, ola) :: rest) → wpAny (model PySem.Challenge.rw_no0077_01.row.prog w) (ktrTop dp un gd (Str.ofString "probe_due") (fnScope 7) L 55 (.ref 54) [] outer) (execs tl (envOf (Str.ofString "probe_due") (fnScope 7) L 55 (.ref 54))) Q E { s with heap := h', toks := tk' }),
    wpAny (model PySem.Challenge.rw_no0077_01.row.prog w) (ktrTop dp un gd (Str.ofString "probe_due") (fnScope 7) L 55 (.ref 54) [] outer) (execs ((stAt (fnBody 7) 0) :: tl) (envOf (Str.ofString "probe_due") (fnScope 7) L 55 (.ref 54))) Q E s := by
  k_fill
  intro w mean mg mb dp un gd outer A₀ base h₀ L m s tl Q E rest la ola b d c tb td tc cf kv0 a1 a2 a3 B F X N T hdp hu r1 r2 r3 r4 r5 hlo hd h1 h2 h3 hb0 hb1 hd0 hd1 hc0 hc1 hoff hyes hret
  walk_at "zwi"
  k_steps
  (show wpAny _ _ (call (Value.ref 48) _) _ _ _)
  k_dflt ((refine' asked_call (N := ?N) ?B ?F ?X ?T ?k ?d ?u ?z1 ?z2 ?z3 ?z4 ?z5 ?z6 ?_; (case N => k_asm); (case B => k_asm); (case F => k_asm); (case X => k_asm); (case T => k_asm); (case k => exact rfl); (case d => walk_at "zr"); (case u => walk_at "zu"); (case z1 => assumption); (case z2 => assumption); (case z3 => exact h1); (case z4 => exact h2); (case z5 => exact h3); (case z6 => k_all); k_whole); intro hp1 tk1 F1 N1; (try dsimp only); (try k_sweep))
  k_steps
  · (rename _ = true => hany)
    (show wpAny _ _ (call (Value.ref 43) _) _ _ _)
    k_dflt ((refine' times_call (N := ?N) ?B ?F ?X ?T ?k ?d ?u ?z1 ?z2 ?z3 ?z4 ?z5 ?z6 ?z7 ?z8 ?z9 ?y1 ?y2 ?y3 ?_; (case N => k_asm); (case B => k_asm); (case F => k_asm); (case X => k_asm); (case T => k_asm); (case k => exact rfl); (case d => walk_at "zr"); (case u => walk_at "zu"); (case z1 => assumption); (case z2 => assumption); (case z3 => exact h1); (case z4 => exact h2); (case z5 => exact h3); (case z6 => assumption); (case z7 => assumption); (case z8 => assumption); (case z9 => assumption); (case y1 => assumption); (case y2 => assumption); (case y3 => k_all); k_whole); intro fd ofd kvs hp2 tk2 F2 N2 hf2 lo2 g1 g2 g3 hfl hfr; (try dsimp only); (try k_sweep))
    k_steps
    (show wpAny _ _ (call (Value.ref 36) _) _ _ _)
    k_dflt ((refine' earliest_call (N := ?N) ?B ?F ?X ?T ?k ?d ?u ?z1 ?z2 ?z3 ?z4 ?z5 ?z6 ?_; (case N => k_asm); (case B => k_asm); (case F => k_asm); (case X => k_asm); (case T => k_asm); (case k => exact rfl); (case d => walk_at "zr"); (case u => walk_at "zu"); (case z1 => exact lo2); (case z2 => exact hf2); (case z3 => exact g1); (case z4 => exact g2); (case z5 => exact g3); (case z6 => exact List.forall_mem_cons.mpr ⟨hfl.symm, hfr⟩); k_whole); intro v new hp3 tk3 F3 N3 tv3 ap3; (try dsimp only); (try k_sweep))
    k_steps
    (try dsimp only)
    refine hyes hany v (new ++ [(fd, ofd)]) _ _ F3 (by rw [List.append_assoc]; exact N3) tv3 fun p hp q hq => ?_
    rcases List.mem_append.mp hp with hp | hp
    · exact ap3 p hp q (.tail _ hq)
    · rw [List.mem_singleton.mp hp]
      rcases List.mem_cons.mp hq with rfl | hq
      · exact hfl
      · exact (hfr q hq).symm
  · (rename _ = false => hany)
    (try dsimp only)
    exact hret hany _ _ F1 N1
set_option maxHeartbeats 8000000 in
theorem d_two : ∀ {w : World} {mean : ExcName → Option Value} {mg mb : Str → Option Value} {dp un : Nat} {gd : Option (List Code)} {outer : List Env} {A₀ : Around} {base h₀ : Heap} {L : Addr} {m : Str → Option Value} {s : Shared} {tl : List Stmt} {Q : Flow → Shared → Prop} {E : Value → Shared → Prop} {rest : List (Addr × Obj)} {vl : Bool}
    (B : Below A₀ base outer h₀) (F : Fr h₀ L s.heap m) (X : (heapK w.params).In h₀) (N : News h₀ L s.heap (rest)) (T : Top vw (looseW vw []) mean mg mb h₀) (hdp : dp < 375) (hu : un < 375)
    (r1 : m (Str.ofString "is_validated") = some (.bool vl)) (hyes : vl = true → ∀ tk', Q (.ret .none) { s with toks := tk' })
    (hret : vl = false → ∀ tk', wpAny (model PySem.Challenge.rw_no0077_01.row.prog w) (ktrTop dp un gd (Str.ofString "probe_due") (fnScope 7) L 55 (.ref 54) [] outer) (execs tl (envOf (Str.ofString "probe_due") (fnScope 7) L 55 (.ref 54))) Q E { s with toks := tk' }),
    wpAny (model PySem.Challenge.rw_no0077_01.row.prog w) (ktrTop dp un gd (Str.ofString "probe_due") (fnScope 7) L 55 (.ref 54) [] outer) (execs ((stAt (fnBody 7) 1) :: tl) (envOf (Str.ofString "probe_due") (fnScope 7) L 55 (.ref 54))) Q E s := by
  k_fill
  intro w mean mg mb dp un gd outer A₀ base h₀ L m s tl Q E rest vl B F X N T hdp hu r1 hyes hret
  walk_at "zwi"
  k_steps
  all_goals (try dsimp only)
  · exact hyes (by assumption) _
  · exact hret (by assumption) _
set_option maxHeartbeats 8000000 in
theorem d_three : ∀ {w : World} {mean : ExcName → Option Value} {mg mb : Str → Option Value} {dp un : Nat} {gd : Option (List Code)} {outer : List Env} {A₀ : Around} {base h₀ : Heap} {L : Addr} {m : Str → Option Value} {s : Shared} {tl : List Stmt} {Q : Flow → Shared → Prop} {E : Value → Shared → Prop} {rest : List (Addr × Obj)} {b c now : Int} {tb tc tn : Tok} {ky : Bool}
    (B : Below A₀ base outer h₀) (F : Fr h₀ L s.heap m) (X : (heapK w.params).In h₀) (N : News h₀ L s.heap (rest)) (T : Top vw (looseW vw []) mean mg mb h₀) (hdp : dp < 375) (hu : un < 375)
    (r1 : m (Str.ofString "now") = some (.int now tn)) (r2 : m (Str.ofString "base") = some (.int b tb)) (r4 : m (Str.ofString "count") = some (.int c tc)) (r5 : m (Str.ofString "has_handshake_keys") = some (.bool ky)) (hb0 : 0 ≤ b) (hb1 : b < 1000) (hc0 : 0 ≤ c) (hc1 : c < 3)
    (hret : ∀ tup t u k h' tk', Fr h₀ L h' m → News h₀ L h' ((tup, { cls := .type "tuple", data := .seq #[.int (now + (b + 0) * 2 ^ c.toNat) t, .str (if ky = true then Str.ofString "handshake" else Str.ofString "initial") u] k }) :: rest) → AllLt tup rest → Q (.ret (.ref tup)) { s with heap := h', toks := tk' }),
    wpAny (model PySem.Challenge.rw_no0077_01.row.prog w) (ktrTop dp un gd (Str.ofString "probe_due") (fnScope 7) L 55 (.ref 54) [] outer) (execs ((stAt (fnBody 7) 2) :: tl) (envOf (Str.ofString "probe_due") (fnScope 7) L 55 (.ref 54))) Q E s := by
  k_fill
  intro w mean mg mb dp un gd outer A₀ base h₀ L m s tl Q E rest b c now tb tc tn ky B F X N T hdp hu r1 r2 r4 r5 hb0 hb1 hc0 hc1 hret
  walk_at "zwr"
  k_steps
  (show wpAny _ _ (call (Value.ref 29) _) _ _ _)
  k_dflt ((refine' period_call (N := ?N) ?B ?F ?X ?T ?k ?d ?u ?z1 ?z2 ?z3 ?z4 ?z5 ?z6 ?_; (case N => k_asm); (case B => k_asm); (case F => k_asm); (case X => k_asm); (case T => k_asm); (case k => exact rfl); (case d => walk_at "zr"); (case u => walk_at "zu"); (case z1 => first | assumption | decide); (case z2 => first | assumption | decide); (case z3 => first | assumption | decide); (case z4 => first | assumption | decide); (case z5 => first | assumption | decide); (case z6 => first | assumption | decide); k_whole); intro t1 hp1 tk1 F1 N1; (try dsimp only); (try k_sweep))
  k_steps
  all_goals (try dsimp only)
  all_goals ((rename Fr _ _ _ _ => kF); (rename News _ _ _ _ => kN); (rename ky = _ => e1); subst e1; exact hret _ _ _ _ _ _ kF kN (by assumption))
end
section
local macro_rules | `(tactic| k_ne) => `(tactic| walk_at "z13")
local macro_rules | `(tactic| k_room) => `(tactic| walk_at "z1")
local macro_rules | `(tactic| k_enter) => `(tactic| walk_at "z4")
local macro_rules | `(tactic| walk_at "execs cons") => `(tactic| walk_at "z5")
set_option maxHeartbeats 8000000 in
theorem due_call : ∀ {w : World} {mean : ExcName → Option Value} {mg mb : Str → Option Value} {dp un : Nat} {gd : Option (List Code)} {cn : Str} {cs : Scope} {a : Addr} {ccd : Value} {cl : List (Str × Addr)} {outer : List Env} {A₀ : Around} {base h₀ : Heap} {L : Addr} {m : Str → Option Value} {s : Shared}
    {Q E : Value → Shared → Prop} {rest : List (Addr × Obj)} {la : Addr} {ola : Obj} {b d c now : Int} {tb td tc tn : Tok} {cf vl ky : Bool} {kv0 : List (Str × Value)} {a1 a2 a3 : Option Int}
    (B : Below A₀ base outer h₀) (F : Fr h₀ L s.heap m) (X : (heapK w.params).In h₀) (N : News h₀ L s.heap ((la, ola) :: rest)) (T : Top vw (looseW vw []) mean mg mb h₀) (hk : cs.kind = .function) (hdp : dp < 370) (hu : un < 370)
    (hlo : (la == sysModules) = false) (hd : ola.IsDictOf (Dz w) kv0) (h1 : OV ((valueAt kv0 (Str.ofString "initial")).getD .none) a1) (h2 : OV ((valueAt kv0 (Str.ofString "handshake")).getD .none) a2) (h3 : OV ((valueAt kv0 (Str.ofString "application")).getD .none) a3) (hb0 : 0 ≤ b) (hb1 : b < 1000) (hd0 : 0 ≤ d) (hd1 : d < 1000) (hc0 : 0 ≤ c) (hc1 : c < 3) (hoff : ∀ p ∈ rest, p.1 ≠ la)
    (hret : ∀ v new h' tk', Fr h₀ L h' m → News h₀ L h' (new ++ (la, ola) :: rest) → TV new v (probeS b d c now cf vl ky a1 a2 a3) → (∀ p ∈ new, ∀ q ∈ (la, ola) :: rest, p.1 ≠ q.1) → Q v { s with heap := h', toks := tk' }),
    wpAny (model PySem.Challenge.rw_no0077_01.row.prog w) (ktrTop dp un gd cn cs L a ccd cl outer) (call (.ref 55) [.ref la, .int b tb, .int d td, .int c tc, .bool cf, .bool vl, .bool ky, .int now tn]) Q E s := by
  k_fill
  intro w mean mg mb dp un gd cn cs a ccd cl outer A₀ base h₀ L m s Q E rest la ola b d c now tb td tc tn cf vl ky kv0 a1 a2 a3 B F X N T hk hdp hu hlo hd h1 h2 h3 hb0 hb1 hd0 hd1 hc0 hc1 hoff hret
  have N1 : News h₀ L s.heap [(la, ola)] := News.sub N (by lcg_sub)
  refine wpAny_call ?_
  k_dflt (refine' code_defG ?k1 ?k2 ?k3 ?k4 ?k5 ?kA ?kF ?kK ?k6 ?k7 ?k8 ?k9 ?kB ?_ ?c2 ?c3 ?c4 ?c5; (case kA => exact rfl); (case kF => exact rfl); (case kK => assumption); (case k1 => k_asm); (case k2 => k_asm); (case k3 => k_asm); (case k4 => exact N1); (case k5 => k_asm); (case k6 => k_is); (case k7 => k_is); (case k8 => ktr_room); (case k9 => exact BindsTo.of_eq rfl); (case c5 => decide); (case kB => exact locs rfl); (case c2 => exact rfl); (case c3 => exact rfl); (case c4 => exact rfl); k_whole; intro g' L' h' FG' F' N' B' X' T' GS'; (try dsimp only); (try k_fold))
  obtain ⟨mm, F1, r1, r2, r3, r4, r5, r6, r7, r8⟩ : ∃ mm, Fr g' L' h' mm ∧ mm (Str.ofString "last_asked") = some (.ref la) ∧ mm (Str.ofString "base") = some (.int b tb) ∧ mm (Str.ofString "most_delay") = some (.int d td) ∧ mm (Str.ofString "count") = some (.int c tc) ∧ mm (Str.ofString "is_confirmed") = some (.bool cf) ∧ mm (Str.ofString "is_validated") = some (.bool vl) ∧ mm (Str.ofString "has_handshake_keys") = some (.bool ky) ∧ mm (Str.ofString "now") = some (.int now tn) := ⟨_, F', rfl, rfl, rfl, rfl, rfl, rfl, rfl, rfl⟩
  clear F'
  change wpAny _ (ktrTop _ _ _ (Str.ofString "probe_due") (fnScope 7) _ 55 (.ref 54) [] _) (execs (stAt (fnBody 7) 0 :: stAt (fnBody 7) 1 :: [stAt (fnBody 7) 2]) (envOf (Str.ofString "probe_due") (fnScope 7) L' 55 (.ref 54))) _ _ _
  refine' d_one  B' ?F1 X' ?N1 T' ?hd1 ?hu1 ?z0_1 ?z1_1 ?z2_1 ?z3_1 ?z4_1 ?z5_1 ?z6_1 ?z7_1 ?z8_1 ?z9_1 ?z10_1 ?z11_1 ?z12_1 ?z13_1 ?z14_1 ?z15_1 ?z16_1 ?z17_1 ?hr1
  case F1 => with_reducible assumption
  case hd1 => walk_at "zr"
  case hu1 => walk_at "zu"
  case z0_1 => exact r1
  case z1_1 => exact r2
  case z2_1 => exact r3
  case z3_1 => exact r4
  case z4_1 => exact r5
  case N1 => with_reducible assumption
  case z5_1 => exact hlo
  case z6_1 => exact hd
  case z7_1 => exact h1
  case z8_1 => exact h2
  case z9_1 => exact h3
  case z10_1 => exact hb0
  case z11_1 => exact hb1
  case z12_1 => exact hd0
  case z13_1 => exact hd1
  case z14_1 => exact hc0
  case z15_1 => exact hc1
  case z16_1 => exact (fun _ h => nomatch h)
  case z17_1 => (
      intro hany v new hp3 tk3 F3 N3 tv3 ap3
      clear N'
      have htv : TV new v (probeS b d c now cf vl ky a1 a2 a3) := by unfold probeS; rw [if_pos hany]; exact tv3
      have AP := news_apart (led := [(la, ola)]) N GS' (News.sub N3 (l' := new) (by exact fun p hp => List.mem_append.mpr (.inl hp))) (off_one hoff)
      k_steps
      (rename Fr h₀ _ _ _ => kF); (rename News h₀ _ _ _ => kN)
      have K1 := news_back (led := [(la, ola)]) (new := new ++ [(la, ola)]) N GS' F3 kN (off_one hoff)
      rw [List.append_assoc] at K1
      exact hret v new _ _ kF K1 htv (fun p hp q hq => (List.mem_cons.mp hq).elim (fun e => e ▸ ap3 p hp _ (.head _)) (AP p hp q))
      )
  intro hany hp3 tk3 F3 N3
  try dsimp only
  clear N'
  refine' d_two  B' ?F2 X' ?N2 T' ?hd2 ?hu2 ?z0_2 ?z1_2 ?hr2
  case F2 => with_reducible assumption
  case hd2 => walk_at "zr"
  case hu2 => walk_at "zu"
  case z0_2 => exact r6
  case N2 => with_reducible assumption
  case z1_2 => (
      intro hvl tk4
      have htv : TV [] .none (probeS b d c now cf vl ky a1 a2 a3) := by unfold probeS; rw [if_neg (by rw [hany]; decide), if_pos hvl]; exact .inl ⟨rfl, rfl⟩
      have AP := news_apart (led := [(la, ola)]) N GS' (News.sub N3 (l' := []) (by exact fun _ h => nomatch h)) (off_one hoff)
      k_steps
      (rename Fr h₀ _ _ _ => kF); (rename News h₀ _ _ _ => kN)
      have K1 := news_back (led := [(la, ola)]) (new := [] ++ [(la, ola)]) N GS' F3 kN (off_one hoff)
      rw [List.append_assoc] at K1
      exact hret .none [] _ _ kF K1 htv (fun p hp q hq => (List.mem_cons.mp hq).elim (fun e => nomatch hp) (AP p hp q))
      )
  intro hvl tk4
  try dsimp only
  refine' d_three  B' ?F3 X' ?N3 T' ?hd3 ?hu3 ?z0_3 ?z1_3 ?z2_3 ?z3_3 ?z4_3 ?z5_3 ?z6_3 ?z7_3 ?hr3
  case F3 => with_reducible assumption
  case hd3 => walk_at "zr"
  case hu3 => walk_at "zu"
  case z0_3 => exact r8
  case z1_3 => exact r2
  case z2_3 => exact r4
  case z3_3 => exact r7
  case N3 => with_reducible assumption
  case z4_3 => exact hb0
  case z5_3 => exact hb1
  case z6_3 => exact hc0
  case z7_3 => exact hc1
  intro tup t u k hp5 tk5 F5 N5 aT
  try dsimp only
  have htv : TV [(tup, ({ cls := .type "tuple", data := .seq #[.int (now + (b + 0) * 2 ^ c.toNat) t, .str (if ky = true then Str.ofString "handshake" else Str.ofString "initial") u] k } : Obj))] (.ref tup) (probeS b d c now cf vl ky a1 a2 a3) := by
    have e1 : probeS b d c now cf vl ky a1 a2 a3 = (if vl = true then none else some (now + (b + 0) * 2 ^ c.toNat, if ky = true then Str.ofString "handshake" else Str.ofString "initial")) := if_neg (by rw [hany]; decide)
    have e2 := e1.trans (if_neg (by rw [hvl]; decide))
    exact .inr ⟨_, t, _, u, tup, k, rfl, .head _, e2⟩
  clear N3
  have AP := news_apart (led := [(la, ola)]) N GS' (News.sub N5 (l' := [(tup, _)]) (by lcg_sub)) (off_one hoff)
  k_steps
  (rename Fr h₀ _ _ _ => kF); (rename News h₀ _ _ _ => kN)
  have K1 := news_back (led := [(la, ola)]) (new := [(tup, _)] ++ [(la, ola)]) N GS' F5 kN (off_one hoff)
  rw [List.append_assoc] at K1
  exact hret (.ref tup) [(tup, _)] _ _ kF K1 htv (fun p hp q hq => (List.mem_cons.mp hq).elim (fun e => e ▸ (by rw [List.mem_singleton.mp hp]; exact Nat.ne_of_gt aT.1)) (AP p hp q))
end
/-- an optional (time, name, kind), as a value in a ledger -/
def T3 (led : List (Addr × Obj)) (v : Value) (o : Option (Int × Str × Str)) : Prop := (v = .none ∧ o = none) ∨ ∃ n t nm u kd uk a k, v = .ref a ∧ (a, ({ cls := .type "tuple", data := .seq #[.int n t, .str nm u, .str kd uk] k } : Obj)) ∈ led ∧ o = some (n, nm, kd)
def nextS (l1 l2 l3 : Option Int) (pr : Option (Int × Str)) (bl : Bool) : Option (Int × Str × Str) := match earliest l1 l2 l3 with
  | some (t, n) => some (t, n, Str.ofString "loss")
  | none => if bl = true then none else match pr with
    | some (t, n) => some (t, n, Str.ofString "probe")
    | none => none
def Fresh (h₀ : Heap) (L : Addr) (h : Heap) (new : List (Addr × Obj)) : Prop := ∀ all, News h₀ L h all → ∀ p ∈ new, ∀ q ∈ all, p.1 ≠ q.1
theorem apart_all {h₀ h g h' : Heap} {L L' : Addr} {led all new : List (Addr × Obj)} (N : News h₀ L h all) (G : GSub h g (led.map (·.1))) (K : News g L' h' new) (ap : ∀ p ∈ new, ∀ q ∈ led, p.1 ≠ q.1) : ∀ p ∈ new, ∀ q ∈ all, p.1 ≠ q.1 := by
  intro p hp q hq e
  by_cases h : q.1 ∈ led.map (·.1)
  · obtain ⟨r, hr, hre⟩ := List.mem_map.mp h
    exact ap p hp r hr (e.trans hre.symm)
  · have h2 := G _ _ (N q hq).1 h
    have h3 := (K p hp).2.2
    rw [e, h2] at h3
    cases h3
theorem TV.ext {led : List (Addr × Obj)} {v : Value} {o : Option (Int × Str)} (h : TV led v o) : ∃ ext, (∀ p ∈ ext, p ∈ led) ∧ TV ext v o ∧ ext.length ≤ 1 := by
  rcases h with ⟨rfl, rfl⟩ | ⟨n, t, nm, u, a, k, h1, h2, h3⟩
  · exact ⟨[], (fun _ h => nomatch h), .inl ⟨rfl, rfl⟩, Nat.zero_le _⟩
  · exact ⟨[_], fun p hp => by rw [List.mem_singleton.mp hp]; exact h2, .inr ⟨n, t, nm, u, a, k, h1, .head _, h3⟩, Nat.le_refl _⟩
theorem news_app {h₀ h : Heap} {L : Addr} {a b : List (Addr × Obj)} (N : News h₀ L h a) (M : News h₀ L h b) : News h₀ L h (a ++ b) := fun p hp => (List.mem_append.mp hp).elim (N p) (M p)
section
local macro_rules | `(tactic| walk_at "call ref") => `(tactic| (k_here; refine held ?_))
local macro_rules | `(tactic| walk_at "zz6") => `(tactic| skip)
set_option maxHeartbeats 8000000 in
theorem n_told : ∀ {w : World} {mean : ExcName → Option Value} {mg mb : Str → Option Value} {dp un : Nat} {gd : Option (List Code)} {outer : List Env} {A₀ : Around} {base h₀ : Heap} {L : Addr} {m : Str → Option Value} {s : Shared} {tl : List Stmt} {Q : Flow → Shared → Prop} {E : Value → Shared → Prop} {rest : List (Addr × Obj)} {ld : Addr} {old : Obj} {kv0 : List (Str × Value)} {a1 a2 a3 : Option Int}
    (B : Below A₀ base outer h₀) (F : Fr h₀ L s.heap m) (X : (heapK w.params).In h₀) (N : News h₀ L s.heap ((ld, old) :: rest)) (T : Top vw (looseW vw []) mean mg mb h₀) (hdp : dp < 375) (hu : un < 375)
    (r1 : m (Str.ofString "loss_times") = some (.ref ld)) (hlo : (ld == sysModules) = false) (hd : old.IsDictOf (Dz w) kv0) (h1 : OV ((valueAt kv0 (Str.ofString "initial")).getD .none) a1) (h2 : OV ((valueAt kv0 (Str.ofString "handshake")).getD .none) a2) (h3 : OV ((valueAt kv0 (Str.ofString "application")).getD .none) a3) (hoff : ∀ p ∈ rest, p.1 ≠ ld)
    (hret : ∀ v new h' tk' m', Fr h₀ L h' m' → m' (Str.ofString "told") = some (v) → Off [Str.ofString "told"] m m' → News h₀ L h' (new ++ (ld, old) :: rest) → TV (new ++ [(ld, old)]) v (earliest a1 a2 a3) → (∀ p ∈ new, ∀ q ∈ (ld, old) :: rest, p.1 ≠ q.1) → wpAny (model PySem.Challenge.rw_no0077_01.row.prog w) (ktrTop dp un gd (Str.ofString "next_timer") (fnScope 8) L 62 (.ref 61) [] outer) (execs tl (envOf (Str.ofString "next_timer") (fnScope 8) L 62 (.ref 61))) Q E { s with heap := h', toks := tk' }),
    wpAny (model PySem.Challenge.rw_no0077_01.row.prog w) (ktrTop dp un gd (Str.ofString "next_timer") (fnScope 8) L 62 (.ref 61) [] outer) (execs ((stAt (fnBody 8) 0) :: tl) (envOf (Str.ofString "next_timer") (fnScope 8) L 62 (.ref 61))) Q E s := by
  k_fill
  intro w mean mg mb dp un gd outer A₀ base h₀ L m s tl Q E rest ld old kv0 a1 a2 a3 B F X N T hdp hu r1 hlo hd h1 h2 h3 hoff hret
  walk_at "zwa"
  k_steps
  (show wpAny _ _ (call (Value.ref 36) _) _ _ _)
  k_dflt ((refine' earliest_call (N := ?N) ?B ?F ?X ?T ?k ?d ?u ?z1 ?z2 ?z3 ?z4 ?z5 ?z6 ?_; (case N => k_asm); (case B => k_asm); (case F => k_asm); (case X => k_asm); (case T => k_asm); (case k => exact rfl); (case d => walk_at "zr"); (case u => walk_at "zu"); (case z1 => assumption); (case z2 => assumption); (case z3 => exact h1); (case z4 => exact h2); (case z5 => exact h3); (case z6 => k_all); k_whole); intro v new hp3 tk3 F3 N3 tv3 ap3; (try dsimp only); (try k_sweep))
  k_steps
  try dsimp only
  (rename Fr _ _ _ _ => kF); (rename News _ _ _ _ => kN)
  refine' hret v new _ _ _ kF ?za ?zn kN tv3 ap3
  case za => rfl
  case zn => exact (by intro y hy; simp only [List.mem_cons, List.not_mem_nil, or_false, not_or] at hy; simp only [hy, if_false])
set_option maxHeartbeats 8000000 in
theorem n_if : ∀ {w : World} {mean : ExcName → Option Value} {mg mb : Str → Option Value} {dp un : Nat} {gd : Option (List Code)} {outer : List Env} {A₀ : Around} {base h₀ : Heap} {L : Addr} {m : Str → Option Value} {s : Shared} {tl : List Stmt} {Q : Flow → Shared → Prop} {E : Value → Shared → Prop} {rest : List (Addr × Obj)} {led : List (Addr × Obj)} {tv : Value} {o : Option (Int × Str)}
    (B : Below A₀ base outer h₀) (F : Fr h₀ L s.heap m) (X : (heapK w.params).In h₀) (N : News h₀ L s.heap (rest)) (T : Top vw (looseW vw []) mean mg mb h₀) (hdp : dp < 375) (hu : un < 375)
    (r1 : m (Str.ofString "told") = some (tv)) (ht : TV led tv o) (hsb : ∀ p ∈ led, p ∈ rest) (hyes : ∀ n nm, o = some (n, nm) → ∀ tup t u uk k h' tk', Fr h₀ L h' m → News h₀ L h' ((tup, ({ cls := .type "tuple", data := .seq #[.int n t, .str nm u, .str (Str.ofString "loss") uk] k } : Obj)) :: rest) → AllLt tup rest → Q (.ret (.ref tup)) { s with heap := h', toks := tk' })
    (hret : o = none → ∀ tk', wpAny (model PySem.Challenge.rw_no0077_01.row.prog w) (ktrTop dp un gd (Str.ofString "next_timer") (fnScope 8) L 62 (.ref 61) [] outer) (execs tl (envOf (Str.ofString "next_timer") (fnScope 8) L 62 (.ref 61))) Q E { s with toks := tk' }),
    wpAny (model PySem.Challenge.rw_no0077_01.row.prog w) (ktrTop dp un gd (Str.ofString "next_timer") (fnScope 8) L 62 (.ref 61) [] outer) (execs ((stAt (fnBody 8) 1) :: tl) (envOf (Str.ofString "next_timer") (fnScope 8) L 62 (.ref 61))) Q E s := by
  k_fill
  intro w mean mg mb dp un gd outer A₀ base h₀ L m s tl Q E rest led tv o B F X N T hdp hu r1 ht hsb hyes hret
  walk_at "zwi"
  rcases ht with ⟨rfl, rfl⟩ | ⟨n, t, nm, u, a2, k2, rfl, h2, rfl⟩
  · k_steps
    try dsimp only
    exact hret rfl _
  · have N2 := News.sub N (l' := (a2, _) :: rest) (List.forall_mem_cons.mpr ⟨hsb _ h2, fun p hp => hp⟩)
    clear N
    k_steps
    (try dsimp only); (rename Fr _ _ _ _ => kF); (rename News _ _ _ _ => kN); (rename AllLt _ rest => hA)
    exact hyes _ _ rfl _ _ _ _ _ _ _ kF (News.sub kN (List.forall_mem_cons.mpr ⟨.head _, fun p hp => .tail _ (.tail _ hp)⟩)) hA
set_option maxHeartbeats 8000000 in
theorem n_two : ∀ {w : World} {mean : ExcName → Option Value} {mg mb : Str → Option Value} {dp un : Nat} {gd : Option (List Code)} {outer : List Env} {A₀ : Around} {base h₀ : Heap} {L : Addr} {m : Str → Option Value} {s : Shared} {tl : List Stmt} {Q : Flow → Shared → Prop} {E : Value → Shared → Prop} {rest : List (Addr × Obj)} {led : List (Addr × Obj)} {pv : Value} {pr : Option (Int × Str)} {bl : Bool}
    (B : Below A₀ base outer h₀) (F : Fr h₀ L s.heap m) (X : (heapK w.params).In h₀) (N : News h₀ L s.heap (rest)) (T : Top vw (looseW vw []) mean mg mb h₀) (hdp : dp < 375) (hu : un < 375)
    (r1 : m (Str.ofString "is_blocked") = some (.bool bl)) (r2 : m (Str.ofString "told_probe") = some (pv)) (ht : TV led pv pr) (hyes : (bl = true ∨ pr = none) → ∀ tk', Q (.ret .none) { s with toks := tk' })
    (hret : bl = false → pr ≠ none → ∀ tk', wpAny (model PySem.Challenge.rw_no0077_01.row.prog w) (ktrTop dp un gd (Str.ofString "next_timer") (fnScope 8) L 62 (.ref 61) [] outer) (execs tl (envOf (Str.ofString "next_timer") (fnScope 8) L 62 (.ref 61))) Q E { s with toks := tk' }),
    wpAny (model PySem.Challenge.rw_no0077_01.row.prog w) (ktrTop dp un gd (Str.ofString "next_timer") (fnScope 8) L 62 (.ref 61) [] outer) (execs ((stAt (fnBody 8) 2) :: tl) (envOf (Str.ofString "next_timer") (fnScope 8) L 62 (.ref 61))) Q E s := by
  k_fill
  intro w mean mg mb dp un gd outer A₀ base h₀ L m s tl Q E rest led pv pr bl B F X N T hdp hu r1 r2 ht hyes hret
  walk_at "zwi"
  rcases ht with ⟨rfl, rfl⟩ | ⟨n, t, nm, u, a2, k2, rfl, h2, rfl⟩
  · k_steps
    all_goals (try dsimp only)
    all_goals exact hyes (.inr rfl) _
  · k_steps
    all_goals (try dsimp only)
    · exact hyes (.inl (by assumption)) _
    · exact hret (by assumption) (by simp) _
set_option maxHeartbeats 8000000 in
theorem n_three : ∀ {w : World} {mean : ExcName → Option Value} {mg mb : Str → Option Value} {dp un : Nat} {gd : Option (List Code)} {outer : List Env} {A₀ : Around} {base h₀ : Heap} {L : Addr} {m : Str → Option Value} {s : Shared} {tl : List Stmt} {Q : Flow → Shared → Prop} {E : Value → Shared → Prop} {rest : List (Addr × Obj)} {led : List (Addr × Obj)} {pv : Value} {pr : Option (Int × Str)}
    (B : Below A₀ base outer h₀) (F : Fr h₀ L s.heap m) (X : (heapK w.params).In h₀) (N : News h₀ L s.heap (rest)) (T : Top vw (looseW vw []) mean mg mb h₀) (hdp : dp < 375) (hu : un < 375)
    (r2 : m (Str.ofString "told_probe") = some (pv)) (ht : TV led pv pr) (hsb : ∀ p ∈ led, p ∈ rest) (hn : pr ≠ none)
    (hret : ∀ n nm, pr = some (n, nm) → ∀ tup t u uk k h' tk', Fr h₀ L h' m → News h₀ L h' ((tup, ({ cls := .type "tuple", data := .seq #[.int n t, .str nm u, .str (Str.ofString "probe") uk] k } : Obj)) :: rest) → AllLt tup rest → Q (.ret (.ref tup)) { s with heap := h', toks := tk' }),
    wpAny (model PySem.Challenge.rw_no0077_01.row.prog w) (ktrTop dp un gd (Str.ofString "next_timer") (fnScope 8) L 62 (.ref 61) [] outer) (execs ((stAt (fnBody 8) 3) :: tl) (envOf (Str.ofString "next_timer") (fnScope 8) L 62 (.ref 61))) Q E s := by
  k_fill
  intro w mean mg mb dp un gd outer A₀ base h₀ L m s tl Q E rest led pv pr B F X N T hdp hu r2 ht hsb hn hret
  walk_at "zwr"
  rcases ht with ⟨rfl, rfl⟩ | ⟨n, t, nm, u, a2, k2, rfl, h2, rfl⟩
  · exact absurd rfl hn
  · have N2 := News.sub N (l' := (a2, _) :: rest) (List.forall_mem_cons.mpr ⟨hsb _ h2, fun p hp => hp⟩)
    clear N
    k_steps
    (try dsimp only); (rename Fr _ _ _ _ => kF); (rename News _ _ _ _ => kN); (rename AllLt _ rest => hA)
    exact hret _ _ rfl _ _ _ _ _ _ _ kF (News.sub kN (List.forall_mem_cons.mpr ⟨.head _, fun p hp => .tail _ (.tail _ hp)⟩)) hA
end
section
local macro_rules | `(tactic| k_ne) => `(tactic| walk_at "z13")
local macro_rules | `(tactic| k_room) => `(tactic| walk_at "z1")
local macro_rules | `(tactic| k_enter) => `(tactic| walk_at "z4")
local macro_rules | `(tactic| walk_at "execs cons") => `(tactic| walk_at "z5")
local macro_rules | `(tactic| walk_at "subscriptTail") => `(tactic| walk_at "z6")
local macro_rules | `(tactic| walk_at "zz7") => `(tactic| skip)
set_option maxHeartbeats 8000000 in
theorem next_call : ∀ {w : World} {mean : ExcName → Option Value} {mg mb : Str → Option Value} {dp un : Nat} {gd : Option (List Code)} {cn : Str} {cs : Scope} {a : Addr} {ccd : Value} {cl : List (Str × Addr)} {outer : List Env} {A₀ : Around} {base h₀ : Heap} {L : Addr} {m : Str → Option Value} {s : Shared}
    {Q E : Value → Shared → Prop} {rest : List (Addr × Obj)} {ld : Addr} {old : Obj} {pv : Value} {pr : Option (Int × Str)} {bl : Bool} {kv0 : List (Str × Value)} {a1 a2 a3 : Option Int}
    (B : Below A₀ base outer h₀) (F : Fr h₀ L s.heap m) (X : (heapK w.params).In h₀) (N : News h₀ L s.heap ((ld, old) :: rest)) (T : Top vw (looseW vw []) mean mg mb h₀) (hk : cs.kind = .function) (hdp : dp < 370) (hu : un < 370)
    (hlo : (ld == sysModules) = false) (hd : old.IsDictOf (Dz w) kv0) (h1 : OV ((valueAt kv0 (Str.ofString "initial")).getD .none) a1) (h2 : OV ((valueAt kv0 (Str.ofString "handshake")).getD .none) a2) (h3 : OV ((valueAt kv0 (Str.ofString "application")).getD .none) a3) (hoff : ∀ p ∈ rest, p.1 ≠ ld) (hp : TV rest pv pr)
    (hret : ∀ v new h' tk', Fr h₀ L h' m → News h₀ L h' new → KeepsN h₀ L s.heap h' → Fresh h₀ L s.heap new → T3 new v (nextS a1 a2 a3 pr bl) → Q v { s with heap := h', toks := tk' }),
    wpAny (model PySem.Challenge.rw_no0077_01.row.prog w) (ktrTop dp un gd cn cs L a ccd cl outer) (call (.ref 62) [.ref ld, pv, .bool bl]) Q E s := by
  k_fill
  intro w mean mg mb dp un gd cn cs a ccd cl outer A₀ base h₀ L m s Q E rest ld old pv pr bl kv0 a1 a2 a3 B F X N T hk hdp hu hlo hd h1 h2 h3 hoff hp hret
  obtain ⟨ext, hsub, htv, -⟩ := hp.ext
  have hoff2 : ∀ p ∈ ext, p.1 ≠ ld := fun p hp => hoff p (hsub p hp)
  have N1 : News h₀ L s.heap ((ld, old) :: ext) := News.sub N (fun p hp => (List.mem_cons.mp hp).elim (fun e => e ▸ .head _) fun h => .tail _ (hsub p h))
  have NX := N1
  refine wpAny_call ?_
  k_dflt (refine' code_defG ?k1 ?k2 ?k3 ?k4 ?k5 ?kA ?kF ?kK ?k6 ?k7 ?k8 ?k9 ?kB ?_ ?c2 ?c3 ?c4 ?c5; (case kA => exact rfl); (case kF => exact rfl); (case kK => assumption); (case k1 => k_asm); (case k2 => k_asm); (case k3 => k_asm); (case k4 => exact N1); (case k5 => k_asm); (case k6 => k_is); (case k7 => k_is); (case k8 => ktr_room); (case k9 => exact BindsTo.of_eq rfl); (case c5 => decide); (case kB => exact locs rfl); (case c2 => exact rfl); (case c3 => exact rfl); (case c4 => exact rfl); k_whole; intro g' L' h' FG' F' N' B' X' T' GS'; (try dsimp only); (try k_fold))
  obtain ⟨mm, F1, r1, r2, r3⟩ : ∃ mm, Fr g' L' h' mm ∧ mm (Str.ofString "loss_times") = some (.ref ld) ∧ mm (Str.ofString "told_probe") = some pv ∧ mm (Str.ofString "is_blocked") = some (.bool bl) := ⟨_, F', rfl, rfl, rfl⟩
  clear F'
  change wpAny _ (ktrTop _ _ _ (Str.ofString "next_timer") (fnScope 8) _ 62 (.ref 61) [] _) (execs (stAt (fnBody 8) 0 :: stAt (fnBody 8) 1 :: stAt (fnBody 8) 2 :: [stAt (fnBody 8) 3]) (envOf (Str.ofString "next_timer") (fnScope 8) L' 62 (.ref 61))) _ _ _
  refine' n_told  B' ?F1 X' ?N1 T' ?hd1 ?hu1 ?z0_1 ?z1_1 ?z2_1 ?z3_1 ?z4_1 ?z5_1 ?z6_1 ?hr1
  case F1 => with_reducible assumption
  case hd1 => walk_at "zr"
  case hu1 => walk_at "zu"
  case z0_1 => exact r1
  case z1_1 => exact hlo
  case z2_1 => exact hd
  case N1 => with_reducible assumption
  case z3_1 => exact h1
  case z4_1 => exact h2
  case z5_1 => exact h3
  case z6_1 => exact hoff2
  intro v new hp3 tk3 m3 F3 rt off3 N3 tv3 ap3
  try dsimp only
  replace r2 := off3.get r2
  replace r3 := off3.get r3
  clear N'
  refine' n_if  B' ?F2 X' ?N2 T' ?hd2 ?hu2 ?z0_2 ?z1_2 ?z2_2 ?z3_2 ?hr2
  case F2 => with_reducible assumption
  case hd2 => walk_at "zr"
  case hu2 => walk_at "zu"
  case z0_2 => exact rt
  case z1_2 => exact tv3
  case N2 => with_reducible assumption
  case z2_2 => exact fun p hp => (List.mem_append.mp hp).elim (fun h => List.mem_append.mpr (.inl h)) (fun h => List.mem_append.mpr (.inr (by rw [List.mem_singleton.mp h]; exact .head _)))
  case z3_2 => (
      intro n nm he tup t u uk k hp5 tk5 F5 N5 aT
      have e3 : nextS a1 a2 a3 pr bl = some (n, nm, Str.ofString "loss") := by unfold nextS; rw [he]
      have htv : T3 ((tup, ({ cls := .type "tuple", data := .seq #[.int n t, .str nm u, .str (Str.ofString "loss") uk] k } : Obj)) :: new) (.ref tup) (nextS a1 a2 a3 pr bl) := .inr ⟨n, t, nm, u, _, uk, tup, k, rfl, .head _, e3⟩
      have lt := tb_ltOf aT
      clear N3
      have NV := News.sub N5 (l' := ((tup, ({ cls := .type "tuple", data := .seq #[.int n t, .str nm u, .str (Str.ofString "loss") uk] k } : Obj)) :: new)) (fun p hp => (List.mem_cons.mp hp).elim (fun e => e ▸ .head _) (fun h => .tail _ (List.mem_append.mpr (.inl h))))
      have NF : News g' L' _ (((tup, ({ cls := .type "tuple", data := .seq #[.int n t, .str nm u, .str (Str.ofString "loss") uk] k } : Obj)) :: new) ++ (ld, old) :: ext) := N5
      clear N5
      k_steps
      (rename Fr h₀ _ _ _ => kF); (rename News h₀ _ _ _ => kN)
      have KK := keepsN_of NX GS' F5 (News.sub kN (fun p hp => List.mem_append.mpr (.inr hp)))
      exact hret (.ref tup) ((tup, ({ cls := .type "tuple", data := .seq #[.int n t, .str nm u, .str (Str.ofString "loss") uk] k } : Obj)) :: new) _ _ kF (News.sub kN (fun p hp => List.mem_append.mpr (.inl hp))) KK (fun all Na => apart_all (led := (ld, old) :: ext) Na GS' NV (fun p hp q hq => (List.mem_cons.mp hp).elim (fun e => e ▸ Nat.ne_of_gt (lt q (List.mem_append.mpr (.inr hq)))) (fun h => ap3 p h q hq))) htv
      )
  intro he tk4
  try dsimp only
  refine' n_two  B' ?F3 X' ?N3 T' ?hd3 ?hu3 ?z0_3 ?z1_3 ?z2_3 ?z3_3 ?hr3
  case F3 => with_reducible assumption
  case hd3 => walk_at "zr"
  case hu3 => walk_at "zu"
  case z0_3 => exact r3
  case z1_3 => exact r2
  case z2_3 => exact htv
  case N3 => with_reducible assumption
  case z3_3 => (
      intro hor tk6
      have e3 : nextS a1 a2 a3 pr bl = none := by unfold nextS; rw [he]; rcases hor with h | h <;> simp [h]
      have htv : T3 new .none (nextS a1 a2 a3 pr bl) := .inl ⟨rfl, e3⟩
      have NV := News.sub N3 (l' := new) (fun p hp => List.mem_append.mpr (.inl hp))
      have NF : News g' L' _ (new ++ (ld, old) :: ext) := N3
      clear N3
      k_steps
      (rename Fr h₀ _ _ _ => kF); (rename News h₀ _ _ _ => kN)
      have KK := keepsN_of NX GS' F3 (News.sub kN (fun p hp => List.mem_append.mpr (.inr hp)))
      exact hret .none new _ _ kF (News.sub kN (fun p hp => List.mem_append.mpr (.inl hp))) KK (fun all Na => apart_all (led := (ld, old) :: ext) Na GS' NV (ap3)) htv
      )
  intro hbl hpr tk6
  try dsimp only
  refine' n_three  B' ?F4 X' ?N4 T' ?hd4 ?hu4 ?z0_4 ?z1_4 ?z2_4 ?z3_4 ?hr4
  case F4 => with_reducible assumption
  case hd4 => walk_at "zr"
  case hu4 => walk_at "zu"
  case z0_4 => exact r2
  case z1_4 => exact htv
  case N4 => with_reducible assumption
  case z2_4 => exact fun p hp => List.mem_append.mpr (.inr (.tail _ hp))
  case z3_4 => exact hpr
  intro n nm hpe tup t u uk k hp5 tk5 F5 N5 aT
  try dsimp only
  have e3 : nextS a1 a2 a3 pr bl = some (n, nm, Str.ofString "probe") := by unfold nextS; rw [he, hbl, hpe]; rfl
  have htv3 : T3 ((tup, ({ cls := .type "tuple", data := .seq #[.int n t, .str nm u, .str (Str.ofString "probe") uk] k } : Obj)) :: new) (.ref tup) (nextS a1 a2 a3 pr bl) := .inr ⟨n, t, nm, u, _, uk, tup, k, rfl, .head _, e3⟩
  have lt := tb_ltOf aT
  clear N3
  have NV := News.sub N5 (l' := ((tup, ({ cls := .type "tuple", data := .seq #[.int n t, .str nm u, .str (Str.ofString "probe") uk] k } : Obj)) :: new)) (fun p hp => (List.mem_cons.mp hp).elim (fun e => e ▸ .head _) (fun h => .tail _ (List.mem_append.mpr (.inl h))))
  have NF : News g' L' _ (((tup, ({ cls := .type "tuple", data := .seq #[.int n t, .str nm u, .str (Str.ofString "probe") uk] k } : Obj)) :: new) ++ (ld, old) :: ext) := N5
  clear N5
  k_steps
  (rename Fr h₀ _ _ _ => kF); (rename News h₀ _ _ _ => kN)
  have KK := keepsN_of NX GS' F5 (News.sub kN (fun p hp => List.mem_append.mpr (.inr hp)))
  exact hret (.ref tup) ((tup, ({ cls := .type "tuple", data := .seq #[.int n t, .str nm u, .str (Str.ofString "probe") uk] k } : Obj)) :: new) _ _ kF (News.sub kN (fun p hp => List.mem_append.mpr (.inl hp))) KK (fun all Na => apart_all (led := (ld, old) :: ext) Na GS' NV (fun p hp q hq => (List.mem_cons.mp hp).elim (fun e => e ▸ Nat.ne_of_gt (lt q (List.mem_append.mpr (.inr hq)))) (fun h => ap3 p h q hq))) htv3
end
theorem OV.ex (a : Option Int) : ∃ v, OV v a := by
  cases a with
  | none => exact ⟨.none, .inl ⟨rfl, rfl⟩⟩
  | some n => exact ⟨.int n 0, .inr ⟨n, 0, rfl, rfl⟩⟩
section
local macro_rules | `(tactic| walk_at "call ref") => `(tactic| (k_here; refine held ?_))
local macro_rules | `(tactic| walk_at "setItem ref str") => `(tactic| walk_at "z14")
set_option maxHeartbeats 8000000 in
theorem t_set : ∀ {w : World} {mean : ExcName → Option Value} {mg mb : Str → Option Value} {dp un : Nat} {gd : Option (List Code)} {outer : List Env} {A₀ : Around} {base h₀ : Heap} {L : Addr} {m : Str → Option Value} {s : Shared} {tl : List Stmt} {Q : Flow → Shared → Prop} {E : Value → Shared → Prop} {rest : List (Addr × Obj)} {aq : Addr} {oaq : Obj} {sv : Value} {nm : Str} {a : Option Int} {bag : List (Addr × Obj)} {avs : List (Str × Value)}
    (B : Below A₀ base outer h₀) (F : Fr h₀ L s.heap m) (X : (heapK w.params).In h₀) (N : News h₀ L s.heap ((aq, oaq) :: rest)) (T : Top vw (looseW vw []) mean mg mb h₀) (hdp : dp < 360) (hu : un < 360)
    (r1 : m (Str.ofString "asked") = some (.ref aq)) (r2 : m (Str.ofString "space") = some (sv)) (hs : SpIn w bag sv nm a) (hsb : ∀ p ∈ bag, p ∈ rest) (hd : oaq.IsDictOf (Dz w) avs) (hsz : avs.length ≤ 100) (hoff : ∀ p ∈ rest, p.1 ≠ aq)
    (hret : ∀ v oaq' h' tk', OV v a → Fr h₀ L h' m → News h₀ L h' ((aq, oaq') :: rest) → oaq'.IsDictOf (Dz w) (stored avs nm v) → wpAny (model PySem.Challenge.rw_no0077_01.row.prog w) (ktrTop dp un gd (Str.ofString "_law_told") (fnScope 27) L 269 (.ref 268) [] outer) (execs tl (envOf (Str.ofString "_law_told") (fnScope 27) L 269 (.ref 268))) Q E { s with heap := h', toks := tk' }),
    wpAny (model PySem.Challenge.rw_no0077_01.row.prog w) (ktrTop dp un gd (Str.ofString "_law_told") (fnScope 27) L 269 (.ref 268) [] outer) (execs ((stAt (forBody (stAt (fnBody 27) 1)) 0) :: tl) (envOf (Str.ofString "_law_told") (fnScope 27) L 269 (.ref 268))) Q E s := by
  k_fill
  intro w mean mg mb dp un gd outer A₀ base h₀ L m s tl Q E rest aq oaq sv nm a bag avs B F X N T hdp hu r1 r2 hs hsb hd hsz hoff hret
  walk_at "zwa"
  obtain ⟨x, dx, se, o, oe, rows, nn, lel, kvs, els, tn, rfl, m1, m2, m3, hsp, he, hlo, hel, ht, hov⟩ := hs
  obtain ⟨sv, rfl⟩ := hsp
  have n1 : x ≠ aq := hoff _ (hsb _ m1)
  have n2 : dx ≠ aq := hoff _ (hsb _ m2)
  have n3 : se ≠ aq := hoff _ (hsb _ m3)
  have N2 := News.sub N (l' := (x, instObj 229 dx) :: (dx, _) :: (se, oe) :: (aq, oaq) :: rest) (List.forall_mem_cons.mpr ⟨.tail _ (hsb _ m1), List.forall_mem_cons.mpr ⟨.tail _ (hsb _ m2), List.forall_mem_cons.mpr ⟨.tail _ (hsb _ m3), fun p hp => hp⟩⟩⟩)
  clear N
  k_steps
  (show wpAny _ _ (call (Value.ref 207) _) _ _ _)
  k_dflt ((refine' el_left (N := ?N) ?B ?F ?X ?T ?k ?d ?u ?hs ?he ?lo ?hle ?ht ?_; (case N => k_asm); (case B => k_asm); (case F => k_asm); (case X => k_asm); (case T => k_asm); (case k => exact rfl); (case d => walk_at "zr"); (case u => walk_at "zu"); (case hs => exact SpV.is _ _ _ _ _); (case he => assumption); (case lo => assumption); (case hle => rw [ht.len.1]; exact hel); (case ht => exact ht.mono (fun p hp => .tail _ (hsb p hp))); k_whole); intro h1 tk1 F1 N1; (try dsimp only); (try k_sweep))
  k_steps
  · (rename 0 < _ => hq); rw [if_pos hq] at hov
    rcases hov with ⟨rfl, rfl⟩ | ⟨n, t, rfl, rfl⟩
    · k_steps
      (try dsimp only); (rename Fr _ _ _ _ => kF); (rename News _ _ _ _ => kN); (rename Obj.IsDictOf _ _ (stored _ _ _) => hd9)
      exact hret _ _ _ _ (.inl ⟨rfl, rfl⟩) kF (News.sub kN (fun p hp => .tail _ (.tail _ (.tail _ hp)))) hd9
    · k_steps
      (try dsimp only); (rename Fr _ _ _ _ => kF); (rename News _ _ _ _ => kN); (rename Obj.IsDictOf _ _ (stored _ _ _) => hd9)
      exact hret _ _ _ _ (.inr ⟨n, t, rfl, rfl⟩) kF (News.sub kN (fun p hp => .tail _ (.tail _ (.tail _ hp)))) hd9
  · (rename ¬ 0 < _ => hq); rw [if_neg hq] at hov
    (try dsimp only); (rename Fr _ _ _ _ => kF); (rename News _ _ _ _ => kN); (rename Obj.IsDictOf _ _ (stored _ _ _) => hd9)
    exact hret _ _ _ _ (.inl ⟨rfl, hov⟩) kF (News.sub kN (fun p hp => .tail _ (.tail _ (.tail _ hp)))) hd9
end
def TReads (m : Str → Option Value) (aq fd : Addr) (b d now : Int) (tb td tn : Tok) : Prop := m (Str.ofString "asked") = some (.ref aq) ∧ m (Str.ofString "end") = some (.ref fd) ∧ m (Str.ofString "base") = some (.int b tb) ∧ m (Str.ofString "delay") = some (.int d td) ∧ m (Str.ofString "now") = some (.int now tn)
abbrev tri (v1 v2 v3 : Value) : List (Str × Value) := [(Str.ofString "initial", v1), (Str.ofString "handshake", v2), (Str.ofString "application", v3)]
def JT (w : World) (aq fd : Addr) (b d now : Int) (tb td tn : Tok) (led : List (Addr × Obj)) (a1 a2 a3 : Option Int) (i : Nat) (m : Str → Option Value) (nx : List (Addr × Obj)) : Prop :=
  ∃ oaq v1 v2 v3, nx = (aq, oaq) :: led ∧ oaq.IsDictOf (Dz w) ((tri v1 v2 v3).take i) ∧ OV v1 a1 ∧ OV v2 a2 ∧ OV v3 a3 ∧ TReads m aq fd b d now tb td tn
theorem bodyT : forBody (stAt (fnBody 27) 1) = [stAt (forBody (stAt (fnBody 27) 1)) 0] := by kernel_rfl
section
local macro_rules | `(tactic| walk_at "call ref") => `(tactic| (k_here; refine held ?_))
set_option maxHeartbeats 8000000 in
theorem t_turn {w : World} {mean : ExcName → Option Value} {mg mb : Str → Option Value} {dp un : Nat} {gd : Option (List Code)} {outer : List Env} {A₀ : Around} {base h₀ : Heap} {L : Addr} {m : Str → Option Value} {s : Shared} {Q : Flow → Shared → Prop}
    {aq fd : Addr} {b d now : Int} {tb td tn : Tok} {led bag nx : List (Addr × Obj)} {sv1 sv2 sv3 : Value} {a1 a2 a3 : Option Int} {i : Nat} {I : Addr} {oI : Obj} {v : Value} {px : Pos}
    (B : Below A₀ base outer h₀) (F : Fr h₀ L s.heap m) (X : (heapK w.params).In h₀) (N : News h₀ L s.heap ((I, oI) :: nx)) (T : Top vw (looseW vw []) mean mg mb h₀) (hdp : dp < 360) (hu : un < 360)
    (hs1 : SpIn w bag sv1 (Str.ofString "initial") a1) (hs2 : SpIn w bag sv2 (Str.ofString "handshake") a2) (hs3 : SpIn w bag sv3 (Str.ofString "application") a3) (hsb : ∀ p ∈ bag, p ∈ led) (hoff : ∀ p ∈ led, p.1 ≠ aq)
    (hne : ∀ p ∈ nx, p.1 ≠ I) (hv : [sv1, sv2, sv3][i]? = some v) (hJ : JT w aq fd b d now tb td tn led a1 a2 a3 i m nx) :
    wpAny (model PySem.Challenge.rw_no0077_01.row.prog w) (ktrTop dp un gd (Str.ofString "_law_told") (fnScope 27) L 269 (.ref 268) [] outer) (assign (.Name (Str.ofString "space") px) (envOf (Str.ofString "_law_told") (fnScope 27) L 269 (.ref 268)) v) (fun _ s₂ => wpAny (model PySem.Challenge.rw_no0077_01.row.prog w) (ktrTop dp un gd (Str.ofString "_law_told") (fnScope 27) L 269 (.ref 268) [] outer) (execs (forBody (stAt (fnBody 27) 1)) (envOf (Str.ofString "_law_told") (fnScope 27) L 269 (.ref 268)) ) (RgPost h₀ L (JT w aq fd b d now tb td tn led a1 a2 a3 (i + 1)) I oI s Q) NoE s₂) NoE s := by
  k_fill
  rw [bodyT]
  obtain ⟨oaq, v1, v2, v3, rfl, hd, g1, g2, g3, r1, r2, r3, r4, r5⟩ := hJ
  obtain ⟨nm, a, hs, hi3, hnx⟩ : ∃ nm a, SpIn w bag v nm a ∧ i < 3 ∧ ∀ v', OV v' a → ∃ w1 w2 w3, stored ((tri v1 v2 v3).take i) nm v' = (tri w1 w2 w3).take (i + 1) ∧ OV w1 a1 ∧ OV w2 a2 ∧ OV w3 a3 := by
    match i, hv with
    | 0, h => simp at h; subst h; exact ⟨_, _, hs1, by decide, fun v' h' => ⟨v', v2, v3, rfl, h', g2, g3⟩⟩
    | 1, h => simp at h; subst h; exact ⟨_, _, hs2, by decide, fun v' h' => ⟨v1, v', v3, rfl, g1, h', g3⟩⟩
    | 2, h => simp at h; subst h; exact ⟨_, _, hs3, by decide, fun v' h' => ⟨v1, v2, v', rfl, g1, g2, h'⟩⟩
    | i + 3, h => simp at h
  simp only [List.forall_mem_cons] at hne
  obtain ⟨hne1, hne2⟩ := hne
  walk1
  walk1
  (rename Fr _ _ _ _ => F1); (rename News _ _ _ _ => N1)
  have off0 : Off [Str.ofString "space"] m (fun y => if y = Str.ofString "space" then some v else m y) := (by intro y hy; simp only [List.mem_cons, List.not_mem_nil, or_false, not_or] at hy; simp only [hy, if_false])
  have rs : (fun y => if y = Str.ofString "space" then some v else m y) (Str.ofString "space") = some v := rfl
  replace r1 := off0.get r1
  replace r2 := off0.get r2
  replace r3 := off0.get r3
  replace r4 := off0.get r4
  replace r5 := off0.get r5
  have hsz : ((tri v1 v2 v3).take i).length ≤ 100 := by rw [List.length_take]; exact Nat.le_trans (Nat.min_le_right ..) (Nat.le_of_ble_eq_true rfl)
  refine' t_set  B ?F1 X (Pull.news ?P1_1 ?N1) T hdp hu ?z0_1 ?z1_1 ?z2_1 ?z3_1 ?z4_1 ?z5_1 ?z6_1 ?hr1
  case F1 => with_reducible assumption
  case z0_1 => exact r1
  case z1_1 => exact rs
  case z2_1 => exact hs
  case N1 => with_reducible assumption
  case P1_1 => walk_at "zp"
  case z3_1 => exact fun p hp => .tail _ (hsb p hp)
  case z4_1 => exact hd
  case z5_1 => exact hsz
  case z6_1 => exact List.forall_mem_cons.mpr ⟨Ne.symm hne1, hoff⟩
  intro v' oaq5 h5 tk5 hv5 F5 N5 hd5
  try dsimp only
  refine wpAny_execs_nil ?_
  obtain ⟨w1, w2, w3, e1, e2, e3, e4⟩ := hnx v' hv5
  rw [e1] at hd5
  exact ⟨h5, tk5, _, (aq, oaq5) :: led, rfl, F5, News.sub N5 (fun p hp => (List.mem_cons.mp hp).elim (fun e => e ▸ .tail _ (.head _)) (fun h => (List.mem_cons.mp h).elim (fun e => e ▸ .head _) (fun h => .tail _ (.tail _ h)))), List.forall_mem_cons.mpr ⟨hne1, hne2⟩, oaq5, w1, w2, w3, rfl, hd5, e2, e3, e4, r1, r2, r3, r4, r5⟩
end
local macro_rules | `(tactic| walk_at "z18") => `(tactic| (k_here; (with_reducible show wpAny _ _ (subscriptTail _ _ (Value.ref _) (Value.str _ _)) _ _ _); k_dflt (refine' kda_item (knd := PySem.strKind _ _) ?N ?m ?d (strKind_is _ _ _ _) ?l ?_; (case N => k_asm); (case m => k_mem); (case d => k_asm); (case l => exact rfl))))
section
local macro_rules | `(tactic| walk_at "call ref") => `(tactic| (k_here; refine held ?_))
local macro_rules | `(tactic| walk_at "subscriptTail") => `(tactic| walk_at "z18")
local macro_rules | `(tactic| walk_at "exec For Name Subscript cons nil") => `(tactic| (k_here; (rename Fr _ _ _ _ => F9); (with_unfolding_all refine' for_list F9 (by rfl) ?_)))
set_option maxHeartbeats 8000000 in
theorem t_init : ∀ {w : World} {mean : ExcName → Option Value} {mg mb : Str → Option Value} {dp un : Nat} {gd : Option (List Code)} {outer : List Env} {A₀ : Around} {base h₀ : Heap} {L : Addr} {m : Str → Option Value} {s : Shared} {tl : List Stmt} {Q : Flow → Shared → Prop} {E : Value → Shared → Prop} {rest : List (Addr × Obj)} 
    (B : Below A₀ base outer h₀) (F : Fr h₀ L s.heap m) (X : (heapK w.params).In h₀) (N : News h₀ L s.heap (rest)) (T : Top vw (looseW vw []) mean mg mb h₀) (hdp : dp < 360) (hu : un < 360)
    (hret : ∀ aq oaq h' tk' m', Fr h₀ L h' m' → m' (Str.ofString "asked") = some (.ref aq) → Off [Str.ofString "asked"] m m' → News h₀ L h' ((aq, oaq) :: rest) → oaq.IsDictOf (Dz w) [] → (aq == sysModules) = false → AllLt aq rest → wpAny (model PySem.Challenge.rw_no0077_01.row.prog w) (ktrTop dp un gd (Str.ofString "_law_told") (fnScope 27) L 269 (.ref 268) [] outer) (execs tl (envOf (Str.ofString "_law_told") (fnScope 27) L 269 (.ref 268))) Q E { s with heap := h', toks := tk' }),
    wpAny (model PySem.Challenge.rw_no0077_01.row.prog w) (ktrTop dp un gd (Str.ofString "_law_told") (fnScope 27) L 269 (.ref 268) [] outer) (execs ((stAt (fnBody 27) 0) :: tl) (envOf (Str.ofString "_law_told") (fnScope 27) L 269 (.ref 268))) Q E s := by
  k_fill
  intro w mean mg mb dp un gd outer A₀ base h₀ L m s tl Q E rest  B F X N T hdp hu  hret
  walk_at "zwa"
  k_steps
  try dsimp only
  (rename Fr _ _ _ _ => kF); (rename News _ _ _ _ => kN)
  refine' hret _ _ _ _ _ kF ?za ?zn kN (by assumption) (by assumption) (by assumption)
  case za => rfl
  case zn => exact (by intro y hy; simp only [List.mem_cons, List.not_mem_nil, or_false, not_or] at hy; simp only [hy, if_false])
set_option maxHeartbeats 8000000 in
theorem t_loop : ∀ {w : World} {mean : ExcName → Option Value} {mg mb : Str → Option Value} {dp un : Nat} {gd : Option (List Code)} {outer : List Env} {A₀ : Around} {base h₀ : Heap} {L : Addr} {m : Str → Option Value} {s : Shared} {tl : List Stmt} {Q : Flow → Shared → Prop} {E : Value → Shared → Prop} {aq fd sp as lo : Addr} {oaq ofd : Obj} {b d now n : Int} {tb td tn tc : Tok} {led bag : List (Addr × Obj)} {c sh ky bl : Bool} {sv1 sv2 sv3 : Value} {k : Nat} {a1 a2 a3 : Option Int}
    (B : Below A₀ base outer h₀) (F : Fr h₀ L s.heap m) (X : (heapK w.params).In h₀) (N : News h₀ L s.heap ((aq, oaq) :: led)) (T : Top vw (looseW vw []) mean mg mb h₀) (hdp : dp < 360) (hu : un < 360)
    (hr : TReads m aq fd b d now tb td tn) (hd : oaq.IsDictOf (Dz w) []) (hf : ofd.IsDictOf (Dz w) [(Str.ofString "confirmed", .bool c), (Str.ofString "shown", .bool sh), (Str.ofString "keys", .bool ky), (Str.ofString "blocked", .bool bl), (Str.ofString "spaces", .ref sp), (Str.ofString "asked", .ref as), (Str.ofString "losses", .ref lo), (Str.ofString "count", .int n tc)]) (mf : (fd, ofd) ∈ led) (msp : (sp, listOf #[sv1, sv2, sv3] k) ∈ led) (hs1 : SpIn w bag sv1 (Str.ofString "initial") a1) (hs2 : SpIn w bag sv2 (Str.ofString "handshake") a2) (hs3 : SpIn w bag sv3 (Str.ofString "application") a3) (hsb : ∀ p ∈ bag, p ∈ led) (hoff : ∀ p ∈ led, p.1 ≠ aq)
    (hret : ∀ oaq' v1 v2 v3 h' tk' m', Fr h₀ L h' m' → TReads m' aq fd b d now tb td tn → News h₀ L h' ((aq, oaq') :: led) → oaq'.IsDictOf (Dz w) (tri v1 v2 v3) → OV v1 a1 → OV v2 a2 → OV v3 a3 → wpAny (model PySem.Challenge.rw_no0077_01.row.prog w) (ktrTop dp un gd (Str.ofString "_law_told") (fnScope 27) L 269 (.ref 268) [] outer) (execs tl (envOf (Str.ofString "_law_told") (fnScope 27) L 269 (.ref 268))) Q E { s with heap := h', toks := tk' }),
    wpAny (model PySem.Challenge.rw_no0077_01.row.prog w) (ktrTop dp un gd (Str.ofString "_law_told") (fnScope 27) L 269 (.ref 268) [] outer) (execs ((stAt (fnBody 27) 1) :: tl) (envOf (Str.ofString "_law_told") (fnScope 27) L 269 (.ref 268))) Q E s := by
  k_fill
  intro w mean mg mb dp un gd outer A₀ base h₀ L m s tl Q E aq fd sp as lo oaq ofd b d now n tb td tn tc led bag c sh ky bl sv1 sv2 sv3 k a1 a2 a3 B F X N T hdp hu hr hd hf mf msp hs1 hs2 hs3 hsb hoff hret
  walk_at "zwf"
  obtain ⟨r1, r2, r3, r4, r5⟩ := hr
  have N2 := News.sub N (l' := (fd, ofd) :: (aq, oaq) :: led) (List.forall_mem_cons.mpr ⟨.tail _ mf, fun p hp => hp⟩)
  clear N
  k_steps
  (rename Fr _ _ _ _ => F)
  obtain ⟨v1, hv1⟩ := OV.ex a1
  obtain ⟨v2, hv2⟩ := OV.ex a2
  obtain ⟨v3, hv3⟩ := OV.ex a3
  refine' ⟨sp, [sv1, sv2, sv3], k, m, (aq, oaq) :: led, JT w aq fd b d now tb td tn led a1 a2 a3, rfl, F, News.sub N2 (fun p hp => .tail _ hp), ⟨oaq, v1, v2, v3, rfl, hd, hv1, hv2, hv3, r1, r2, r3, r4, r5⟩, ?mem, ?turn, ?done⟩
  case mem =>
    intro i m nx hJ
    obtain ⟨_, _, _, _, rfl, _⟩ := hJ
    exact .tail _ msp
  case turn =>
    intro i v m₁ nx h tk I oI hv hne hJ F1 N1
    exact t_turn B F1 X N1 T hdp hu hs1 hs2 hs3 hsb hoff hne hv hJ
  case done =>
    intro m₁ nx h tk hJ F1 N1
    obtain ⟨oaq', w1, w2, w3, rfl, hd, g1, g2, g3, hr⟩ := hJ
    exact hret _ _ _ _ _ _ _ F1 hr N1 hd g1 g2 g3
set_option maxHeartbeats 8000000 in
theorem t_probe : ∀ {w : World} {mean : ExcName → Option Value} {mg mb : Str → Option Value} {dp un : Nat} {gd : Option (List Code)} {outer : List Env} {A₀ : Around} {base h₀ : Heap} {L : Addr} {m : Str → Option Value} {s : Shared} {tl : List Stmt} {Q : Flow → Shared → Prop} {E : Value → Shared → Prop} {aq fd sp as lo : Addr} {oaq ofd : Obj} {b d now n : Int} {tb td tn tc : Tok} {led : List (Addr × Obj)} {c sh ky bl : Bool} {v1 v2 v3 : Value} {a1 a2 a3 : Option Int}
    (B : Below A₀ base outer h₀) (F : Fr h₀ L s.heap m) (X : (heapK w.params).In h₀) (N : News h₀ L s.heap ((aq, oaq) :: led)) (T : Top vw (looseW vw []) mean mg mb h₀) (hdp : dp < 360) (hu : un < 360)
    (hr : TReads m aq fd b d now tb td tn) (hq : oaq.IsDictOf (Dz w) (tri v1 v2 v3)) (hlq : (aq == sysModules) = false) (hf : ofd.IsDictOf (Dz w) [(Str.ofString "confirmed", .bool c), (Str.ofString "shown", .bool sh), (Str.ofString "keys", .bool ky), (Str.ofString "blocked", .bool bl), (Str.ofString "spaces", .ref sp), (Str.ofString "asked", .ref as), (Str.ofString "losses", .ref lo), (Str.ofString "count", .int n tc)]) (mf : (fd, ofd) ∈ led) (g1 : OV v1 a1) (g2 : OV v2 a2) (g3 : OV v3 a3) (hb0 : 0 ≤ b) (hb1 : b < 1000) (hd0 : 0 ≤ d) (hd1 : d < 1000) (hc0 : 0 ≤ n) (hc1 : n < 3) (hoff : ∀ p ∈ led, p.1 ≠ aq)
    (hret : ∀ v new h' tk' m', Fr h₀ L h' m' → m' (Str.ofString "probe") = some (v) → Off [Str.ofString "probe"] m m' → News h₀ L h' (new ++ (aq, oaq) :: led) → TV new v (probeS b d n now c sh ky a1 a2 a3) → (∀ p ∈ new, ∀ q ∈ (aq, oaq) :: led, p.1 ≠ q.1) → wpAny (model PySem.Challenge.rw_no0077_01.row.prog w) (ktrTop dp un gd (Str.ofString "_law_told") (fnScope 27) L 269 (.ref 268) [] outer) (execs tl (envOf (Str.ofString "_law_told") (fnScope 27) L 269 (.ref 268))) Q E { s with heap := h', toks := tk' }),
    wpAny (model PySem.Challenge.rw_no0077_01.row.prog w) (ktrTop dp un gd (Str.ofString "_law_told") (fnScope 27) L 269 (.ref 268) [] outer) (execs ((stAt (fnBody 27) 2) :: tl) (envOf (Str.ofString "_law_told") (fnScope 27) L 269 (.ref 268))) Q E s := by
  k_fill
  intro w mean mg mb dp un gd outer A₀ base h₀ L m s tl Q E aq fd sp as lo oaq ofd b d now n tb td tn tc led c sh ky bl v1 v2 v3 a1 a2 a3 B F X N T hdp hu hr hq hlq hf mf g1 g2 g3 hb0 hb1 hd0 hd1 hc0 hc1 hoff hret
  walk_at "zwa"
  obtain ⟨r1, r2, r3, r4, r5⟩ := hr
  have N2 := News.sub N (l' := (fd, ofd) :: (aq, oaq) :: led) (List.forall_mem_cons.mpr ⟨.tail _ mf, fun p hp => hp⟩)
  clear N
  k_steps
  (rename News _ _ _ _ => NN)
  have NQ := News.sub NN (l' := (aq, oaq) :: led) (fun p hp => .tail _ hp)
  (show wpAny _ _ (call (Value.ref 55) _) _ _ _)
  k_dflt ((refine' due_call (N := ?N) ?B ?F ?X ?T ?k ?d ?u ?z1 ?z2 ?z3 ?z4 ?z5 ?b0 ?b1 ?b2 ?b3 ?b4 ?b5 ?z6 ?_; (case N => exact NQ); (case B => k_asm); (case F => k_asm); (case X => k_asm); (case T => k_asm); (case k => exact rfl); (case d => walk_at "zr"); (case u => walk_at "zu"); (case z1 => exact hlq); (case z2 => exact hq); (case z3 => exact g1); (case z4 => exact g2); (case z5 => exact g3); (case b0 => assumption); (case b1 => assumption); (case b2 => assumption); (case b3 => assumption); (case b4 => assumption); (case b5 => assumption); (case z6 => exact hoff); k_whole); intro v new hp3 tk3 F3 N3 tv3 ap3; (try dsimp only); (try k_sweep))
  (try clear NN)
  (try clear NQ)
  k_steps
  try dsimp only
  (rename Fr _ _ _ _ => kF); (rename News _ _ _ _ => kN)
  refine' hret v new _ _ _ kF ?za ?zn kN tv3 ap3
  case za => rfl
  case zn => exact (by intro y hy; simp only [List.mem_cons, List.not_mem_nil, or_false, not_or] at hy; simp only [hy, if_false])
end
theorem T3.mono {led led' : List (Addr × Obj)} {v : Value} {o : Option (Int × Str × Str)} (h : T3 led v o) (k : ∀ p ∈ led, p ∈ led') : T3 led' v o := by
  rcases h with h | ⟨n, t, nm, u, kd, uk, a, q, h1, h2, h3⟩
  · exact .inl h
  · exact .inr ⟨n, t, nm, u, kd, uk, a, q, h1, k _ h2, h3⟩
section
local macro_rules | `(tactic| walk_at "call ref") => `(tactic| (k_here; refine held ?_))
local macro_rules | `(tactic| walk_at "subscriptTail") => `(tactic| walk_at "z18")
set_option maxHeartbeats 8000000 in
theorem t_ret : ∀ {w : World} {mean : ExcName → Option Value} {mg mb : Str → Option Value} {dp un : Nat} {gd : Option (List Code)} {outer : List Env} {A₀ : Around} {base h₀ : Heap} {L : Addr} {m : Str → Option Value} {s : Shared} {tl : List Stmt} {Q : Flow → Shared → Prop} {E : Value → Shared → Prop} {rest : List (Addr × Obj)} {aq fd sp as lo : Addr} {ofd ol : Obj} {n : Int} {tc : Tok} {new : List (Addr × Obj)} {c sh ky bl : Bool} {pv v1 v2 v3 : Value} {pr : Option (Int × Str)} {l1 l2 l3 : Option Int}
    (B : Below A₀ base outer h₀) (F : Fr h₀ L s.heap m) (X : (heapK w.params).In h₀) (N : News h₀ L s.heap (rest)) (T : Top vw (looseW vw []) mean mg mb h₀) (hdp : dp < 360) (hu : un < 360)
    (r1 : m (Str.ofString "asked") = some (.ref aq)) (r2 : m (Str.ofString "end") = some (.ref fd)) (r3 : m (Str.ofString "probe") = some (pv)) (hf : ofd.IsDictOf (Dz w) [(Str.ofString "confirmed", .bool c), (Str.ofString "shown", .bool sh), (Str.ofString "keys", .bool ky), (Str.ofString "blocked", .bool bl), (Str.ofString "spaces", .ref sp), (Str.ofString "asked", .ref as), (Str.ofString "losses", .ref lo), (Str.ofString "count", .int n tc)]) (mf : (fd, ofd) ∈ rest) (ml : (lo, ol) ∈ rest) (mn : ∀ p ∈ new, p ∈ rest) (hll : (lo == sysModules) = false) (hol : ol.IsDictOf (Dz w) (tri v1 v2 v3)) (g1 : OV v1 l1) (g2 : OV v2 l2) (g3 : OV v3 l3) (hnl : ∀ p ∈ new, p.1 ≠ lo) (htv : TV new pv pr)
    (hret : ∀ tup v nw2 k h' tk', Fr h₀ L h' m → News h₀ L h' ((tup, { cls := .type "tuple", data := .seq #[.ref aq, v] k }) :: (nw2 ++ rest)) → T3 nw2 v (nextS l1 l2 l3 pr bl) → (∀ p ∈ nw2, ∀ q ∈ rest, p.1 ≠ q.1) → (∀ q ∈ nw2 ++ rest, q.1 ≠ tup) → Q (.ret (.ref tup)) { s with heap := h', toks := tk' }),
    wpAny (model PySem.Challenge.rw_no0077_01.row.prog w) (ktrTop dp un gd (Str.ofString "_law_told") (fnScope 27) L 269 (.ref 268) [] outer) (execs ((stAt (fnBody 27) 3) :: tl) (envOf (Str.ofString "_law_told") (fnScope 27) L 269 (.ref 268))) Q E s := by
  k_fill
  intro w mean mg mb dp un gd outer A₀ base h₀ L m s tl Q E rest aq fd sp as lo ofd ol n tc new c sh ky bl pv v1 v2 v3 pr l1 l2 l3 B F X N T hdp hu r1 r2 r3 hf mf ml mn hll hol g1 g2 g3 hnl htv hret
  walk_at "zwr"
  have N0 : id (News h₀ L s.heap rest) := N
  have N2 := News.sub N (l' := (fd, ofd) :: rest) (List.forall_mem_cons.mpr ⟨mf, fun p hp => hp⟩)
  clear N
  k_steps
  (rename News _ _ _ _ => NN)
  have NQ := News.sub NN (l' := (lo, ol) :: new) (List.forall_mem_cons.mpr ⟨.tail _ ml, fun p hp => .tail _ (mn p hp)⟩)
  (show wpAny _ _ (call (Value.ref 62) _) _ _ _)
  k_dflt ((refine' next_call (N := ?N) ?B ?F ?X ?T ?k ?d ?u ?z1 ?z2 ?z3 ?z4 ?z5 ?z6 ?z7 ?_; (case N => exact NQ); (case B => k_asm); (case F => k_asm); (case X => k_asm); (case T => k_asm); (case k => exact rfl); (case d => walk_at "zr"); (case u => walk_at "zu"); (case z1 => exact hll); (case z2 => exact hol); (case z3 => exact g1); (case z4 => exact g2); (case z5 => exact g3); (case z6 => exact hnl); (case z7 => exact htv); k_whole); intro v nw2 hp3 tk3 F3 N3 KK FR tv3; (try dsimp only); (try k_sweep))
  have NZ := news_app N3 (KK _ (held N0))
  have hap := FR _ (held N0)
  (try clear NN); (try clear NQ); (try clear N2); (try clear N3)
  k_steps
  try dsimp only
  (rename Fr _ _ _ _ => kF); (rename News _ _ _ _ => kN)
  (rename AllLt _ _ => hA)
  exact hret _ v nw2 _ _ _ kF kN tv3 hap (fun q hq => Nat.ne_of_lt (tb_ltOf hA q hq))
end
section
local macro_rules | `(tactic| k_ne) => `(tactic| walk_at "z13")
local macro_rules | `(tactic| k_room) => `(tactic| walk_at "z1")
local macro_rules | `(tactic| k_enter) => `(tactic| walk_at "z4")
local macro_rules | `(tactic| walk_at "execs cons") => `(tactic| walk_at "z5")
local macro_rules | `(tactic| walk_at "subscriptTail") => `(tactic| walk_at "z6")
local macro_rules | `(tactic| walk_at "zz8") => `(tactic| skip)
set_option maxHeartbeats 8000000 in
theorem told_call : ∀ {w : World} {mean : ExcName → Option Value} {mg mb : Str → Option Value} {dp un : Nat} {gd : Option (List Code)} {cn : Str} {cs : Scope} {a : Addr} {ccd : Value} {cl : List (Str × Addr)} {outer : List Env} {A₀ : Around} {base h₀ : Heap} {L : Addr} {m : Str → Option Value} {s : Shared}
    {Q E : Value → Shared → Prop} {led bag : List (Addr × Obj)} {fd sp as lo : Addr} {ofd osp oas ol : Obj} {b d now n : Int} {tb td tn : Tok} {c sh ky bl : Bool} {a1 a2 a3 l1 l2 l3 : Option Int}
    (B : Below A₀ base outer h₀) (F : Fr h₀ L s.heap m) (X : (heapK w.params).In h₀) (N : News h₀ L s.heap (led)) (T : Top vw (looseW vw []) mean mg mb h₀) (hk : cs.kind = .function) (hdp : dp < 350) (hu : un < 350)
    (EO : EndOK w fd sp as lo ofd osp oas ol bag c sh ky bl a1 a2 a3 l1 l2 l3 n) (mf : (fd, ofd) ∈ led) (ms : (sp, osp) ∈ led) (ml : (lo, ol) ∈ led) (hsb : ∀ p ∈ bag, p ∈ led) (hb0 : 0 ≤ b) (hb1 : b < 1000) (hd0 : 0 ≤ d) (hd1 : d < 1000)
    (hret : ∀ tup aq oaq v v1 v2 v3 new k h' tk', Fr h₀ L h' m → News h₀ L h' new → KeepsN h₀ L s.heap h' → Fresh h₀ L s.heap new → (tup, ({ cls := .type "tuple", data := .seq #[.ref aq, v] k } : Obj)) ∈ new → (aq, oaq) ∈ new → oaq.IsDictOf (Dz w) (tri v1 v2 v3) → OV v1 a1 → OV v2 a2 → OV v3 a3 → (aq == sysModules) = false → T3 new v (nextS l1 l2 l3 (probeS b d n now c sh ky a1 a2 a3) bl) → Q (.ref tup) { s with heap := h', toks := tk' }),
    wpAny (model PySem.Challenge.rw_no0077_01.row.prog w) (ktrTop dp un gd cn cs L a ccd cl outer) (call (.ref 269) [.ref fd, .int b tb, .int d td, .int now tn]) Q E s := by
  k_fill
  intro w mean mg mb dp un gd cn cs a ccd cl outer A₀ base h₀ L m s Q E led bag fd sp as lo ofd osp oas ol b d now n tb td tn c sh ky bl a1 a2 a3 l1 l2 l3 B F X N T hk hdp hu EO mf ms ml hsb hb0 hb1 hd0 hd1 hret
  have N1 := N
  refine wpAny_call ?_
  k_dflt (refine' code_defG ?k1 ?k2 ?k3 ?k4 ?k5 ?kA ?kF ?kK ?k6 ?k7 ?k8 ?k9 ?kB ?_ ?c2 ?c3 ?c4 ?c5; (case kA => exact rfl); (case kF => exact rfl); (case kK => assumption); (case k1 => k_asm); (case k2 => k_asm); (case k3 => k_asm); (case k4 => exact N1); (case k5 => k_asm); (case k6 => k_is); (case k7 => k_is); (case k8 => ktr_room); (case k9 => exact BindsTo.of_eq rfl); (case c5 => decide); (case kB => exact locs rfl); (case c2 => exact rfl); (case c3 => exact rfl); (case c4 => exact rfl); k_whole; intro g' L' h' FG' F' N' B' X' T' GS'; (try dsimp only); (try k_fold))
  obtain ⟨mm, F1, r1, r2, r3, r4⟩ : ∃ mm, Fr g' L' h' mm ∧ mm (Str.ofString "end") = some (.ref fd) ∧ mm (Str.ofString "base") = some (.int b tb) ∧ mm (Str.ofString "delay") = some (.int d td) ∧ mm (Str.ofString "now") = some (.int now tn) := ⟨_, F', rfl, rfl, rfl, rfl⟩
  clear F'
  change wpAny _ (ktrTop _ _ _ (Str.ofString "_law_told") (fnScope 27) _ 269 (.ref 268) [] _) (execs (stAt (fnBody 27) 0 :: stAt (fnBody 27) 1 :: stAt (fnBody 27) 2 :: [stAt (fnBody 27) 3]) (envOf (Str.ofString "_law_told") (fnScope 27) L' 269 (.ref 268))) _ _ _
  obtain ⟨⟨tc, hdict⟩, ⟨sv1, sv2, sv3, k0, rfl, hs1, hs2, hs3⟩, -, ⟨w1, w2, w3, hol, e1, e2, e3⟩, hn0, hn3, hz1, hz2, hz3⟩ := EO
  refine' t_init  B' ?F1 X' ?N1 T' ?hd1 ?hu1  ?hr1
  case F1 => with_reducible assumption
  case hd1 => walk_at "zr"
  case hu1 => walk_at "zu"
  case N1 => with_reducible assumption
  intro aq oaq hp2 tk2 m2 F2 ra off2 N2 hq2 hlq aA
  try dsimp only
  replace r1 := off2.get r1
  replace r2 := off2.get r2
  replace r3 := off2.get r3
  replace r4 := off2.get r4
  have hoff : ∀ p ∈ led, p.1 ≠ aq := all_ne_of_lt aA
  refine' t_loop  B' ?F2 X' ?N2 T' ?hd2 ?hu2 ?z0_2 ?z1_2 ?z2_2 ?z3_2 ?z4_2 ?z5_2 ?z6_2 ?z7_2 ?z8_2 ?z9_2 ?hr2
  case F2 => with_reducible assumption
  case hd2 => walk_at "zr"
  case hu2 => walk_at "zu"
  case z0_2 => exact ⟨ra, r1, r2, r3, r4⟩
  case N2 => with_reducible assumption
  case z1_2 => exact hq2
  case z2_2 => exact hdict
  case z3_2 => exact mf
  case z4_2 => exact ms
  case z5_2 => exact hs1
  case z6_2 => exact hs2
  case z7_2 => exact hs3
  case z8_2 => exact hsb
  case z9_2 => exact hoff
  intro oaq3 v1 v2 v3 hp3 tk3 m3 F3 hr3 N3 hq3 g1 g2 g3
  try dsimp only
  refine' t_probe  B' ?F3 X' ?N3 T' ?hd3 ?hu3 ?z0_3 ?z1_3 ?z2_3 ?z3_3 ?z4_3 ?z5_3 ?z6_3 ?z7_3 ?z8_3 ?z9_3 ?z10_3 ?z11_3 ?z12_3 ?z13_3 ?z14_3 ?hr3
  case F3 => with_reducible assumption
  case hd3 => walk_at "zr"
  case hu3 => walk_at "zu"
  case z0_3 => exact hr3
  case N3 => with_reducible assumption
  case z1_3 => exact hq3
  case z2_3 => exact hlq
  case z3_3 => exact hdict
  case z4_3 => exact mf
  case z5_3 => exact g1
  case z6_3 => exact g2
  case z7_3 => exact g3
  case z8_3 => exact hb0
  case z9_3 => exact hb1
  case z10_3 => exact hd0
  case z11_3 => exact hd1
  case z12_3 => exact hn0
  case z13_3 => exact hn3
  case z14_3 => exact hoff
  intro pv nw hp4 tk4 m4 F4 rp off4 N4 tv4 ap4
  try dsimp only
  obtain ⟨s1, s2, s3, s4, s5⟩ := hr3
  replace s1 := off4.get s1
  replace s2 := off4.get s2
  refine' t_ret  B' ?F4 X' ?N4 T' ?hd4 ?hu4 ?z0_4 ?z1_4 ?z2_4 ?z3_4 ?z4_4 ?z5_4 ?z6_4 ?z7_4 ?z8_4 ?z9_4 ?z10_4 ?z11_4 ?z12_4 ?z13_4 ?hr4
  case F4 => with_reducible assumption
  case hd4 => walk_at "zr"
  case hu4 => walk_at "zu"
  case z0_4 => exact s1
  case z1_4 => exact s2
  case z2_4 => exact rp
  case N4 => with_reducible assumption
  case z3_4 => exact hdict
  case z4_4 => exact List.mem_append.mpr (.inr (.tail _ mf))
  case z5_4 => exact List.mem_append.mpr (.inr (.tail _ ml))
  case z6_4 => exact fun p hp => List.mem_append.mpr (.inl hp)
  case z7_4 => exact hz3
  case z8_4 => exact hol
  case z9_4 => exact e1
  case z10_4 => exact e2
  case z11_4 => exact e3
  case z12_4 => exact fun p hp => ap4 p hp _ (.tail _ ml)
  case z13_4 => exact tv4
  intro tup v nw2 kt hp5 tk5 F5 N5 tv5 ap5 htup
  try dsimp only
  generalize hT : (tup, ({ cls := .type "tuple", data := .seq #[.ref aq, v] kt } : Obj)) = TUP at N5
  have e0 : TUP.1 = tup := by rw [← hT]
  have NV := News.sub N5 (l' := TUP :: (nw2 ++ (nw ++ [(aq, oaq3)]))) (by
    walk_at "zm")
  have AP : ∀ p ∈ TUP :: (nw2 ++ (nw ++ [(aq, oaq3)])), ∀ q ∈ led, p.1 ≠ q.1 := by
    intro p hp q hq
    rcases List.mem_cons.mp hp with rfl | hp
    · rw [e0]; exact (htup q (List.mem_append.mpr (.inr (List.mem_append.mpr (.inr (.tail _ hq)))))).symm
    rcases List.mem_append.mp hp with hp | hp
    · exact ap5 p hp q (List.mem_append.mpr (.inr (.tail _ hq)))
    rcases List.mem_append.mp hp with hp | hp
    · exact ap4 p hp q (.tail _ hq)
    · rw [List.mem_singleton.mp hp]; exact (hoff q hq).symm
  have NF := N5
  (try clear N5); (try clear N4); (try clear N3); (try clear N2); (try clear N')
  clear NV
  have NV := NF
  clear NF
  k_steps
  (rename Fr h₀ _ _ _ => kF); (rename News h₀ _ _ _ => kN)
  have part : ∀ p ∈ TUP :: (nw2 ++ (nw ++ [(aq, oaq3)])), p ∈ TUP :: (nw2 ++ (nw ++ (aq, oaq3) :: led)) := by
    walk_at "zm"
  have KK := keepsN_of N GS' F5 (News.sub kN (fun p hp => .tail _ (List.mem_append.mpr (.inr (List.mem_append.mpr (.inr (.tail _ hp)))))))
  exact hret tup aq oaq3 v v1 v2 v3 (TUP :: (nw2 ++ (nw ++ [(aq, oaq3)]))) kt _ _ kF (News.sub kN part) KK (fun all Na => apart_all (led := led) Na GS' (News.sub NV part) AP) (by rw [hT]; exact .head _) (.tail _ (List.mem_append.mpr (.inr (List.mem_append.mpr (.inr (.head _)))))) hq3 g1 g2 g3 hlq (tv5.mono fun p hp => .tail _ (List.mem_append.mpr (.inl hp)))
end
section
variable {prog : Program} {w : World} {A : Around} {E : Value → Shared → Prop} {s : Shared} {h₀ : Heap} {L : Addr}
theorem eq_nil_list {l b : Addr} {items : Array Value} {Q : Value → Shared → Prop} (hl : s.heap.IsList l items) (hb : s.heap.IsList b #[]) (hu : A.units < cLine) (h : Q (.bool (items.size == 0)) s) :
    wpAny (model prog w) A (compareOp .Eq (.ref l) (.ref b)) Q E s := by
  show wpAny _ _ (richCompare .Eq (.ref l) (.ref b)) Q E s
  by_cases hz : items.size = 0
  · have := SeqAt.RcAt.lists (e := fun _ => true) hl hb (by simp [hz]) hu (fun j h1 h2 => absurd h1 (by omega)) prog w E Q
    refine this ?_
    have e : (items.size == 0) = true := by simp [hz]
    rw [e] at h
    rw [hz]
    exact h
  · refine SeqAt.RcAt.lists_lengths hl hb (by simp [hz]) hu prog w E Q ?_
    have e : (items.size == 0) = false := by simp [hz]
    rw [e] at h
    exact h
theorem Src.tuple {m : Str → Option Value} {news : List (Addr × Obj)} {ax : Addr} {vs : List Value} (hh : A.handled = none) (F : Fr h₀ L s.heap m) (N : News h₀ L s.heap news) (hl : s.heap.IsTuple ax vs.toArray) (hsz : vs.length ≤ sizeLine) : Src prog w A h₀ L m news vs (.ref ax) s where
  F := F
  N := N
  sz := hsz
  it := by
    intro Q E h
    have hlt : ax < s.heap.objs.size := by obtain ⟨_, e, _⟩ := hl; exact Heap.lt_size e
    refine wpAny_pyIter_tuple hl ?_
    refine h s.heap.objs.size _ _ _ _ _ (Walks.tuple hh _ _ (Nat.ne_of_lt hlt) vs.toArray) ⟨⟨_, Heap.get?_push_size _ rfl, rfl, rfl⟩, hl.at fun o e => Heap.get?_push_of_some _ e⟩ ?_ (fun i v e => by simpa using e) (F.push _) (N.pushKeep _) (fresh_of F N)
    intro b hb
    show b < (s.heap.push _).objs.size
    rw [Heap.size_push]
    rcases List.mem_cons.mp hb with rfl | hb
    · exact Nat.lt_succ_self _
    · rcases List.mem_cons.mp hb with rfl | hb
      · exact Nat.lt_succ_of_lt hlt
      · cases hb
end
/-- is the named one asked? -/
def pA (a1 a2 a3 : Option Int) (v : Value) : Bool := match v with
  | .str nm _ => if nm = Str.ofString "initial" then a1.isSome else if nm = Str.ofString "handshake" then a2.isSome else a3.isSome
  | _ => false
def pN (v : Value) : Bool := match v with
  | .none => false
  | _ => true
theorem pN_eq {v : Value} {a : Option Int} (h : OV v a) : pN v = a.isSome := by
  rcases h with ⟨rfl, rfl⟩ | ⟨n, t, rfl, rfl⟩ <;> rfl
section
local macro_rules | `(tactic| walk_at "subscriptTail") => `(tactic| walk_at "z18")
local macro_rules | `(tactic| walk_at "eval Name") => `(tactic| walk_at "z10")
local macro_rules | `(tactic| walk_at "compareOp IsNot") => `(tactic| (k_here; refine isnot_ov (by with_reducible assumption) ?_))
local macro_rules | `(tactic| walk_at "exec Assign cons ListComp") => `(tactic| (k_here; refine held ?_))
set_option maxHeartbeats 8000000 in
theorem w_early : ∀ {w : World} {mean : ExcName → Option Value} {mg mb : Str → Option Value} {dp un : Nat} {gd : Option (List Code)} {outer : List Env} {A₀ : Around} {base h₀ : Heap} {L : Addr} {m : Str → Option Value} {s : Shared} {tl : List Stmt} {Q : Flow → Shared → Prop} {E : Value → Shared → Prop} {rest : List (Addr × Obj)} {fd sp as lo : Addr} {ofd oas ol oc : Obj} {n : Int} {tc : Tok} {c sh ky bl : Bool} {v1 v2 v3 w1 w2 w3 : Value} {a1 a2 a3 l1 l2 l3 : Option Int}
    (B : Below A₀ base outer h₀) (F : Fr h₀ L s.heap m) (X : (heapK w.params).In h₀) (N : News h₀ L s.heap ((fd, ofd) :: (as, oas) :: (lo, ol) :: (L + 1, oc) :: rest)) (T : Top vw (looseW vw []) mean mg mb h₀) (hdp : dp < 360) (hu : un < 360)
    (hc : oc.data = .cell (some (.ref fd))) (hf : ofd.IsDictOf (Dz w) [(Str.ofString "confirmed", .bool c), (Str.ofString "shown", .bool sh), (Str.ofString "keys", .bool ky), (Str.ofString "blocked", .bool bl), (Str.ofString "spaces", .ref sp), (Str.ofString "asked", .ref as), (Str.ofString "losses", .ref lo), (Str.ofString "count", .int n tc)]) (ha : oas.IsDictOf (Dz w) (tri v1 v2 v3)) (hl : ol.IsDictOf (Dz w) (tri w1 w2 w3)) (g1 : OV v1 a1) (g2 : OV v2 a2) (g3 : OV v3 a3) (e1 : OV w1 l1) (e2 : OV w2 l2) (e3 : OV w3 l3) (hz : (lo == sysModules) = false)
    (hret : ∀ D ys k h' tk' m', Fr h₀ L h' m' → m' (Str.ofString "early") = some (.ref D) → Off [Str.ofString "early"] m m' → News h₀ L h' ((D, listOf ys k) :: (fd, ofd) :: (as, oas) :: (lo, ol) :: (L + 1, oc) :: rest) → (ys.size != 0) = (a1.isSome || a2.isSome) → wpAny (model PySem.Challenge.rw_no0077_01.row.prog w) (ktrTop dp un gd (Str.ofString "_law_is_owed") (fnScope 29) L 279 (.ref 278) (cellsFrom (L + 1) (fnScope 29).names []) outer) (execs tl (envOfC (Str.ofString "_law_is_owed") (fnScope 29) L 279 (.ref 278))) Q E { s with heap := h', toks := tk' }),
    wpAny (model PySem.Challenge.rw_no0077_01.row.prog w) (ktrTop dp un gd (Str.ofString "_law_is_owed") (fnScope 29) L 279 (.ref 278) (cellsFrom (L + 1) (fnScope 29).names []) outer) (execs ((stAt (fnBody 29) 0) :: tl) (envOfC (Str.ofString "_law_is_owed") (fnScope 29) L 279 (.ref 278))) Q E s := by
  k_fill
  intro w mean mg mb dp un gd outer A₀ base h₀ L m s tl Q E rest fd sp as lo ofd oas ol oc n tc c sh ky bl v1 v2 v3 w1 w2 w3 a1 a2 a3 l1 l2 l3 B F X N T hdp hu hc hf ha hl g1 g2 g3 e1 e2 e3 hz hret
  walk_at "zwa"
  k_steps
  (show wpAny _ _ _ _ _ _)
  refine' comp_a (pA a1 a2 a3) (fun v y => y = v) F ?q8 ?q9 ?q1 ?q2 ?q3 ?q4 ?q5 ?q10 ?q11 ?q6 ?q7
  case q8 => with_unfolding_all rfl
  case q9 => with_unfolding_all rfl
  case q10 => with_unfolding_all rfl
  case q11 => with_unfolding_all rfl
  case q1 => with_unfolding_all rfl
  case q2 => decide
  case q3 => with_unfolding_all rfl
  case q4 => decide
  case q5 => with_unfolding_all rfl
  case q7 => intro _; with_unfolding_all rfl
  k_steps
  (rename Fr _ _ _ _ => kF); (rename News _ _ _ _ => kN)
  refine' ⟨[.str (Str.ofString "initial") _, .str (Str.ofString "handshake") _], _, _, Src.tuple (by rfl) kF kN ⟨_, (kN _ (by k_mem)).1, rfl, _, rfl⟩ (Nat.le_of_ble_eq_true rfl), ⟨?t, ?e⟩, ?q⟩
  case t =>
    intro C v s₂ m₂ E' hv hn hm F2 N2
    clear kN
    rcases List.mem_cons.mp hv with rfl | hv
    · k_steps
      all_goals first | exact rfl | exact ⟨_, _, rfl, fun _ _ e => e⟩
    · rw [List.mem_singleton.mp hv] at hm ⊢
      k_steps
      all_goals first | exact rfl | exact ⟨_, _, rfl, fun _ _ e => e⟩
  case e =>
    intro C v s₂ m₂ E' hv hp hn hm F2 N2
    clear kN
    rcases List.mem_cons.mp hv with rfl | hv
    · k_steps
      all_goals first | exact rfl | exact ⟨_, _, rfl, fun _ _ e => e⟩
    · rw [List.mem_singleton.mp hv] at hm ⊢
      k_steps
      all_goals first | exact rfl | exact ⟨_, _, rfl, fun _ _ e => e⟩
  case q =>
    intro D ys k3 h3 tk3 N3 ne3 hP3 F3
    have hy := paired_eq hP3
    subst hy
    refine' hret D _ k3 _ _ _ F3 ?za ?zn (News.sub N3 (by walk_at "zs")) ?zl
    case za => rfl
    case zn => exact (by intro y hy; simp only [List.mem_cons, List.not_mem_nil, or_false, not_or] at hy; simp only [hy, if_false])
    case zl =>
      show ((List.filter (pA a1 a2 a3) [_, _]).toArray.size != 0) = _
      simp only [List.filter_cons, List.filter_nil, pA]
      cases a1 <;> cases a2 <;> rfl
end
theorem fin_or {P : Bool → Prop} {u v : Bool} (H : P u) (e : u = v) : P v := e ▸ H
local macro_rules | `(tactic| walk_at "z19") => `(tactic| (k_here; k_dflt (refine' eq_nil_list (News.isList ?N ?m) (News.isList ?N2 ?m2) ?u ?_; (case N => k_asm); (case m => k_mem); (case N2 => k_asm); (case m2 => k_mem); (case u => k_units); k_whole); (try dsimp only)))
section
local macro_rules | `(tactic| walk_at "call ref") => `(tactic| (k_here; refine held ?_))
local macro_rules | `(tactic| walk_at "subscriptTail") => `(tactic| walk_at "z18")
local macro_rules | `(tactic| walk_at "eval Name") => `(tactic| walk_at "z10")
local macro_rules | `(tactic| walk_at "compareOp IsNot") => `(tactic| (k_here; refine isnot_ov (by with_reducible assumption) ?_))
local macro_rules | `(tactic| walk_at "exec Assign cons ListComp") => `(tactic| (k_here; refine held ?_))
local macro_rules | `(tactic| walk_at "eval ListComp") => `(tactic| (k_here; refine held ?_))
local macro_rules | `(tactic| walk_at "compareOp NotEq ref ref") => `(tactic| walk_at "z7")
local macro_rules | `(tactic| walk_at "compareOp Eq ref ref") => `(tactic| walk_at "z19")
set_option maxHeartbeats 8000000 in
theorem w_late : ∀ {w : World} {mean : ExcName → Option Value} {mg mb : Str → Option Value} {dp un : Nat} {gd : Option (List Code)} {outer : List Env} {A₀ : Around} {base h₀ : Heap} {L : Addr} {m : Str → Option Value} {s : Shared} {tl : List Stmt} {Q : Flow → Shared → Prop} {E : Value → Shared → Prop} {rest : List (Addr × Obj)} {fd sp as lo : Addr} {ofd oas ol oc : Obj} {n : Int} {tc : Tok} {c sh ky bl : Bool} {v1 v2 v3 w1 w2 w3 : Value} {a1 a2 a3 l1 l2 l3 : Option Int}
    (B : Below A₀ base outer h₀) (F : Fr h₀ L s.heap m) (X : (heapK w.params).In h₀) (N : News h₀ L s.heap ((fd, ofd) :: (as, oas) :: (lo, ol) :: (L + 1, oc) :: rest)) (T : Top vw (looseW vw []) mean mg mb h₀) (hdp : dp < 360) (hu : un < 360)
    (hc : oc.data = .cell (some (.ref fd))) (hf : ofd.IsDictOf (Dz w) [(Str.ofString "confirmed", .bool c), (Str.ofString "shown", .bool sh), (Str.ofString "keys", .bool ky), (Str.ofString "blocked", .bool bl), (Str.ofString "spaces", .ref sp), (Str.ofString "asked", .ref as), (Str.ofString "losses", .ref lo), (Str.ofString "count", .int n tc)]) (ha : oas.IsDictOf (Dz w) (tri v1 v2 v3)) (hl : ol.IsDictOf (Dz w) (tri w1 w2 w3)) (g1 : OV v1 a1) (g2 : OV v2 a2) (g3 : OV v3 a3) (e1 : OV w1 l1) (e2 : OV w2 l2) (e3 : OV w3 l3) (hz : (lo == sysModules) = false)
    (hret : ∀ h' tk' m', Fr h₀ L h' m' → m' (Str.ofString "late") = some (.bool (c && a3.isSome)) → Off [Str.ofString "late"] m m' → News h₀ L h' ((fd, ofd) :: (as, oas) :: (lo, ol) :: (L + 1, oc) :: rest) → wpAny (model PySem.Challenge.rw_no0077_01.row.prog w) (ktrTop dp un gd (Str.ofString "_law_is_owed") (fnScope 29) L 279 (.ref 278) (cellsFrom (L + 1) (fnScope 29).names []) outer) (execs tl (envOfC (Str.ofString "_law_is_owed") (fnScope 29) L 279 (.ref 278))) Q E { s with heap := h', toks := tk' }),
    wpAny (model PySem.Challenge.rw_no0077_01.row.prog w) (ktrTop dp un gd (Str.ofString "_law_is_owed") (fnScope 29) L 279 (.ref 278) (cellsFrom (L + 1) (fnScope 29).names []) outer) (execs ((stAt (fnBody 29) 1) :: tl) (envOfC (Str.ofString "_law_is_owed") (fnScope 29) L 279 (.ref 278))) Q E s := by
  k_fill
  intro w mean mg mb dp un gd outer A₀ base h₀ L m s tl Q E rest fd sp as lo ofd oas ol oc n tc c sh ky bl v1 v2 v3 w1 w2 w3 a1 a2 a3 l1 l2 l3 B F X N T hdp hu hc hf ha hl g1 g2 g3 e1 e2 e3 hz hret
  walk_at "zwa"
  k_steps
  all_goals (try dsimp only)
  all_goals ((rename Fr _ _ _ _ => kF); (rename News _ _ _ _ => kN); (rename c = _ => ec); subst ec)
  · refine' hret _ _ _ kF ?za ?zn kN
    case za => rfl
    case zn => exact (by intro y hy; simp only [List.mem_cons, List.not_mem_nil, or_false, not_or] at hy; simp only [hy, if_false])
  · refine' hret _ _ _ kF ?za ?zn kN
    case za => rfl
    case zn => exact (by intro y hy; simp only [List.mem_cons, List.not_mem_nil, or_false, not_or] at hy; simp only [hy, if_false])
set_option maxHeartbeats 8000000 in
theorem w_none : ∀ {w : World} {mean : ExcName → Option Value} {mg mb : Str → Option Value} {dp un : Nat} {gd : Option (List Code)} {outer : List Env} {A₀ : Around} {base h₀ : Heap} {L : Addr} {m : Str → Option Value} {s : Shared} {tl : List Stmt} {Q : Flow → Shared → Prop} {E : Value → Shared → Prop} {rest : List (Addr × Obj)} {fd sp as lo : Addr} {ofd oas ol oc : Obj} {n : Int} {tc : Tok} {c sh ky bl : Bool} {v1 v2 v3 w1 w2 w3 : Value} {a1 a2 a3 l1 l2 l3 : Option Int}
    (B : Below A₀ base outer h₀) (F : Fr h₀ L s.heap m) (X : (heapK w.params).In h₀) (N : News h₀ L s.heap ((fd, ofd) :: (as, oas) :: (lo, ol) :: (L + 1, oc) :: rest)) (T : Top vw (looseW vw []) mean mg mb h₀) (hdp : dp < 360) (hu : un < 360)
    (hc : oc.data = .cell (some (.ref fd))) (hf : ofd.IsDictOf (Dz w) [(Str.ofString "confirmed", .bool c), (Str.ofString "shown", .bool sh), (Str.ofString "keys", .bool ky), (Str.ofString "blocked", .bool bl), (Str.ofString "spaces", .ref sp), (Str.ofString "asked", .ref as), (Str.ofString "losses", .ref lo), (Str.ofString "count", .int n tc)]) (ha : oas.IsDictOf (Dz w) (tri v1 v2 v3)) (hl : ol.IsDictOf (Dz w) (tri w1 w2 w3)) (g1 : OV v1 a1) (g2 : OV v2 a2) (g3 : OV v3 a3) (e1 : OV w1 l1) (e2 : OV w2 l2) (e3 : OV w3 l3) (hz : (lo == sysModules) = false)
    (hret : ∀ h' tk' m', Fr h₀ L h' m' → m' (Str.ofString "none") = some (.bool (!(a1.isSome || (a2.isSome || a3.isSome)))) → Off [Str.ofString "none"] m m' → News h₀ L h' ((fd, ofd) :: (as, oas) :: (lo, ol) :: (L + 1, oc) :: rest) → wpAny (model PySem.Challenge.rw_no0077_01.row.prog w) (ktrTop dp un gd (Str.ofString "_law_is_owed") (fnScope 29) L 279 (.ref 278) (cellsFrom (L + 1) (fnScope 29).names []) outer) (execs tl (envOfC (Str.ofString "_law_is_owed") (fnScope 29) L 279 (.ref 278))) Q E { s with heap := h', toks := tk' }),
    wpAny (model PySem.Challenge.rw_no0077_01.row.prog w) (ktrTop dp un gd (Str.ofString "_law_is_owed") (fnScope 29) L 279 (.ref 278) (cellsFrom (L + 1) (fnScope 29).names []) outer) (execs ((stAt (fnBody 29) 2) :: tl) (envOfC (Str.ofString "_law_is_owed") (fnScope 29) L 279 (.ref 278))) Q E s := by
  k_fill
  intro w mean mg mb dp un gd outer A₀ base h₀ L m s tl Q E rest fd sp as lo ofd oas ol oc n tc c sh ky bl v1 v2 v3 w1 w2 w3 a1 a2 a3 l1 l2 l3 B F X N T hdp hu hc hf ha hl g1 g2 g3 e1 e2 e3 hz hret
  walk_at "zwa"
  k_steps
  (show wpAny _ _ _ _ _ _)
  refine' comp_e (pA a1 a2 a3) (fun v y => y = v) F ?q1 ?q2 ?q3 ?q4 ?q5 ?q6 ?q7
  case q1 => with_unfolding_all rfl
  case q2 => decide
  case q3 => with_unfolding_all rfl
  case q4 => decide
  case q5 => with_unfolding_all rfl
  case q7 => intro _; with_unfolding_all rfl
  k_steps
  (show wpAny _ _ (call (Value.ref 240) []) _ _ _)
  k_dflt ((refine' names_call (N := ?N) ?B ?F ?X ?T ?k ?d ?u ?_; (case N => k_asm); (case B => k_asm); (case F => k_asm); (case X => k_asm); (case T => k_asm); (case k => exact rfl); (case d => walk_at "zr"); (case u => walk_at "zu"); k_whole); intro ax t1 t2 t3 h1 tk1 F1 N1 aX; (try dsimp only); (try k_sweep))
  (simp only [AllLt] at aX); walk_at "zc"
  k_steps
  refine' ⟨nmL t1 t2 t3, _, _, Src.list (by rfl) F1 N1 (News.isList N1 (by k_mem)) (Nat.le_of_ble_eq_true rfl), ⟨?t, ?e⟩, ?q⟩
  case t =>
    intro C v s₂ m₂ E' hv hn hm F2 N2
    clear N1
    rcases List.mem_cons.mp hv with rfl | hv
    · k_steps
      all_goals first | exact rfl | exact ⟨_, _, rfl, fun _ _ e => e⟩
    rcases List.mem_cons.mp hv with rfl | hv
    · k_steps
      all_goals first | exact rfl | exact ⟨_, _, rfl, fun _ _ e => e⟩
    rw [List.mem_singleton.mp hv] at hm ⊢
    k_steps
    all_goals first | exact rfl | exact ⟨_, _, rfl, fun _ _ e => e⟩
  case e =>
    intro C v s₂ m₂ E' hv hp hn hm F2 N2
    clear N1
    rcases List.mem_cons.mp hv with rfl | hv
    · k_steps
      all_goals first | exact rfl | exact ⟨_, _, rfl, fun _ _ e => e⟩
    rcases List.mem_cons.mp hv with rfl | hv
    · k_steps
      all_goals first | exact rfl | exact ⟨_, _, rfl, fun _ _ e => e⟩
    rw [List.mem_singleton.mp hv] at hm ⊢
    k_steps
    all_goals first | exact rfl | exact ⟨_, _, rfl, fun _ _ e => e⟩
  case q =>
    intro D ys k3 h3 tk3 N3 ne3 hP3 F3
    have hy := paired_eq hP3
    subst hy
    have hz : ((List.filter (pA a1 a2 a3) (nmL t1 t2 t3)).toArray.size == 0) = (!(a1.isSome || (a2.isSome || a3.isSome))) := by
      simp only [List.filter_cons, List.filter_nil, pA]
      cases a1 <;> cases a2 <;> cases a3 <;> rfl
    simp only [List.forall_mem_cons] at ne3
    walk_at "zc"
    clear N1
    k_steps
    (try dsimp only); (rename Fr _ _ _ _ => kF); (rename News _ _ _ _ => kN)
    rw [hz] at kF
    refine' hret _ _ _ kF ?za ?zn (News.sub kN (by walk_at "zs"))
    case za => rfl
    case zn => exact (by intro y hy; simp only [List.mem_cons, List.not_mem_nil, or_false, not_or] at hy; simp only [hy, if_false])
set_option maxHeartbeats 8000000 in
theorem w_losses : ∀ {w : World} {mean : ExcName → Option Value} {mg mb : Str → Option Value} {dp un : Nat} {gd : Option (List Code)} {outer : List Env} {A₀ : Around} {base h₀ : Heap} {L : Addr} {m : Str → Option Value} {s : Shared} {tl : List Stmt} {Q : Flow → Shared → Prop} {E : Value → Shared → Prop} {rest : List (Addr × Obj)} {fd sp as lo : Addr} {ofd oas ol oc : Obj} {n : Int} {tc : Tok} {c sh ky bl : Bool} {v1 v2 v3 w1 w2 w3 : Value} {a1 a2 a3 l1 l2 l3 : Option Int}
    (B : Below A₀ base outer h₀) (F : Fr h₀ L s.heap m) (X : (heapK w.params).In h₀) (N : News h₀ L s.heap ((fd, ofd) :: (as, oas) :: (lo, ol) :: (L + 1, oc) :: rest)) (T : Top vw (looseW vw []) mean mg mb h₀) (hdp : dp < 360) (hu : un < 360)
    (hc : oc.data = .cell (some (.ref fd))) (hf : ofd.IsDictOf (Dz w) [(Str.ofString "confirmed", .bool c), (Str.ofString "shown", .bool sh), (Str.ofString "keys", .bool ky), (Str.ofString "blocked", .bool bl), (Str.ofString "spaces", .ref sp), (Str.ofString "asked", .ref as), (Str.ofString "losses", .ref lo), (Str.ofString "count", .int n tc)]) (ha : oas.IsDictOf (Dz w) (tri v1 v2 v3)) (hl : ol.IsDictOf (Dz w) (tri w1 w2 w3)) (g1 : OV v1 a1) (g2 : OV v2 a2) (g3 : OV v3 a3) (e1 : OV w1 l1) (e2 : OV w2 l2) (e3 : OV w3 l3) (hz : (lo == sysModules) = false)
    (hret : ∀ D ys k h' tk' m', Fr h₀ L h' m' → m' (Str.ofString "losses") = some (.ref D) → Off [Str.ofString "losses"] m m' → News h₀ L h' ((D, listOf ys k) :: (fd, ofd) :: (as, oas) :: (lo, ol) :: (L + 1, oc) :: rest) → (ys.size != 0) = (l1.isSome || (l2.isSome || l3.isSome)) → wpAny (model PySem.Challenge.rw_no0077_01.row.prog w) (ktrTop dp un gd (Str.ofString "_law_is_owed") (fnScope 29) L 279 (.ref 278) (cellsFrom (L + 1) (fnScope 29).names []) outer) (execs tl (envOfC (Str.ofString "_law_is_owed") (fnScope 29) L 279 (.ref 278))) Q E { s with heap := h', toks := tk' }),
    wpAny (model PySem.Challenge.rw_no0077_01.row.prog w) (ktrTop dp un gd (Str.ofString "_law_is_owed") (fnScope 29) L 279 (.ref 278) (cellsFrom (L + 1) (fnScope 29).names []) outer) (execs ((stAt (fnBody 29) 3) :: tl) (envOfC (Str.ofString "_law_is_owed") (fnScope 29) L 279 (.ref 278))) Q E s := by
  k_fill
  intro w mean mg mb dp un gd outer A₀ base h₀ L m s tl Q E rest fd sp as lo ofd oas ol oc n tc c sh ky bl v1 v2 v3 w1 w2 w3 a1 a2 a3 l1 l2 l3 B F X N T hdp hu hc hf ha hl g1 g2 g3 e1 e2 e3 hz hret
  walk_at "zwa"
  k_steps
  (show wpAny _ _ _ _ _ _)
  refine' comp_a pN (fun v y => y = v) F ?q8 ?q9 ?q1 ?q2 ?q3 ?q4 ?q5 ?q10 ?q11 ?q6 ?q7
  case q8 => with_unfolding_all rfl
  case q9 => with_unfolding_all rfl
  case q10 => with_unfolding_all rfl
  case q11 => with_unfolding_all rfl
  case q1 => with_unfolding_all rfl
  case q2 => decide
  case q3 => with_unfolding_all rfl
  case q4 => decide
  case q5 => with_unfolding_all rfl
  case q7 => intro _; with_unfolding_all rfl
  k_steps
  (rename Fr _ _ _ _ => kF); (rename News _ _ _ _ => kN)
  have ovs : ∀ v ∈ (tri w1 w2 w3).map (·.2), ∃ a, OV v a := by
    intro v hv
    rcases List.mem_cons.mp hv with rfl | hv
    · exact ⟨_, e1⟩
    rcases List.mem_cons.mp hv with rfl | hv
    · exact ⟨_, e2⟩
    rw [List.mem_singleton.mp hv]; exact ⟨_, e3⟩
  refine' ⟨_, _, _, Src.values (knd := strKind _ _) (by rfl) kF kN (by k_mem) (by k_mem) hl (Nat.le_of_ble_eq_true rfl), ⟨?t, ?e⟩, ?q⟩
  case t =>
    intro C v s₂ m₂ E' hv hn hm F2 N2
    clear kN
    obtain ⟨a, hov⟩ := ovs v hv
    k_steps
    all_goals first | exact (pN_eq hov).symm | exact ⟨_, _, rfl, fun _ _ e => e⟩
  case e =>
    intro C v s₂ m₂ E' hv hp hn hm F2 N2
    clear kN
    k_steps
    all_goals first | exact rfl | exact ⟨_, _, rfl, fun _ _ e => e⟩
  case q =>
    intro D ys k3 h3 tk3 N3 ne3 hP3 F3
    have hy := paired_eq hP3
    subst hy
    refine' hret D _ k3 _ _ _ F3 ?za ?zn (News.sub N3 (by walk_at "zs")) ?zl
    case za => rfl
    case zn => exact (by intro y hy; simp only [List.mem_cons, List.not_mem_nil, or_false, not_or] at hy; simp only [hy, if_false])
    case zl =>
      show ((List.filter pN [w1, w2, w3]).toArray.size != 0) = _
      simp only [List.filter_cons, List.filter_nil, pN_eq e1, pN_eq e2, pN_eq e3]
      cases l1 <;> cases l2 <;> cases l3 <;> rfl
set_option maxHeartbeats 8000000 in
theorem w_ret : ∀ {w : World} {mean : ExcName → Option Value} {mg mb : Str → Option Value} {dp un : Nat} {gd : Option (List Code)} {outer : List Env} {A₀ : Around} {base h₀ : Heap} {L : Addr} {m : Str → Option Value} {s : Shared} {tl : List Stmt} {Q : Flow → Shared → Prop} {E : Value → Shared → Prop} {rest : List (Addr × Obj)} {D1 D2 fd sp as lo : Addr} {ofd oc : Obj} {n : Int} {tc : Tok} {c sh ky bl lt nb b1 b2 : Bool} {ys1 ys2 : Array Value} {k1 k2 : Nat}
    (B : Below A₀ base outer h₀) (F : Fr h₀ L s.heap m) (X : (heapK w.params).In h₀) (N : News h₀ L s.heap ((D1, listOf ys1 k1) :: (D2, listOf ys2 k2) :: (fd, ofd) :: (L + 1, oc) :: rest)) (T : Top vw (looseW vw []) mean mg mb h₀) (hdp : dp < 360) (hu : un < 360)
    (r1 : m (Str.ofString "early") = some (.ref D1)) (r2 : m (Str.ofString "late") = some (.bool lt)) (r3 : m (Str.ofString "none") = some (.bool nb)) (r4 : m (Str.ofString "losses") = some (.ref D2)) (hc : oc.data = .cell (some (.ref fd))) (hf : ofd.IsDictOf (Dz w) [(Str.ofString "confirmed", .bool c), (Str.ofString "shown", .bool sh), (Str.ofString "keys", .bool ky), (Str.ofString "blocked", .bool bl), (Str.ofString "spaces", .ref sp), (Str.ofString "asked", .ref as), (Str.ofString "losses", .ref lo), (Str.ofString "count", .int n tc)]) (hb1 : (ys1.size != 0) = b1) (hb2 : (ys2.size != 0) = b2)
    (hret : ∀ h' tk', Fr h₀ L h' m → News h₀ L h' ((D1, listOf ys1 k1) :: (D2, listOf ys2 k2) :: (fd, ofd) :: (L + 1, oc) :: rest) → Q (.ret (.bool (b1 || (lt || ((nb && !sh) || b2))))) { s with heap := h', toks := tk' }),
    wpAny (model PySem.Challenge.rw_no0077_01.row.prog w) (ktrTop dp un gd (Str.ofString "_law_is_owed") (fnScope 29) L 279 (.ref 278) (cellsFrom (L + 1) (fnScope 29).names []) outer) (execs ((stAt (fnBody 29) 4) :: tl) (envOfC (Str.ofString "_law_is_owed") (fnScope 29) L 279 (.ref 278))) Q E s := by
  k_fill
  intro w mean mg mb dp un gd outer A₀ base h₀ L m s tl Q E rest D1 D2 fd sp as lo ofd oc n tc c sh ky bl lt nb b1 b2 ys1 ys2 k1 k2 B F X N T hdp hu r1 r2 r3 r4 hc hf hb1 hb2 hret
  walk_at "zwr"
  k_steps
  all_goals (try dsimp only)
  all_goals ((rename Fr _ _ _ _ => kF); (rename News _ _ _ _ => kN); refine fin_or (P := fun b => Q (.ret (.bool b)) _) (hret _ _ kF (News.sub kN (by walk_at "zs"))) ?_; clear hret r1 r2 r3 r4 hf hc kF kN; subst hb1; subst hb2)
  all_goals simp [*]
end
def owedS (c sh : Bool) (a1 a2 a3 l1 l2 l3 : Option Int) : Bool := (a1.isSome || a2.isSome) || ((c && a3.isSome) || ((!(a1.isSome || (a2.isSome || a3.isSome)) && !sh) || (l1.isSome || (l2.isSome || l3.isSome))))
section
local macro_rules | `(tactic| k_ne) => `(tactic| walk_at "z13")
local macro_rules | `(tactic| k_room) => `(tactic| walk_at "z1")
local macro_rules | `(tactic| k_enter) => `(tactic| walk_at "z4")
local macro_rules | `(tactic| walk_at "execs cons") => `(tactic| walk_at "z5")
local macro_rules | `(tactic| walk_at "subscriptTail") => `(tactic| walk_at "z6")
local macro_rules | `(tactic| walk_at "compareOp NotEq ref ref") => `(tactic| walk_at "z7")
set_option maxHeartbeats 8000000 in
theorem owed_call : ∀ {w : World} {mean : ExcName → Option Value} {mg mb : Str → Option Value} {dp un : Nat} {gd : Option (List Code)} {cn : Str} {cs : Scope} {a : Addr} {ccd : Value} {cl : List (Str × Addr)} {outer : List Env} {A₀ : Around} {base h₀ : Heap} {L : Addr} {m : Str → Option Value} {s : Shared}
    {Q E : Value → Shared → Prop} {led bag : List (Addr × Obj)} {fd sp as lo : Addr} {ofd osp oas ol : Obj} {n : Int} {c sh ky bl : Bool} {a1 a2 a3 l1 l2 l3 : Option Int}
    (B : Below A₀ base outer h₀) (F : Fr h₀ L s.heap m) (X : (heapK w.params).In h₀) (N : News h₀ L s.heap (led)) (T : Top vw (looseW vw []) mean mg mb h₀) (hk : cs.kind = .function) (hdp : dp < 350) (hu : un < 350)
    (EO : EndOK w fd sp as lo ofd osp oas ol bag c sh ky bl a1 a2 a3 l1 l2 l3 n) (mf : (fd, ofd) ∈ led) (ma : (as, oas) ∈ led) (ml : (lo, ol) ∈ led)
    (hret : ∀ h' tk', Fr h₀ L h' m → KeepsN h₀ L s.heap h' → Q (.bool (owedS c sh a1 a2 a3 l1 l2 l3)) { s with heap := h', toks := tk' }),
    wpAny (model PySem.Challenge.rw_no0077_01.row.prog w) (ktrTop dp un gd cn cs L a ccd cl outer) (call (.ref 279) [.ref fd]) Q E s := by
  k_fill
  intro w mean mg mb dp un gd cn cs a ccd cl outer A₀ base h₀ L m s Q E led bag fd sp as lo ofd osp oas ol n c sh ky bl a1 a2 a3 l1 l2 l3 B F X N T hk hdp hu EO mf ma ml hret
  have N1 : News h₀ L s.heap [(fd, ofd), (as, oas), (lo, ol)] := News.sub N (List.forall_mem_cons.mpr ⟨mf, List.forall_mem_cons.mpr ⟨ma, List.forall_mem_cons.mpr ⟨ml, List.forall_mem_nil _⟩⟩⟩)
  have NX := N1
  refine wpAny_call ?_
  k_dflt (refine' enter_cells ?k1 ?k2 ?k3 ?k4 ?k5 ?kA ?kF ?kK ?k6 ?k7 ?k8 ?k9 ?kB ?kD ?_ ?c2 ?c3 ?c4; (case kA => exact rfl); (case kF => exact rfl); (case kK => assumption); (case k1 => k_asm); (case k2 => k_asm); (case k3 => k_asm); (case k4 => exact N1); (case k5 => k_asm); (case k6 => k_is); (case k7 => k_is); (case k8 => ktr_room); (case k9 => exact BindsTo.of_eq rfl); (case kB => exact rfl); (case kD => decide +kernel); (case c2 => exact rfl); (case c3 => exact rfl); (case c4 => exact rfl); k_whole; intro g' L' h' tk' cells' FG' F' N' Y' B' X' T' l1 GS'; (try k_lt l1); k_cells Y'; (try simp only [List.cons_append, List.nil_append] at N'); (try dsimp only); (try k_fold))
  (rename Obj.data _ = Data.cell _ => dcx)
  have dc : _ = Data.cell (some (.ref fd)) := dcx
  clear dcx
  obtain ⟨mm, F1⟩ : ∃ mm, Fr g' L' h' mm := ⟨_, F'⟩
  clear F'
  change wpAny _ (ktrTop _ _ _ (Str.ofString "_law_is_owed") (fnScope 29) _ 279 (.ref 278) (cellsFrom (L' + 1) (fnScope 29).names []) _) (execs (stAt (fnBody 29) 0 :: stAt (fnBody 29) 1 :: stAt (fnBody 29) 2 :: stAt (fnBody 29) 3 :: [stAt (fnBody 29) 4]) (envOfC (Str.ofString "_law_is_owed") (fnScope 29) L' 279 (.ref 278))) _ _ _
  obtain ⟨⟨tc, hdict⟩, -, ⟨v1, v2, v3, hq, g1, g2, g3⟩, ⟨w1, w2, w3, hol, e1, e2, e3⟩, hn0, hn3, hz1, hz2, hz3⟩ := EO
  refine' w_early (fd := fd) (as := as) (lo := lo) B' ?F1 X' (News.pull4 ?P1_1 ?P2_1 ?P3_1 ?P4_1 ?N1) T' ?hd1 ?hu1 ?z0_1 ?z1_1 ?z2_1 ?z3_1 ?z4_1 ?z5_1 ?z6_1 ?z7_1 ?z8_1 ?z9_1 ?z10_1 ?hr1
  case F1 => with_reducible assumption
  case hd1 => walk_at "zr"
  case hu1 => walk_at "zu"
  case N1 => with_reducible assumption
  case P1_1 => walk_at "zp"
  case P2_1 => walk_at "zp"
  case P3_1 => walk_at "zp"
  case P4_1 => walk_at "zp"
  case z0_1 => exact dc
  case z1_1 => exact hdict
  case z2_1 => exact hq
  case z3_1 => exact hol
  case z4_1 => exact g1
  case z5_1 => exact g2
  case z6_1 => exact g3
  case z7_1 => exact e1
  case z8_1 => exact e2
  case z9_1 => exact e3
  case z10_1 => exact hz3
  intro D1 ys1 k1 hp2 tk2 m2 F2 q1 off2 N2 hb1
  try dsimp only
  refine' w_late (fd := fd) (as := as) (lo := lo) B' ?F2 X' (News.pull4 ?P1_2 ?P2_2 ?P3_2 ?P4_2 ?N2) T' ?hd2 ?hu2 ?z0_2 ?z1_2 ?z2_2 ?z3_2 ?z4_2 ?z5_2 ?z6_2 ?z7_2 ?z8_2 ?z9_2 ?z10_2 ?hr2
  case F2 => with_reducible assumption
  case hd2 => walk_at "zr"
  case hu2 => walk_at "zu"
  case N2 => with_reducible assumption
  case P1_2 => walk_at "zp"
  case P2_2 => walk_at "zp"
  case P3_2 => walk_at "zp"
  case P4_2 => walk_at "zp"
  case z0_2 => exact dc
  case z1_2 => exact hdict
  case z2_2 => exact hq
  case z3_2 => exact hol
  case z4_2 => exact g1
  case z5_2 => exact g2
  case z6_2 => exact g3
  case z7_2 => exact e1
  case z8_2 => exact e2
  case z9_2 => exact e3
  case z10_2 => exact hz3
  intro hp3 tk3 m3 F3 q2 off3 N3
  try dsimp only
  replace q1 := off3.get q1
  refine' w_none (fd := fd) (as := as) (lo := lo) B' ?F3 X' (News.pull4 ?P1_3 ?P2_3 ?P3_3 ?P4_3 ?N3) T' ?hd3 ?hu3 ?z0_3 ?z1_3 ?z2_3 ?z3_3 ?z4_3 ?z5_3 ?z6_3 ?z7_3 ?z8_3 ?z9_3 ?z10_3 ?hr3
  case F3 => with_reducible assumption
  case hd3 => walk_at "zr"
  case hu3 => walk_at "zu"
  case N3 => with_reducible assumption
  case P1_3 => walk_at "zp"
  case P2_3 => walk_at "zp"
  case P3_3 => walk_at "zp"
  case P4_3 => walk_at "zp"
  case z0_3 => exact dc
  case z1_3 => exact hdict
  case z2_3 => exact hq
  case z3_3 => exact hol
  case z4_3 => exact g1
  case z5_3 => exact g2
  case z6_3 => exact g3
  case z7_3 => exact e1
  case z8_3 => exact e2
  case z9_3 => exact e3
  case z10_3 => exact hz3
  intro hp4 tk4 m4 F4 q3 off4 N4
  try dsimp only
  replace q1 := off4.get q1
  replace q2 := off4.get q2
  refine' w_losses (fd := fd) (as := as) (lo := lo) B' ?F4 X' (News.pull4 ?P1_4 ?P2_4 ?P3_4 ?P4_4 ?N4) T' ?hd4 ?hu4 ?z0_4 ?z1_4 ?z2_4 ?z3_4 ?z4_4 ?z5_4 ?z6_4 ?z7_4 ?z8_4 ?z9_4 ?z10_4 ?hr4
  case F4 => with_reducible assumption
  case hd4 => walk_at "zr"
  case hu4 => walk_at "zu"
  case N4 => with_reducible assumption
  case P1_4 => walk_at "zp"
  case P2_4 => walk_at "zp"
  case P3_4 => walk_at "zp"
  case P4_4 => walk_at "zp"
  case z0_4 => exact dc
  case z1_4 => exact hdict
  case z2_4 => exact hq
  case z3_4 => exact hol
  case z4_4 => exact g1
  case z5_4 => exact g2
  case z6_4 => exact g3
  case z7_4 => exact e1
  case z8_4 => exact e2
  case z9_4 => exact e3
  case z10_4 => exact hz3
  intro D2 ys2 k2 hp5 tk5 m5 F5 q4 off5 N5 hb2
  try dsimp only
  replace q1 := off5.get q1
  replace q2 := off5.get q2
  replace q3 := off5.get q3
  refine' w_ret (fd := fd) (as := as) (lo := lo) B' ?F5 X' (News.pull4 ?P1_5 ?P2_5 ?P3_5 ?P4_5 ?N5) T' ?hd5 ?hu5 ?z0_5 ?z1_5 ?z2_5 ?z3_5 ?z4_5 ?z5_5 ?z6_5 ?z7_5 ?hr5
  case F5 => with_reducible assumption
  case hd5 => walk_at "zr"
  case hu5 => walk_at "zu"
  case z0_5 => exact q1
  case z1_5 => exact q2
  case z2_5 => exact q3
  case z3_5 => exact q4
  case N5 => with_reducible assumption
  case P1_5 => walk_at "zp"
  case P2_5 => walk_at "zp"
  case P3_5 => walk_at "zp"
  case P4_5 => walk_at "zp"
  case z4_5 => exact dc
  case z5_5 => exact hdict
  case z6_5 => exact hb1
  case z7_5 => exact hb2
  intro hp6 tk6 F6 N6
  try dsimp only
  have NF := News.sub N6 (l' := [(fd, ofd), (as, oas), (lo, ol)]) (by lcg_sub)
  clear N6 N'
  k_steps
  (rename Fr h₀ _ _ _ => kF); (rename News h₀ _ _ _ => kN)
  exact hret _ _ kF (keepsN_of NX GS' F6 (News.sub kN (by lcg_sub)))
end
section
variable {prog : Program} {w : World} {A : Around} {s : Shared} {env : Env} {h₀ : Heap} {a b : Str} {pa pb tp : Pos} {kk : Nat} {body : List Stmt} {Q : Flow → Shared → Prop}
/-- the state of a walk by enumerate -/
def EnSt (I IT lx : Addr) (vs : List Value) (i : Nat) (h : Heap) : Prop := (∃ old, IsEnum h I IT i old) ∧ h.IsListIter IT lx i ∧ h.IsList lx vs.toArray
theorem EnSt.objs {I IT lx : Addr} {vs : List Value} {i : Nat} {h : Heap} (x : EnSt I IT lx vs i h) :
    ∃ oI oIT, h.get? I = some oI ∧ h.get? IT = some oIT ∧ ∀ h' : Heap, h'.get? I = some oI → h'.get? IT = some oIT → h'.IsList lx vs.toArray → EnSt I IT lx vs i h' := by
  obtain ⟨⟨old, e⟩, ⟨oIT, e2, r⟩, _⟩ := x
  exact ⟨_, oIT, e, e2, fun h' q1 q2 q3 => ⟨⟨old, q1⟩, ⟨oIT, q2, r⟩, q3⟩⟩
/-- one step of the walk: the pair is let go of and its parts are bound -/
theorem en_item {C I IT lx : Addr} {vs : List Value} {i : Nat} {v : Value} {m : Str → Option Value} {cenv : Env} {Z : Shared → Prop} {E : Value → Shared → Prop} (hh : A.handled = none) (hei : I ≠ IT) (hle : lx ≠ I) (hli : lx ≠ IT)
    (hv : vs[i]? = some v) (hst : EnSt I IT lx vs i s.heap) (hn : s.heap.Ns cenv.locals m) (hC1 : cenv.locals ≠ I) (hC2 : cenv.locals ≠ IT) (hCl : cenv.locals ≠ lx)
    (ha : cenv.kindOf a = some .local) (hb : cenv.kindOf b = some .local) (hp : (cenv.scope.kind == .class || (cenv.scope.kind == .module && cenv.locals != cenv.globals)) = false)
    (h : ∀ h' tk t, EnSt I IT lx vs (i + 1) h' → h'.Ns cenv.locals (fun z => if z = b then some v else if z = a then some (.int (i : Int) t) else m z) →
      (∀ c o, c ≠ I → c ≠ IT → c ≠ cenv.locals → s.heap.get? c = some o → h'.get? c = some o) → Z { s with heap := h', toks := tk }) :
    wpAny (model prog w) A (pyNext (.ref I)) (fun r s₁ => ∃ v', r = some v' ∧ wpAny (model prog w) A (letOwnedTupleGo (.Tuple [.Name a pa, .Name b pb] kk tp) (.ref I) v') (fun _ s₁' =>
      wpAny (model prog w) A (assign (.Tuple [.Name a pa, .Name b pb] kk tp) cenv v') (fun _ s₂ => Z s₂) E s₁') E s₁) E s := by
  have W := (WalksT.enumerate (prog := prog) (w := w) hh I IT lx hei hle hli vs.toArray).toU
  rw [show vs.toArray.size = vs.length from rfl] at W
  have hlt : i < vs.length := by
    rcases Nat.lt_or_ge i vs.length with g | g
    · exact g
    · rw [List.getElem?_eq_none_iff.mpr g] at hv; cases hv
  refine W.item i _ _ _ hlt hst fun T vals h₁ tk₁ hP hT hm hk₁ => ⟨_, rfl, ?_⟩
  obtain ⟨t, x, hx, rfl⟩ := hP
  have hx : x = v := by
    have : vs[i]? = some x := by simpa using hx
    rw [hv] at this; exact (Option.some.inj this).symm
  subst hx
  refine W.go _ _ _ i T _ _ _ hm fun h₂ hst₂ hk₂ => ?_
  have hT2 : h₂.IsTuple T #[.int (i : Int) t, x] := hT.at fun o e => hk₂ T o (W.apart i T _ hm) e
  have up : ∀ c o, c ≠ I → c ≠ IT → s.heap.get? c = some o → h₂.get? c = some o := fun c o h1 h2 e =>
    have nm : c ∉ [I, IT] := fun hm => by
      rcases List.mem_cons.mp hm with q | q
      · exact h1 q
      · exact h2 (List.mem_singleton.mp q)
    hk₂ c o nm (hk₁ c o nm e)
  refine kcp_assign hh hT2 ha hb hp (hn.at' fun o e => up _ o hC1 hC2 e) fun h₃ tk₃ hn₃ hk₃ => ?_
  refine h h₃ tk₃ t ?_ hn₃ fun c o h1 h2 h3 e => hk₃ c o h3 (up c o h1 h2 e)
  obtain ⟨⟨old, q1⟩, q2, q3⟩ := hst₂
  exact ⟨⟨old, hk₃ _ _ (Ne.symm hC1) q1⟩, q2.at fun o e => hk₃ _ o (Ne.symm hC2) e, q3.at fun o e => hk₃ _ o (Ne.symm hCl) e⟩
theorem en_done {I IT lx : Addr} {vs : List Value} {Z : Shared → Prop} {E : Value → Shared → Prop} (hh : A.handled = none) (hei : I ≠ IT) (hle : lx ≠ I) (hli : lx ≠ IT)
    (hst : EnSt I IT lx vs vs.length s.heap) (h : ∀ h' tk, (∀ c o, c ≠ I → c ≠ IT → s.heap.get? c = some o → h'.get? c = some o) → Z { s with heap := h', toks := tk }) :
    wpAny (model prog w) A (pyNext (.ref I)) (fun r s₁ => r = none ∧ Z s₁) E s := by
  have W := (WalksT.enumerate (prog := prog) (w := w) hh I IT lx hei hle hli vs.toArray).toU
  rw [show vs.toArray.size = vs.length from rfl] at W
  refine W.done _ _ _ hst fun h₁ tk₁ hk₁ => ⟨rfl, h _ _ fun c o h1 h2 e => hk₁ c o (fun hm => ?_) e⟩
  rcases List.mem_cons.mp hm with q | q
  · exact h1 q
  · exact h2 (List.mem_singleton.mp q)
/-- the ledger of a turn: the second iterator stands ahead -/
def EnJ (J : (Str → Option Value) → List (Addr × Obj) → Prop) (IT : Addr) (oIT : Obj) (m : Str → Option Value) (nx' : List (Addr × Obj)) : Prop := ∃ nx, nx' = (IT, oIT) :: nx ∧ (∀ p ∈ nx, p.1 ≠ IT) ∧ J m nx
def EnTurn (prog : Program) (w : World) (A : Around) (h₀ : Heap) (env : Env) (a b : Str) (body : List Stmt) (vs : List Value) (J : Nat → (Str → Option Value) → List (Addr × Obj) → Prop) (Q : Flow → Shared → Prop) (s : Shared) : Prop :=
  ∀ (i : Nat) v t m₁ nx h tk I oI IT oIT, vs[i]? = some v → (∀ p ∈ (IT, oIT) :: nx, p.1 ≠ I) → (∀ p ∈ nx, p.1 ≠ IT) → J i m₁ nx → Fr h₀ env.locals h (fun z => if z = b then some v else if z = a then some (.int (i : Int) t) else m₁ z) → News h₀ env.locals h ((I, oI) :: (IT, oIT) :: nx) →
      wpAny (model prog w) A (execs body env) (RgPost h₀ env.locals (EnJ (J (i + 1)) IT oIT) I oI { s with heap := h, toks := tk } Q) NoE { s with heap := h, toks := tk }
theorem codeAny_enum {R : Result → Shared → Prop} {I IT lx : Addr} {vs : List Value} {k : Nat} {m₀ : Str → Option Value} {news : List (Addr × Obj)} (J : Nat → (Str → Option Value) → List (Addr × Obj) → Prop)
    (hh : A.handled = none) (hei : I ≠ IT) (hI : h₀.get? I = none) (hIT : h₀.get? IT = none) (hL : env.locals ≠ I) (hL2 : env.locals ≠ IT) (hne : ∀ p ∈ news, p.1 ≠ I ∧ p.1 ≠ IT) (hst : EnSt I IT lx vs 0 s.heap)
    (ha : env.kindOf a = some .local) (hb : env.kindOf b = some .local) (hp : (env.scope.kind == .class || (env.scope.kind == .module && env.locals != env.globals)) = false)
    (F : Fr h₀ env.locals s.heap m₀) (N : News h₀ env.locals s.heap news) (hj : J 0 m₀ news) (hax : ∀ i m nx, J i m nx → (lx, listOf vs.toArray k) ∈ nx)
    (turn : EnTurn prog w A h₀ env a b body vs J (fun f s' => R (.ok f) s') s)
    (done : ∀ m₁ nx h tk, J vs.length m₁ nx → Fr h₀ env.locals h m₁ → News h₀ env.locals h nx → R (.ok .next) { s with heap := h, toks := tk }) :
    codeAny (model prog w) A (.forLoop (.Tuple [.Name a pa, .Name b pb] kk tp) (.ref I) body [] env) R s := by
  have hle : lx ≠ I := (hne _ (hax _ _ _ hj)).1
  have hli : lx ≠ IT := (hne _ (hax _ _ _ hj)).2
  have hlL : lx ≠ env.locals := (N _ (hax _ _ _ hj)).2.1
  refine codeAny_forLoop_any
    (fun k s' => ∃ h' tk m' nx i, s' = { s with heap := h', toks := tk } ∧ EnSt I IT lx vs i h' ∧ Fr h₀ env.locals h' m' ∧ News h₀ env.locals h' nx ∧ (∀ p ∈ nx, p.1 ≠ I ∧ p.1 ≠ IT) ∧ J i m' nx ∧ i ≤ vs.length ∧ k = vs.length + 1 - i) ?_ (vs.length + 1)
    ⟨s.heap, s.toks, m₀, news, 0, rfl, hst, F, N, hne, hj, Nat.zero_le _, rfl⟩
  rintro k' s' ⟨h', tk, m', nx, i, rfl, hst', F', N', hne', hJ, hi, rfl⟩
  have old : ∀ c o, h₀.get? c = some o → c ≠ I ∧ c ≠ IT := fun c o e => ⟨fun q => (by rw [q, hI] at e; cases e), fun q => (by rw [q, hIT] at e; cases e)⟩
  by_cases hlt : i < vs.length
  · refine wpAny_mono (en_item (a := a) (b := b) (pa := pa) (pb := pb) (kk := kk) (tp := tp) (cenv := env) (C := env.locals) (Z := fun s₂ => wpAny (model prog w) A (execs body env) (fun f s₃ => match f with
            | .next | .cont => ∃ m, m < vs.length + 1 - i ∧ ∃ h' tk m' nx i, s₃ = { s with heap := h', toks := tk } ∧ EnSt I IT lx vs i h' ∧ Fr h₀ env.locals h' m' ∧ News h₀ env.locals h' nx ∧ (∀ p ∈ nx, p.1 ≠ I ∧ p.1 ≠ IT) ∧ J i m' nx ∧ i ≤ vs.length ∧ m = vs.length + 1 - i
            | .brk => R (.ok .next) s₃
            | .ret v => R (.ok (.ret v)) s₃) NoE s₂) (E := NoE) hh hei hle hli (List.getElem?_eq_getElem hlt) hst' F'.ns hL hL2 (Ne.symm hlL) ha hb hp fun h₁ tk₁ t hst₁ hn₁ hk₁ => ?_) (fun r s₁ h₁ => ?_) fun _ _ e => e.elim
    · have F₁ : Fr h₀ env.locals h₁ (fun z => if z = b then some vs[i] else if z = a then some (.int (i : Int) t) else m' z) :=
        ⟨hn₁, fun c o e => hk₁ c o (old c o e).1 (old c o e).2 (fun q => by have := F'.above; rw [q] at e; exact absurd (Heap.lt_size e) (Nat.not_lt.mpr this)) (F'.keep c o e), F'.above⟩
      obtain ⟨oI, oIT, eI, eIT, back⟩ := hst₁.objs
      have N₁ : News h₀ env.locals h₁ ((I, oI) :: (IT, oIT) :: nx) := fun p hp => by
        rcases List.mem_cons.mp hp with rfl | hp
        · exact ⟨eI, fun e => hL e.symm, hI⟩
        rcases List.mem_cons.mp hp with rfl | hp
        · exact ⟨eIT, fun e => hL2 e.symm, hIT⟩
        · exact ⟨hk₁ _ _ (hne' p hp).1 (hne' p hp).2 (N' p hp).2.1 (N' p hp).1, (N' p hp).2⟩
      have key : ∀ s₃, RgEnd h₀ env.locals (EnJ (J (i + 1)) IT oIT) I oI { s with heap := h₁, toks := tk₁ } s₃ → ∃ m, m < vs.length + 1 - i ∧ ∃ h' tk m' nx i, s₃ = { s with heap := h', toks := tk } ∧ EnSt I IT lx vs i h' ∧ Fr h₀ env.locals h' m' ∧ News h₀ env.locals h' nx ∧ (∀ p ∈ nx, p.1 ≠ I ∧ p.1 ≠ IT) ∧ J i m' nx ∧ i ≤ vs.length ∧ m = vs.length + 1 - i := by
        rintro s₃ ⟨h₃, tk₃, m₃, nx₃, rfl, F₃, N₃, ha₃, nx₄, rfl, ha₄, hJ₃⟩
        refine ⟨vs.length + 1 - (i + 1), by omega, h₃, tk₃, m₃, nx₄, i + 1, rfl, back h₃ (N₃ _ (.head _)).1 (N₃ _ (.tail _ (.head _))).1 ?_, F₃, fun p hp => N₃ p (.tail _ (.tail _ hp)), fun p hp => ⟨ha₃ p (.tail _ hp), ha₄ p hp⟩, hJ₃, hlt, rfl⟩
        exact News.isList (fun p hp => N₃ p (.tail _ (.tail _ hp))) (hax _ _ _ hJ₃)
      refine wpAny_mono (turn i vs[i] t m' nx h₁ tk₁ I oI IT oIT (List.getElem?_eq_getElem hlt) (List.forall_mem_cons.mpr ⟨Ne.symm hei, fun p hp => (hne' p hp).1⟩) (fun p hp => (hne' p hp).2) hJ F₁ N₁) (fun f s₃ h₃ => ?_) fun _ _ e => e
      cases f with
      | ret v => exact h₃
      | brk => exact h₃
      | cont => exact key _ h₃
      | next => exact key _ h₃
    · obtain ⟨v', rfl, h₁⟩ := h₁
      exact wpAny_mono h₁ (fun _ s₂ h₂ => wpAny_mono h₂ (fun _ s₃ h₃ => wpAny_mono h₃ (fun _ _ e => e) fun _ _ e => e.elim) fun _ _ e => e.elim) fun _ _ e => e.elim
  · have hin : i = vs.length := by omega
    subst hin
    refine wpAny_mono (en_done (E := NoE) (Z := fun s₁ => wpAny (model prog w) A (execs [] env) (fun f s₃ => R (.ok f) s₃) NoE s₁) hh hei hle hli hst' fun h₁ tk₁ hk₁ => wpAny_execs_nil ?_) (fun r s₁ h₁ => ?_) fun _ _ e => e.elim
    · refine done m' nx h₁ tk₁ hJ ⟨F'.ns.at' fun o e => hk₁ _ o hL hL2 e, fun c o e => hk₁ c o (old c o e).1 (old c o e).2 (F'.keep c o e), F'.above⟩ fun p hp => ⟨hk₁ _ _ (hne' p hp).1 (hne' p hp).2 (N' p hp).1, (N' p hp).2⟩
    · obtain ⟨rfl, h₁⟩ := h₁
      exact wpAny_mono h₁ (fun _ _ e => e) fun _ _ e => e.elim
/-- what a call of enumerate gives to a loop -/
def EnSrc (h₀ : Heap) (L : Addr) (Z : Addr → List Value → Nat → (Str → Option Value) → List (Addr × Obj) → Shared → Prop) (xv : Value) (s : Shared) : Prop :=
  ∃ (I IT lx : Addr) (vs : List Value) (k : Nat) (m₀ : Str → Option Value) (news : List (Addr × Obj)), xv = .ref I ∧ I ≠ IT ∧ h₀.get? I = none ∧ h₀.get? IT = none ∧ L ≠ I ∧ L ≠ IT ∧ (∀ p ∈ news, p.1 ≠ I ∧ p.1 ≠ IT) ∧ I < s.heap.objs.size ∧ IT < s.heap.objs.size ∧ EnSt I IT lx vs 0 s.heap ∧ Fr h₀ L s.heap m₀ ∧ News h₀ L s.heap news ∧ (lx, listOf vs.toArray k) ∈ news ∧ Z lx vs k m₀ news s
theorem en_call {L lx : Addr} {vs : List Value} {k : Nat} {m₀ : Str → Option Value} {news : List (Addr × Obj)} {Z : Addr → List Value → Nat → (Str → Option Value) → List (Addr × Obj) → Shared → Prop} {E : Value → Shared → Prop} (F : Fr h₀ L s.heap m₀) (N : News h₀ L s.heap news) (hm : (lx, listOf vs.toArray k) ∈ news)
    (h : ∀ h', Z lx vs k m₀ news { s with heap := h' }) : wpAny (model prog w) A (call (.type "enumerate") [.ref lx]) (EnSrc h₀ L Z) E s := by
  have hl : s.heap.IsList lx vs.toArray := News.isList N hm
  have new : ∀ c, s.heap.objs.size ≤ c → s.heap.get? c = none := fun c hc => by
    cases e : s.heap.get? c with
    | none => rfl
    | some o' => exact absurd (Heap.lt_size e) (Nat.not_lt.mpr hc)
  have new0 : ∀ c, s.heap.objs.size ≤ c → h₀.get? c = none := fun c hc => by
    cases e : h₀.get? c with
    | none => rfl
    | some o' => have := F.keep c o' e; rw [new c hc] at this; cases this
  have hLs : L < s.heap.objs.size := F.ns.lt
  refine call_enumerate_list hl fun h' hE hI hsz hk => ⟨s.heap.objs.size + 1, s.heap.objs.size, lx, vs, k, m₀, news, rfl, Nat.succ_ne_self _, new0 _ (Nat.le_succ _), new0 _ (Nat.le_refl _), Nat.ne_of_lt (Nat.lt_succ_of_lt hLs), Nat.ne_of_lt hLs, fun p hp => ?_, by rw [hsz]; exact Nat.lt_succ_self _, by rw [hsz]; exact Nat.lt_succ_of_lt (Nat.lt_succ_self _), ⟨⟨_, hE⟩, hI, hl.at fun o e => hk _ o e⟩, F.keeps hk, N.grown hk, hm, h h'⟩
  have := Heap.lt_size (N p hp).1
  exact ⟨Nat.ne_of_lt (Nat.lt_succ_of_lt this), Nat.ne_of_lt this⟩
/-- a loop over enumerate of a list -/
theorem for_enum {E : Value → Shared → Prop} {iter : Expr} {pos : Pos} {m : Str → Option Value} (F₀ : Fr h₀ env.locals s.heap m) (hh : A.handled = none)
    (ha : env.kindOf a = some .local) (hb : env.kindOf b = some .local) (hp : (env.scope.kind == .class || (env.scope.kind == .module && env.locals != env.globals)) = false)
    (h : wpAny (model prog w) A (eval iter env) (EnSrc h₀ env.locals fun lx vs k m₀ news s₁ => ∃ J : Nat → (Str → Option Value) → List (Addr × Obj) → Prop, J 0 m₀ news ∧ (∀ i m nx, J i m nx → (lx, listOf vs.toArray k) ∈ nx) ∧
      EnTurn prog w A h₀ env a b body vs J Q s₁ ∧ (∀ m₁ nx h tk, J vs.length m₁ nx → Fr h₀ env.locals h m₁ → News h₀ env.locals h nx → Q .next { s₁ with heap := h, toks := tk })) NoE s)
    (hs : ∀ x, foldedSetIterable iter env x = pure x := by intro _; rfl) :
    wpAny (model prog w) A (exec (.For (.Tuple [.Name a pa, .Name b pb] kk tp) iter body [] pos) env) Q E s := by
  refine wpAny_mono (Q := Q) (E := NoE) (wpAny_For (wpAny_mono h (fun xv s₁ h₁ => ?_) fun _ _ e => e) hs) (fun _ _ e => e) fun _ _ e => e.elim
  obtain ⟨I, IT, lx, vs, k, m₀, news, rfl, hei, hI, hIT, hL, hL2, hne, _, _, hst, F, N, hm, J, hj, hax, turn, done⟩ := h₁
  obtain ⟨⟨old, hE⟩, _⟩ := id hst
  refine wpAny_pyIter_enum hE ?_
  exact codeAny_enum (R := fun r s' => match r with | .ok f => Q f s' | .error e => cameBackBy (model prog w) A env NoE e s') (m₀ := m₀) (news := news) J hh hei hI hIT hL hL2 hne hst ha hb hp F N hj hax turn done
/-- the end of a comprehension's turn -/
def EcStep (h₀ : Heap) (L : Addr) (m : Str → Option Value) (J : List (Addr × Obj) → Prop) (I : Addr) (oI : Obj) (IT : Addr) (oIT : Obj) (C : Addr) (oC : Obj) (D : Addr) (oD : Obj) (s₁ s₂ : Shared) : Prop :=
  ∃ h' tk nx, s₂ = { s₁ with heap := h', toks := tk } ∧ Fr h₀ L h' m ∧ News h₀ L h' ((I, oI) :: (IT, oIT) :: (C, oC) :: (D, oD) :: nx) ∧ (∀ p ∈ nx, p.1 ≠ I ∧ p.1 ≠ IT ∧ p.1 ≠ C ∧ p.1 ≠ D) ∧ J nx
def EcTurn (prog : Program) (w : World) (A : Around) (h₀ : Heap) (L : Addr) (m : Str → Option Value) (env : Env) (c elt : Expr) (a b : Str) (scope : Scope) (cl : List (Str × Addr)) (vs : List Value) (J : Nat → List Value → List (Addr × Obj) → Prop) (s : Shared) : Prop :=
  ∀ (i : Nat) v t ys nx h tk I oI IT oIT C oC D m₂ (E : Value → Shared → Prop), vs[i]? = some v → (∀ p ∈ nx, p.1 ≠ I ∧ p.1 ≠ IT ∧ p.1 ≠ C ∧ p.1 ≠ D) → I ≠ IT ∧ I ≠ C ∧ I ≠ D ∧ IT ≠ C ∧ IT ≠ D ∧ C ≠ D → J i ys nx → LCg.NsObj oC m₂ → m₂ a = some (.int (i : Int) t) → m₂ b = some v → Fr h₀ L h m → News h₀ L h ((I, oI) :: (IT, oIT) :: (C, oC) :: (D, LCg.lst ys) :: nx) →
      wpAny (model prog w) A (isTrue c (compEnvC scope cl C env) (eval c (compEnvC scope cl C env))) (fun okb s₃ => if okb = true then
        wpAny (model prog w) A (eval elt (compEnvC scope cl C env)) (fun y s₄ => EcStep h₀ L m (J (i + 1) (ys ++ [y])) I oI IT oIT C oC D (LCg.lst ys) { s with heap := h, toks := tk } s₄) E s₃
        else EcStep h₀ L m (J (i + 1) ys) I oI IT oIT C oC D (LCg.lst ys) { s with heap := h, toks := tk } s₃) E { s with heap := h, toks := tk }
end
section
variable {prog : Program} {w : World} {A : Around} {s : Shared} {env : Env} {h₀ : Heap} {L : Addr} {E : Value → Shared → Prop} {m : Str → Option Value}
theorem ec_block {elt iter c : Expr} {a b : Str} {pa pb tp : Pos} {kk : Nat} {scope : Scope} {cl : List (Str × Addr)} {pos : Pos} {I IT lx : Addr} {vs : List Value} {k : Nat} {news : List (Addr × Obj)} {J : Nat → List Value → List (Addr × Obj) → Prop} {RR : Value → Addr → Result → Shared → Prop}
    (hh : A.handled = none) (hei : I ≠ IT) (hI : h₀.get? I = none) (hIT : h₀.get? IT = none) (hLI : L ≠ I) (hLT : L ≠ IT) (hne : ∀ p ∈ news, p.1 ≠ I ∧ p.1 ≠ IT) (hIl : I < s.heap.objs.size) (hTl : IT < s.heap.objs.size) (hst : EnSt I IT lx vs 0 s.heap)
    (hcell : ∀ y ∈ scope.names, y.2 ≠ .cell) (hkind : scope.kind = .function) (hxa : scope.names.lookup a = some .local) (hxb : scope.names.lookup b = some .local) (hab : ¬ a = b)
    (F : Fr h₀ L s.heap m) (N : News h₀ L s.heap news) (hj : J 0 [] news) (hax : ∀ i ys nx, J i ys nx → (lx, listOf vs.toArray k) ∈ nx) (hsz : vs.length ≤ sizeLine)
    (turn : EcTurn prog w A h₀ L m env c elt a b scope cl vs J s)
    (hRR : ∀ D C h tk m' ys nx, Fr h₀ L h m → News h₀ L h ((D, LCg.lst ys) :: nx) → (∀ p ∈ nx, p.1 ≠ D) → h.Ns C m' → h₀.get? C = none → h₀.get? D = none → C ≠ L → D ≠ L → C ≠ D → (∀ p ∈ nx, p.1 ≠ C) → J vs.length ys nx → RR (.ref D) C (.ok .next) { s with heap := h, toks := tk }) :
    wpAny (model prog w) A (newList []) (fun acc s₃ => wpAny (model prog w) A (newFunctionEnv scope env.globals cl [] env.qual none .none (some env)) (fun cenv s₄ =>
      codeAny (model prog w) A (.compStart (.ListComp elt [⟨.Tuple [.Name a pa, .Name b pb] kk tp, iter, [c], 0⟩] scope pos) 0 (.ref I) acc { cenv with scope := relabel scope env }) (RR acc cenv.locals) s₄) E s₃) E s := by
  refine wpAny_newObj_type (wpAny_newFunctionEnv hcell (by intro y hy; simp at hy) (fun h₁ hns₁ hsb₁ => ?_) hkind)
  dsimp only at hns₁ hsb₁ ⊢
  generalize hD : s.heap.objs.size = D at hns₁ hsb₁ ⊢
  generalize hH2 : s.heap.push { cls := .type "list", dict := none, data := .seq ([] : List Value).toArray } = H2 at hns₁ hsb₁ ⊢
  generalize hC : H2.objs.size = C at hns₁ hsb₁ ⊢
  have hCD : C = D + 1 := by rw [← hC, ← hH2, Heap.size_push, hD]
  have hlt : ∀ x : Addr, x < s.heap.objs.size → x ≠ C ∧ x ≠ D := fun x hx => by
    rw [hD] at hx
    refine ⟨?_, Nat.ne_of_lt hx⟩
    rw [hCD]
    exact Nat.ne_of_lt (Nat.lt_succ_of_lt hx)
  have hne2 : C ≠ D := by rw [hCD]; exact Nat.succ_ne_self _
  have old : ∀ b o, s.heap.get? b = some o → h₁.get? b = some o := fun b o e => hsb₁.extBut b o (hlt b (Heap.lt_size e)).1 (Heap.get?_push_of_some _ (hH2 ▸ Heap.get?_push_of_some _ e))
  have hacc : h₁.get? D = some (LCg.lst []) := by
    refine hsb₁.extBut _ _ (Ne.symm hne2) ?_
    rw [← hH2, ← hD]
    exact Heap.get?_push_of_some _ (Heap.get?_push_size _ rfl)
  have fresh : ∀ x, s.heap.objs.size ≤ x → h₀.get? x = none := fun x hx => by
    cases e : h₀.get? x with
    | none => rfl
    | some o' => have := Heap.lt_size (F.keep x o' e); exact absurd this (Nat.not_lt.mpr hx)
  have hD0 : h₀.get? D = none := fresh _ (Nat.le_of_eq hD)
  have hC0 : h₀.get? C = none := fresh _ (by rw [hCD, hD]; exact Nat.le_succ _)
  have hLs : L < s.heap.objs.size := F.ns.lt
  have hLC : L ≠ C := (hlt L hLs).1
  have hLD : L ≠ D := (hlt L hLs).2
  have hIC : I ≠ C := (hlt I hIl).1
  have hID : I ≠ D := (hlt I hIl).2
  have hTC : IT ≠ C := (hlt IT hTl).1
  have hTD : IT ≠ D := (hlt IT hTl).2
  have hlx : lx ≠ I ∧ lx ≠ IT := hne _ (hax _ _ _ hj)
  have hlxC : lx ≠ C := (hlt lx (Heap.lt_size (N _ (hax _ _ _ hj)).1)).1
  have st1 : EnSt I IT lx vs 0 h₁ := by
    obtain ⟨⟨o, e⟩, q2, q3⟩ := hst
    exact ⟨⟨o, old _ _ e⟩, q2.at fun o e => old _ o e, q3.at fun o e => old _ o e⟩
  have loop : ∀ s₃ : Shared, s₃ = { s with heap := h₁, toks := s.toks + ([] : List (Str × Value)).length } →
      codeAny (model prog w) A (.compLoop (.ListComp elt [⟨.Tuple [.Name a pa, .Name b pb] kk tp, iter, [c], 0⟩] scope pos) 0 (.ref I) (.ref D) (compEnvC scope cl C env)) (RR (.ref D) C) s₃ := by
    rintro s₃ rfl
    refine kct_loop
      (fun q s' => ∃ h' tk i ys m' nx, s' = { s with heap := h', toks := tk } ∧ i ≤ vs.length ∧ q = vs.length + 1 - i ∧ ys.length ≤ i ∧ EnSt I IT lx vs i h' ∧ Fr h₀ L h' m ∧ h'.Ns C m' ∧ News h₀ L h' ((D, LCg.lst ys) :: nx) ∧ (∀ p ∈ nx, p.1 ≠ I ∧ p.1 ≠ IT ∧ p.1 ≠ C ∧ p.1 ≠ D) ∧ J i ys nx) ?_ (vs.length + 1)
      ⟨h₁, _, 0, [], _, news, rfl, Nat.zero_le _, rfl, Nat.le_refl _, st1, F.keeps old, hns₁, fun p hp => ?_, fun p hp => ⟨(hne p hp).1, (hne p hp).2, (hlt _ (Heap.lt_size (N p hp).1)).1, (hlt _ (Heap.lt_size (N p hp).1)).2⟩, hj⟩
    · rintro q s' ⟨h', tk, i, ys, m', nx, rfl, hi, rfl, hyl, hst', F', hn', N', off', hJ⟩
      have keep0 : ∀ x o, h₀.get? x = some o → x ≠ I ∧ x ≠ IT ∧ x ≠ C := fun x o e => ⟨fun q => (by rw [q, hI] at e; cases e), fun q => (by rw [q, hIT] at e; cases e), fun q => (by rw [q, hC0] at e; cases e)⟩
      generalize (notedBy (model prog w) A (compEnvC scope cl C env) fun e s' => RR (.ref D) C (.error e) s') = EE
      by_cases hlt' : i < vs.length
      · refine wpAny_mono (en_item (a := a) (b := b) (pa := pa) (pb := pb) (kk := kk) (tp := tp) (cenv := compEnvC scope cl C env) (C := C) hh hei hlx.1 hlx.2 (List.getElem?_eq_getElem hlt') hst' hn' (Ne.symm hIC) (Ne.symm hTC) (Ne.symm hlxC) (lookup_relabel_local hxa) (lookup_relabel_local hxb) (by simp [compEnvC, relabel, hkind])
          (Z := fun s₂ => wpAny (model prog w) A (isTrue c (compEnvC scope cl C env) (eval c (compEnvC scope cl C env))) (fun ok s₃ => if ok = true then wpAny (model prog w) A (eval elt (compEnvC scope cl C env)) (fun x s₄ =>
            wpAny (model prog w) A (call (.builtin "list.append") [.ref D, x]) (fun _ s₅ => ∃ q', q' < vs.length + 1 - i ∧ ∃ h' tk i ys m' nx, s₅ = { s with heap := h', toks := tk } ∧ i ≤ vs.length ∧ q' = vs.length + 1 - i ∧ ys.length ≤ i ∧ EnSt I IT lx vs i h' ∧ Fr h₀ L h' m ∧ h'.Ns C m' ∧ News h₀ L h' ((D, LCg.lst ys) :: nx) ∧ (∀ p ∈ nx, p.1 ≠ I ∧ p.1 ≠ IT ∧ p.1 ≠ C ∧ p.1 ≠ D) ∧ J i ys nx) EE s₄) EE s₃
            else ∃ q', q' < vs.length + 1 - i ∧ ∃ h' tk i ys m' nx, s₃ = { s with heap := h', toks := tk } ∧ i ≤ vs.length ∧ q' = vs.length + 1 - i ∧ ys.length ≤ i ∧ EnSt I IT lx vs i h' ∧ Fr h₀ L h' m ∧ h'.Ns C m' ∧ News h₀ L h' ((D, LCg.lst ys) :: nx) ∧ (∀ p ∈ nx, p.1 ≠ I ∧ p.1 ≠ IT ∧ p.1 ≠ C ∧ p.1 ≠ D) ∧ J i ys nx) EE s₂)
          fun h₂ tk₂ t hst₂ hn₂ hk₂ => ?_) (fun r s₁ h₁' => ?_) fun _ _ e => e
        · obtain ⟨oI, oIT, eI, eIT, back⟩ := hst₂.objs
          obtain ⟨oC, heC, hoC⟩ := LCg.ns_obj hn₂
          have F₂ : Fr h₀ L h₂ m := ⟨F'.ns.at' fun o e => hk₂ _ o hLI hLT hLC e, fun x o e => hk₂ x o (keep0 x o e).1 (keep0 x o e).2.1 (keep0 x o e).2.2 (F'.keep x o e), F'.above⟩
          have N₂ : News h₀ L h₂ ((I, oI) :: (IT, oIT) :: (C, oC) :: (D, LCg.lst ys) :: nx) := fun p hp => by
            rcases List.mem_cons.mp hp with rfl | hp
            · exact ⟨eI, Ne.symm hLI, hI⟩
            rcases List.mem_cons.mp hp with rfl | hp
            · exact ⟨eIT, Ne.symm hLT, hIT⟩
            rcases List.mem_cons.mp hp with rfl | hp
            · exact ⟨heC, Ne.symm hLC, hC0⟩
            rcases List.mem_cons.mp hp with rfl | hp
            · exact ⟨hk₂ _ _ (Ne.symm hID) (Ne.symm hTD) (Ne.symm hne2) (N' _ (.head _)).1, Ne.symm hLD, hD0⟩
            · have z := N' p (.tail _ hp)
              exact ⟨hk₂ _ _ (off' p hp).1 (off' p hp).2.1 (off' p hp).2.2.1 z.1, z.2⟩
          have fin : ∀ (ys' : List Value) (h₅ : Heap) (tk₅ : Nat) (nx₅ : List (Addr × Obj)), ys'.length ≤ i + 1 → Fr h₀ L h₅ m → News h₀ L h₅ ((I, oI) :: (IT, oIT) :: (C, oC) :: (D, LCg.lst ys') :: nx₅) → (∀ p ∈ nx₅, p.1 ≠ I ∧ p.1 ≠ IT ∧ p.1 ≠ C ∧ p.1 ≠ D) → J (i + 1) ys' nx₅ →
              ∃ q', q' < vs.length + 1 - i ∧ ∃ h' tk i ys m' nx, ({ s with heap := h₅, toks := tk₅ } : Shared) = { s with heap := h', toks := tk } ∧ i ≤ vs.length ∧ q' = vs.length + 1 - i ∧ ys.length ≤ i ∧ EnSt I IT lx vs i h' ∧ Fr h₀ L h' m ∧ h'.Ns C m' ∧ News h₀ L h' ((D, LCg.lst ys) :: nx) ∧ (∀ p ∈ nx, p.1 ≠ I ∧ p.1 ≠ IT ∧ p.1 ≠ C ∧ p.1 ≠ D) ∧ J i ys nx := by
            intro ys' h₅ tk₅ nx₅ hl F₅ N₅ off₅ hJ₅
            refine ⟨vs.length + 1 - (i + 1), by omega, h₅, tk₅, i + 1, ys', _, nx₅, rfl, hlt', rfl, hl, back h₅ (N₅ _ (.head _)).1 (N₅ _ (.tail _ (.head _))).1 ?_, F₅, hoC.ns (N₅ _ (.tail _ (.tail _ (.head _)))).1, fun p hp => N₅ p (.tail _ (.tail _ (.tail _ hp))), off₅, hJ₅⟩
            exact News.isList (fun p hp => N₅ p (.tail _ (.tail _ (.tail _ (.tail _ hp))))) (hax _ _ _ hJ₅)
          refine wpAny_mono (turn i vs[i] t ys nx h₂ tk₂ I oI IT oIT C oC D _ _ (List.getElem?_eq_getElem hlt') off' ⟨hei, hIC, hID, hTC, hTD, hne2⟩ hJ hoC (by simp [hab]) (by simp) F₂ N₂) (fun ok s₃ h₃ => ?_) fun _ _ e => e
          cases ok with
          | false =>
            simp only [Bool.false_eq_true, if_false] at h₃ ⊢
            obtain ⟨h₅, tk₅, nx₅, rfl, F₅, N₅, off₅, hJ₅⟩ := h₃
            exact fin ys h₅ tk₅ nx₅ (Nat.le_succ_of_le hyl) F₅ N₅ off₅ hJ₅
          | true =>
            simp only [if_true] at h₃ ⊢
            refine wpAny_mono h₃ (fun y s₄ h₄ => ?_) fun _ _ e => e
            obtain ⟨h₅, tk₅, nx₅, rfl, F₅, N₅, off₅, hJ₅⟩ := h₄
            refine append_at (hsz := by show ys.toArray.size ≤ sizeLine; rw [List.size_toArray]; exact Nat.le_trans hyl (Nat.le_trans hi hsz)) (N₅ (D, LCg.lst ys) (.tail _ (.tail _ (.tail _ (.head _))))).1 fun h₆ hs₆ hD₆ => ?_
            refine fin (ys ++ [y]) h₆ _ nx₅ (by rw [List.length_append, List.length_singleton]; exact Nat.succ_le_succ hyl) (F₅.change hs₆ (Ne.symm hLD) hD0) (fun p hp => ?_) off₅ hJ₅
            rcases List.mem_cons.mp hp with rfl | hp
            · exact ⟨hs₆.extBut _ _ hID (N₅ _ (.head _)).1, Ne.symm hLI, hI⟩
            rcases List.mem_cons.mp hp with rfl | hp
            · exact ⟨hs₆.extBut _ _ hTD (N₅ _ (.tail _ (.head _))).1, Ne.symm hLT, hIT⟩
            rcases List.mem_cons.mp hp with rfl | hp
            · exact ⟨hs₆.extBut _ _ hne2 (N₅ _ (.tail _ (.tail _ (.head _)))).1, Ne.symm hLC, hC0⟩
            rcases List.mem_cons.mp hp with rfl | hp
            · exact ⟨hD₆.trans (congrArg some (LCg.lst_snoc ys y)), Ne.symm hLD, hD0⟩
            · have z := N₅ p (.tail _ (.tail _ (.tail _ (.tail _ hp))))
              exact ⟨hs₆.extBut _ _ (off₅ p hp).2.2.2 z.1, z.2⟩
        · obtain ⟨v', rfl, h₁'⟩ := h₁'
          exact h₁'
      · have hin : i = vs.length := by omega
        subst hin
        refine wpAny_mono (en_done (Z := fun s₁ => RR (.ref D) C (.ok .next) s₁) hh hei hlx.1 hlx.2 hst' fun h₂ tk₂ hk₂ => ?_) (fun r s₁ h₁' => ?_) fun _ _ e => e
        · refine hRR D C h₂ tk₂ m' ys nx ⟨F'.ns.at' fun o e => hk₂ _ o hLI hLT e, fun x o e => hk₂ x o (keep0 x o e).1 (keep0 x o e).2.1 (F'.keep x o e), F'.above⟩ (fun p hp => ?_) (fun p hp => (off' p hp).2.2.2) (hn'.at' fun o e => hk₂ _ o (Ne.symm hIC) (Ne.symm hTC) e) hC0 hD0 (Ne.symm hLC) (Ne.symm hLD) hne2 (fun p hp => (off' p hp).2.2.1) hJ
          have z := N' p hp
          rcases List.mem_cons.mp hp with rfl | hp
          · exact ⟨hk₂ _ _ (Ne.symm hID) (Ne.symm hTD) z.1, z.2⟩
          · exact ⟨hk₂ _ _ (off' p hp).1 (off' p hp).2.1 z.1, z.2⟩
        · obtain ⟨rfl, h₁'⟩ := h₁'
          exact h₁'
    · rcases List.mem_cons.mp hp with rfl | hp
      · exact ⟨hacc, Ne.symm hLD, hD0⟩
      · exact ⟨old _ _ (N p hp).1, (N p hp).2⟩
  obtain ⟨⟨oE, hE⟩, _⟩ := st1
  exact codeAny_compStart_list (loop _ rfl) (wpAny_pyIter_enum hE (loop _ rfl))
theorem ecomp_a {elt iter c : Expr} {a b y : Str} {pa pb py tp : Pos} {kk : Nat} {scope : Scope} {cl : List (Str × Addr)} {pos spos : Pos} {Q : Flow → Shared → Prop} {m₀ : Str → Option Value} (F₀ : Fr h₀ L s.heap m₀) (hL : env.locals = L) (hh : A.handled = none)
    (hsw : swapsWith (.ListComp elt [⟨.Tuple [.Name a pa, .Name b pb] kk tp, iter, [c], 0⟩] scope pos) (some (.Name y py)) spos.line env = pure true)
    (hclos : closureFor scope env = pure cl) (hcell : ∀ z ∈ scope.names, z.2 ≠ .cell) (hkind : scope.kind = .function) (hnames : ∀ z ∈ scope.names, z.2 = .local → scope.names.lookup z.1 = some .local)
    (hxa : scope.names.lookup a = some .local) (hxb : scope.names.lookup b = some .local) (hab : ¬ a = b) (hy : env.kindOf y = some .local) (hp : (env.scope.kind == .class || (env.scope.kind == .module && env.locals != env.globals)) = false)
    (h : wpAny (model prog w) A (eval iter env) (EnSrc h₀ L fun lx vs k m news s₁ => ∃ J : Nat → List Value → List (Addr × Obj) → Prop, vs.length ≤ sizeLine ∧ J 0 [] news ∧ (∀ i ys nx, J i ys nx → (lx, listOf vs.toArray k) ∈ nx) ∧ EcTurn prog w A h₀ L m env c elt a b scope cl vs J s₁ ∧
      (∀ D ys nx h tk, J vs.length ys nx → Fr h₀ L h (fun z => if z = y then some (.ref D) else m z) → News h₀ L h ((D, LCg.lst ys) :: nx) → (∀ p ∈ nx, p.1 ≠ D) → Q .next { s₁ with heap := h, toks := tk })) E s)
    (hs : ∀ x, foldedSetIterable iter env x = pure x := by intro _; rfl) :
    wpAny (model prog w) A (exec (.Assign [.Name y py] (.ListComp elt [⟨.Tuple [.Name a pa, .Name b pb] kk tp, iter, [c], 0⟩] scope pos) spos) env) Q E s := by
  subst hL
  rw [exec_Assign_Name_used _ _ _ _ hsw]
  refine wpAny_bind (wpAny_standAt (wpAny_bind ?_))
  show wpAny _ A (do let _ ← comprehension (.ListComp elt [⟨.Tuple [.Name a pa, .Name b pb] kk tp, iter, [c], 0⟩] scope pos) scope env _ (newList []) false (eval iter env) (some (assign (.Name y py) env))) _ _ s
  refine wpAny_bind (wpAny_mono (wpAny_comprehension_free (use := some (assign (.Name y py) env)) (Q := fun _ s' => Q .next s') rfl hs hclos hkind hnames
    (wpAny_mono h (fun xv s₁ h₁ => ?_) fun _ _ e => e)) (fun _ s' hq => wpAny_pure (wpAny_pure hq)) fun _ _ e => e)
  obtain ⟨I, IT, lx, vs, k, m, news, rfl, hei, hI, hIT, hLI, hLT, hne, hIl, hTl, hst, F, N, hm, J, hsz, hj, hax, turn, done⟩ := h₁
  obtain ⟨⟨oE, hE⟩, _⟩ := id hst
  refine wpAny_pyIter_enum hE ?_
  refine ec_block hh hei hI hIT hLI hLT hne hIl hTl hst hcell hkind hxa hxb hab F N hj hax hsz turn ?_
  intro D C h' tk m' ys nx F' N' o1 hn hC₀ hD₀ hCL hDL hCD offC hJ
  show wpAny _ A (assign (.Name y py) env (.ref D)) _ _ _
  refine wpAny_assign_Name (wpAny_storeName_local hy F'.ns (fun h₂ hn₂ hs₂ => ?_) hp)
  have hL₀ : h₀.get? env.locals = none := Heap.get?_none_of_le F'.above
  have F₂ : Fr h₀ env.locals h₂ (fun z => if z = y then some (.ref D) else m z) := ⟨hn₂, fun b o e => hs₂.extBut b o (fun q => by rw [q, hL₀] at e; cases e) (F'.keep b o e), F'.above⟩
  refine ⟨m', hn.sameBut hs₂ hCL, fun h'' hs'' => done D ys nx h'' _ hJ (F₂.change hs'' hCL hC₀) (fun p hp => ?_) o1⟩
  have z : h₂.get? p.1 = some p.2 := hs₂.extBut _ _ (N' p hp).2.1 (N' p hp).1
  refine ⟨hs''.extBut _ _ ?_ z, (N' p hp).2⟩
  rcases List.mem_cons.mp hp with rfl | hp
  · exact Ne.symm hCD
  · exact offC p hp
end
/-- a row of what is due: time, place, name, kind -/
def ERow (led : List (Addr × Obj)) (v : Value) (e : Int × Int × Str × Str) : Prop :=
  ∃ T t1 t2 t3 t4 q, v = .ref T ∧ (T, ({ cls := .type "tuple", data := .seq #[.int e.1 t1, .int e.2.1 t2, .str e.2.2.1 t3, .str e.2.2.2 t4] q } : Obj)) ∈ led
theorem ERow.mono {led led' : List (Addr × Obj)} {v : Value} {e : Int × Int × Str × Str} (h : ERow led v e) (k : ∀ p ∈ led, p ∈ led') : ERow led' v e := by
  obtain ⟨T, t1, t2, t3, t4, q, h1, h2⟩ := h
  exact ⟨T, t1, t2, t3, t4, q, h1, k _ h2⟩
abbrev ERows (led : List (Addr × Obj)) (vs : List Value) (es : List (Int × Int × Str × Str)) : Prop := Paired (ERow led) vs es
theorem ERows.mono {led led' : List (Addr × Obj)} (k : ∀ p ∈ led, p ∈ led') : ∀ {vs : List Value} {es : List (Int × Int × Str × Str)}, ERows led vs es → ERows led' vs es
  | _, _, .nil => .nil
  | _, _, .cons h r => .cons (h.mono k) (ERows.mono k r)
noncomputable def cl28 : Expr := match stAt (fnBody 28) 1 with
  | .Assign _ e _ => e
  | _ => .Constant .none 0 q0
noncomputable def el28 : Expr := match cl28 with
  | .ListComp e _ _ _ => e
  | _ => .Constant .none 0 q0
noncomputable def if28 : Expr := match cl28 with
  | .ListComp _ (⟨_, _, c :: _, _⟩ :: _) _ _ => c
  | _ => .Constant .none 0 q0
noncomputable def sc28 : Scope := match cl28 with
  | .ListComp _ _ sc _ => sc
  | _ => pg.main.scope
local macro_rules | `(tactic| walk_at "z20") => `(tactic| (k_here; (with_reducible show wpAny _ _ (subscriptTail _ _ (Value.ref _) (Value.str _ _)) _ _ _); k_dflt (refine' kda_item (knd := PySem.strKind _ _) ?N ?m ?d (strKind_is _ _ _ _) ?l ?_; (case N => k_asm); (case m => k_mem); (case d => k_asm); (case l => first | with_reducible assumption | exact rfl))))
section
local macro_rules | `(tactic| walk_at "subscriptTail") => `(tactic| walk_at "z20")
local macro_rules | `(tactic| walk_at "eval Name") => `(tactic| walk_at "z10")
local macro_rules | `(tactic| walk_at "compareOp IsNot") => `(tactic| (k_here; refine isnot_ov (by with_reducible assumption) ?_))
set_option maxHeartbeats 8000000 in
theorem d_init : ∀ {w : World} {mean : ExcName → Option Value} {mg mb : Str → Option Value} {dp un : Nat} {gd : Option (List Code)} {outer : List Env} {A₀ : Around} {base h₀ : Heap} {L : Addr} {m : Str → Option Value} {s : Shared} {tl : List Stmt} {Q : Flow → Shared → Prop} {E : Value → Shared → Prop} {rest : List (Addr × Obj)} {fd sp as lo : Addr} {ofd oc oc2 : Obj} {n : Int} {tc : Tok} {c sh ky bl : Bool}
    (B : Below A₀ base outer h₀) (F : Fr h₀ L s.heap m) (X : (heapK w.params).In h₀) (N : News h₀ L s.heap ((L + 1, oc) :: (L + 2, oc2) :: (fd, ofd) :: rest)) (T : Top vw (looseW vw []) mean mg mb h₀) (hdp : dp < 360) (hu : un < 360)
    (hc : oc.data = .cell (some (.ref fd))) (hf : ofd.IsDictOf (Dz w) [(Str.ofString "confirmed", .bool c), (Str.ofString "shown", .bool sh), (Str.ofString "keys", .bool ky), (Str.ofString "blocked", .bool bl), (Str.ofString "spaces", .ref sp), (Str.ofString "asked", .ref as), (Str.ofString "losses", .ref lo), (Str.ofString "count", .int n tc)]) (hc2 : oc2.data = .cell none) (hz : (@Ne Nat (L + 1) (L + 2))) (hfd : (@Ne Nat fd (L + 2))) (hoff : ∀ p ∈ rest, p.1 ≠ L + 2)
    (hret : ∀ oc2' h' tk', Fr h₀ L h' m → News h₀ L h' ((L + 1, oc) :: (L + 2, oc2') :: (fd, ofd) :: rest) → oc2'.data = .cell (some (.ref lo)) → wpAny (model PySem.Challenge.rw_no0077_01.row.prog w) (ktrTop dp un gd (Str.ofString "_law_due") (fnScope 28) L 274 (.ref 273) (cellsFrom (L + 1) (fnScope 28).names []) outer) (execs tl (envOfC (Str.ofString "_law_due") (fnScope 28) L 274 (.ref 273))) Q E { s with heap := h', toks := tk' }),
    wpAny (model PySem.Challenge.rw_no0077_01.row.prog w) (ktrTop dp un gd (Str.ofString "_law_due") (fnScope 28) L 274 (.ref 273) (cellsFrom (L + 1) (fnScope 28).names []) outer) (execs ((stAt (fnBody 28) 0) :: tl) (envOfC (Str.ofString "_law_due") (fnScope 28) L 274 (.ref 273))) Q E s := by
  k_fill
  intro w mean mg mb dp un gd outer A₀ base h₀ L m s tl Q E rest fd sp as lo ofd oc oc2 n tc c sh ky bl B F X N T hdp hu hc hf hc2 hz hfd hoff hret
  walk_at "zwa"
  k_steps
  try dsimp only
  (rename Fr _ _ _ _ => kF); (rename News _ _ _ _ => kN)
  exact hret _ _ _ kF kN (by assumption)
set_option maxHeartbeats 8000000 in
theorem d_tst : ∀ {w : World} {mean : ExcName → Option Value} {mg mb : Str → Option Value} {dp un : Nat} {gd : Option (List Code)} {outer : List Env} {A₀ : Around} {base h₀ : Heap} {L : Addr} {m : Str → Option Value} {s : Shared} {Q : Bool → Shared → Prop} {E : Value → Shared → Prop} {rest : List (Addr × Obj)} {lo C : Addr} {ol oc2 oC : Obj} {w1 w2 w3 x : Value} {a : Option Int} {m₂ : Str → Option Value} {nm : Str} {tn : Tok}
    (B : Below A₀ base outer h₀) (F : Fr h₀ L s.heap m) (X : (heapK w.params).In h₀) (N : News h₀ L s.heap ((C, oC) :: (L + 2, oc2) :: (lo, ol) :: rest)) (T : Top vw (looseW vw []) mean mg mb h₀) (hdp : dp < 360) (hu : un < 360)
    (hC : LCg.NsObj oC m₂) (hb : m₂ (Str.ofString "name") = some (.str nm tn)) (hc2 : oc2.data = .cell (some (.ref lo))) (hd : ol.IsDictOf (Dz w) (tri w1 w2 w3)) (hx : valueAt (tri w1 w2 w3) nm = some x) (hov : OV x a)
    (hret : ∀ h' tk', Fr h₀ L h' m → News h₀ L h' ((C, oC) :: (L + 2, oc2) :: (lo, ol) :: rest) → Q a.isSome { s with heap := h', toks := tk' }),
    wpAny (model PySem.Challenge.rw_no0077_01.row.prog w) (ktrTop dp un gd (Str.ofString "_law_due") (fnScope 28) L 274 (.ref 273) (cellsFrom (L + 1) (fnScope 28).names []) outer) (isTrue if28 (compEnvC sc28 [(Str.ofString "losses", L + 2)] C (envOfC (Str.ofString "_law_due") (fnScope 28) L 274 (.ref 273))) (eval if28 (compEnvC sc28 [(Str.ofString "losses", L + 2)] C (envOfC (Str.ofString "_law_due") (fnScope 28) L 274 (.ref 273))))) Q E s := by
  k_fill
  intro w mean mg mb dp un gd outer A₀ base h₀ L m s Q E rest lo C ol oc2 oC w1 w2 w3 x a m₂ nm tn B F X N T hdp hu hC hb hc2 hd hx hov hret
  conv in if28 => whnf
  conv in sc28 => whnf
  k_steps
  exact hret _ _ F N
set_option maxHeartbeats 8000000 in
theorem d_elt : ∀ {w : World} {mean : ExcName → Option Value} {mg mb : Str → Option Value} {dp un : Nat} {gd : Option (List Code)} {outer : List Env} {A₀ : Around} {base h₀ : Heap} {L : Addr} {m : Str → Option Value} {s : Shared} {Q : Value → Shared → Prop} {E : Value → Shared → Prop} {rest : List (Addr × Obj)} {lo C : Addr} {ol oc2 oC : Obj} {w1 w2 w3 : Value} {tt at_ : Int} {m₂ : Str → Option Value} {nm : Str} {tn tx ta : Tok}
    (B : Below A₀ base outer h₀) (F : Fr h₀ L s.heap m) (X : (heapK w.params).In h₀) (N : News h₀ L s.heap ((C, oC) :: (L + 2, oc2) :: (lo, ol) :: rest)) (T : Top vw (looseW vw []) mean mg mb h₀) (hdp : dp < 360) (hu : un < 360)
    (hC : LCg.NsObj oC m₂) (ha : m₂ (Str.ofString "at") = some (.int at_ ta)) (hb : m₂ (Str.ofString "name") = some (.str nm tn)) (hc2 : oc2.data = .cell (some (.ref lo))) (hd : ol.IsDictOf (Dz w) (tri w1 w2 w3)) (hx : valueAt (tri w1 w2 w3) nm = some (.int tt tx))
    (hret : ∀ T t4 q h' tk', Fr h₀ L h' m → News h₀ L h' ((T, ({ cls := .type "tuple", data := .seq #[.int tt tx, .int at_ ta, .str nm tn, .str (Str.ofString "loss") t4] q } : Obj)) :: (C, oC) :: (L + 2, oc2) :: (lo, ol) :: rest) → AllLt T ((C, oC) :: (L + 2, oc2) :: (lo, ol) :: rest) → Q (.ref T) { s with heap := h', toks := tk' }),
    wpAny (model PySem.Challenge.rw_no0077_01.row.prog w) (ktrTop dp un gd (Str.ofString "_law_due") (fnScope 28) L 274 (.ref 273) (cellsFrom (L + 1) (fnScope 28).names []) outer) (eval el28 (compEnvC sc28 [(Str.ofString "losses", L + 2)] C (envOfC (Str.ofString "_law_due") (fnScope 28) L 274 (.ref 273)))) Q E s := by
  k_fill
  intro w mean mg mb dp un gd outer A₀ base h₀ L m s Q E rest lo C ol oc2 oC w1 w2 w3 tt at_ m₂ nm tn tx ta B F X N T hdp hu hC ha hb hc2 hd hx hret
  conv in el28 => whnf
  conv in sc28 => whnf
  k_steps
  try dsimp only
  (rename Fr _ _ _ _ => kF); (rename News _ _ _ _ => kN)
  exact hret _ _ _ _ _ kF kN ⟨by assumption, by assumption, by assumption, by assumption⟩
end
def rowOf (at_ : Int) (nm kd : Str) (o : Option Int) : List (Int × Int × Str × Str) := match o with
  | some t => [(t, at_, nm, kd)]
  | none => []
def lossUpto (l1 l2 l3 : Option Int) : Nat → List (Int × Int × Str × Str)
  | 0 => []
  | 1 => rowOf 0 (Str.ofString "initial") (Str.ofString "loss") l1
  | 2 => rowOf 0 (Str.ofString "initial") (Str.ofString "loss") l1 ++ rowOf 1 (Str.ofString "handshake") (Str.ofString "loss") l2
  | _ => (rowOf 0 (Str.ofString "initial") (Str.ofString "loss") l1 ++ rowOf 1 (Str.ofString "handshake") (Str.ofString "loss") l2) ++ rowOf 2 (Str.ofString "application") (Str.ofString "loss") l3
theorem name_at {t1 t2 t3 : Tok} {w1 w2 w3 : Value} {l1 l2 l3 : Option Int} {i : Nat} {v : Value} (hv : (nmL t1 t2 t3)[i]? = some v) (e1 : OV w1 l1) (e2 : OV w2 l2) (e3 : OV w3 l3) :
    ∃ nm t x a, v = .str nm t ∧ valueAt (tri w1 w2 w3) nm = some x ∧ OV x a ∧ lossUpto l1 l2 l3 (i + 1) = lossUpto l1 l2 l3 i ++ rowOf i nm (Str.ofString "loss") a := by
  match i, hv with
  | 0, h => simp at h; subst h; exact ⟨_, _, w1, l1, rfl, rfl, e1, (List.nil_append _).symm⟩
  | 1, h => simp at h; subst h; exact ⟨_, _, w2, l2, rfl, rfl, e2, rfl⟩
  | 2, h => simp at h; subst h; exact ⟨_, _, w3, l3, rfl, rfl, e3, rfl⟩
  | i + 3, h => simp at h
def JL (led : List (Addr × Obj)) (l1 l2 l3 : Option Int) (i : Nat) (ys : List Value) (nx : List (Addr × Obj)) : Prop := (∀ p ∈ led, p ∈ nx) ∧ ERows nx ys (lossUpto l1 l2 l3 i)
section
local macro_rules | `(tactic| walk_at "call ref") => `(tactic| (k_here; refine held ?_))
local macro_rules | `(tactic| walk_at "exec Assign cons ListComp") => `(tactic| (k_here; refine held ?_))
set_option maxHeartbeats 8000000 in
theorem d_comp : ∀ {w : World} {mean : ExcName → Option Value} {mg mb : Str → Option Value} {dp un : Nat} {gd : Option (List Code)} {outer : List Env} {A₀ : Around} {base h₀ : Heap} {L : Addr} {m : Str → Option Value} {s : Shared} {tl : List Stmt} {Q : Flow → Shared → Prop} {E : Value → Shared → Prop} {led : List (Addr × Obj)} {lo : Addr} {ol oc2 : Obj} {w1 w2 w3 : Value} {l1 l2 l3 : Option Int}
    (B : Below A₀ base outer h₀) (F : Fr h₀ L s.heap m) (X : (heapK w.params).In h₀) (N : News h₀ L s.heap (led)) (T : Top vw (looseW vw []) mean mg mb h₀) (hdp : dp < 360) (hu : un < 360)
    (m2 : (L + 2, oc2) ∈ led) (ml : (lo, ol) ∈ led) (hc2 : oc2.data = .cell (some (.ref lo))) (hd : ol.IsDictOf (Dz w) (tri w1 w2 w3)) (e1 : OV w1 l1) (e2 : OV w2 l2) (e3 : OV w3 l3)
    (hret : ∀ D ys nx h' tk' m', Fr h₀ L h' m' → m' (Str.ofString "some") = some (.ref D) → Off [Str.ofString "some"] m m' → News h₀ L h' ((D, LCg.lst ys) :: nx) → (∀ p ∈ led, p ∈ nx) → (∀ p ∈ nx, p.1 ≠ D) → ERows nx ys (lossUpto l1 l2 l3 3) → wpAny (model PySem.Challenge.rw_no0077_01.row.prog w) (ktrTop dp un gd (Str.ofString "_law_due") (fnScope 28) L 274 (.ref 273) (cellsFrom (L + 1) (fnScope 28).names []) outer) (execs tl (envOfC (Str.ofString "_law_due") (fnScope 28) L 274 (.ref 273))) Q E { s with heap := h', toks := tk' }),
    wpAny (model PySem.Challenge.rw_no0077_01.row.prog w) (ktrTop dp un gd (Str.ofString "_law_due") (fnScope 28) L 274 (.ref 273) (cellsFrom (L + 1) (fnScope 28).names []) outer) (execs ((stAt (fnBody 28) 1) :: tl) (envOfC (Str.ofString "_law_due") (fnScope 28) L 274 (.ref 273))) Q E s := by
  k_fill
  intro w mean mg mb dp un gd outer A₀ base h₀ L m s tl Q E led lo ol oc2 w1 w2 w3 l1 l2 l3 B F X N T hdp hu m2 ml hc2 hd e1 e2 e3 hret
  walk_at "zwa"
  k_steps
  (show wpAny _ _ _ _ _ _)
  refine' ecomp_a F ?q13 ?q15 ?q8 ?q1 ?q2 ?q3 ?q4 ?q5 ?q6 ?q7 ?q10 ?q11 ?q9 ?q14
  case q8 => with_unfolding_all rfl
  case q10 => with_unfolding_all rfl
  case q11 => with_unfolding_all rfl
  case q1 => with_unfolding_all rfl
  case q2 => decide
  case q3 => with_unfolding_all rfl
  case q4 => decide
  case q5 => with_unfolding_all rfl
  case q6 => with_unfolding_all rfl
  case q7 => decide
  case q14 => intro _; with_unfolding_all rfl
  case q13 => with_unfolding_all rfl
  case q15 => with_unfolding_all rfl
  k_steps
  (show wpAny _ _ (call (Value.ref 240) []) _ _ _)
  k_dflt ((refine' names_call (N := ?N) ?B ?F ?X ?T ?k ?d ?u ?_; (case N => k_asm); (case B => k_asm); (case F => k_asm); (case X => k_asm); (case T => k_asm); (case k => exact rfl); (case d => walk_at "zr"); (case u => walk_at "zu"); k_whole); intro ax t1 t2 t3 h1 tk1 F1 N1 aX; (try dsimp only); (try k_sweep))
  k_steps
  refine en_call F1 N1 (vs := nmL t1 t2 t3) (k := 0) (.head _) ?_
  intro hE
  refine' ⟨JL ((ax, W.listOf (nmL t1 t2 t3).toArray 0) :: led) l1 l2 l3, Nat.le_of_ble_eq_true rfl, ⟨fun p hp => hp, .nil⟩, fun i ys nx h => h.1 _ (.head _), ?tn, ?fin⟩
  case tn =>
    intro i v t ys nx h tk I oI IT oIT C oC D m₂ E' hv off ne hJ hC ha hb F2 N2
    obtain ⟨sub, hrw⟩ := hJ
    obtain ⟨nm, tn, x, a, rfl, hx, hov, hup⟩ := name_at hv e1 e2 e3
    have N3 := News.sub N2 (l' := (C, oC) :: (L + 2, oc2) :: (lo, ol) :: ((I, oI) :: (IT, oIT) :: (C, oC) :: (D, LCg.lst ys) :: nx)) (List.forall_mem_cons.mpr ⟨.tail _ (.tail _ (.head _)), List.forall_mem_cons.mpr ⟨.tail _ (.tail _ (.tail _ (.tail _ (sub _ (.tail _ m2))))), List.forall_mem_cons.mpr ⟨.tail _ (.tail _ (.tail _ (.tail _ (sub _ (.tail _ ml))))), fun p hp => hp⟩⟩⟩)
    refine' d_tst B F2 X N3 T hdp hu hC hb hc2 hd hx hov ?_
    intro h3 tk3 F3 N3'
    rcases hov with ⟨rfl, rfl⟩ | ⟨n, tx, rfl, rfl⟩
    · simp only [Option.isSome_none, Bool.false_eq_true, if_false]
      refine ⟨h3, tk3, nx, rfl, F3, News.sub N3' (fun p hp => .tail _ (.tail _ (.tail _ hp))), off, sub, ?_⟩
      rw [hup]
      show ERows nx ys (_ ++ [])
      rw [List.append_nil]
      exact hrw
    · simp only [Option.isSome_some, if_true]
      refine' d_elt B F3 X N3' T hdp hu hC ha hb hc2 hd hx ?_
      intro TT t4 q h4 tk4 F4 N4 aT
      have hne := all_ne_of_lt aT
      have hne : ∀ p ∈ (I, oI) :: (IT, oIT) :: (C, oC) :: (D, LCg.lst ys) :: nx, p.1 ≠ TT := fun p hp => hne p (.tail _ (.tail _ (.tail _ hp)))
      refine ⟨h4, tk4, (TT, ({ cls := .type "tuple", data := .seq #[.int n tx, .int (i : Int) t, .str nm tn, .str (Str.ofString "loss") t4] q } : Obj)) :: nx, rfl, F4, News.sub N4 ?_, List.forall_mem_cons.mpr ⟨⟨Ne.symm (hne _ (.head _)), Ne.symm (hne _ (.tail _ (.head _))), Ne.symm (hne _ (.tail _ (.tail _ (.head _)))), Ne.symm (hne _ (.tail _ (.tail _ (.tail _ (.head _)))))⟩, off⟩, fun p hp => .tail _ (sub p hp), ?_⟩
      · intro p hp
        simp only [List.mem_cons] at hp ⊢
        rcases hp with h | h | h | h | h | h <;> simp only [h, true_or, or_true]
      · rw [hup]
        exact (ERows.mono (fun p hp => .tail _ hp) hrw).snoc ⟨TT, _, _, _, t4, q, rfl, .head _⟩
  case fin =>
    intro D ys nx h tk hJ F2 N2 hne
    obtain ⟨sub, hrw⟩ := hJ
    refine' hret D ys nx _ _ _ F2 ?za ?zn N2 (fun p hp => sub p (.tail _ hp)) hne hrw
    case za => rfl
    case zn => exact (by intro y hy; simp only [List.mem_cons, List.not_mem_nil, or_false, not_or] at hy; simp only [hy, if_false])
end
def appO (nm : Str) (c : Bool) (x : Int) (a : Option Int) : Option Int := match a with
  | none => none
  | some t => if (nm == Str.ofString "application" && !c) = true then none else some (t + x)
section
variable {prog : Program} {w : World} {A : Around} {E : Value → Shared → Prop} {s : Shared} {h₀ : Heap} {L : Addr}
theorem item_get {K : Type} [DecidableEq K] {knd : KeyKind prog w K} {news : List (Addr × Obj)} {d : Addr} {o : Obj} {kvs : List (K × Value)} {k : K} {key v : Value} {Q : Value → Shared → Prop} (N : News h₀ L s.heap news) (hp : (d, o) ∈ news) (hd : o.IsDictOf knd kvs) (hkey : knd.is k key = true) (hl : valueAt kvs k = some v) (h : Q v { s with toks := s.toks + 1 }) :
    wpAny (model prog w) A (getItem (.ref d) key) Q E s := wpAny_getItem_of hkey (kda_dict N hp hd).mapOf hl h
end
section
local macro_rules | `(tactic| walk_at "subscriptTail") => `(tactic| walk_at "z20")
local macro_rules | `(tactic| walk_at "eval Name") => `(tactic| walk_at "z10")
local macro_rules | `(tactic| walk_at "exec For Name Call cons nil") => `(tactic| walk_at "z11")
local macro_rules | `(tactic| walk_at "call type:range") => `(tactic| walk_at "z12")
local macro_rules | `(tactic| walk_at "getItem ref str") => `(tactic| (k_here; k_dflt (refine' item_get (knd := PySem.strKind _ _) ?N ?m ?d (strKind_is _ _ _ _) ?l ?_; (case N => k_asm); (case m => k_mem); (case d => k_asm); (case l => first | with_reducible assumption | exact rfl); k_whole)))
local macro_rules | `(tactic| walk_at "compareOp IsNot") => `(tactic| (k_here; refine isnot_ov (by with_reducible assumption) ?_))
set_option maxHeartbeats 8000000 in
theorem d_wait : ∀ {w : World} {mean : ExcName → Option Value} {mg mb : Str → Option Value} {dp un : Nat} {gd : Option (List Code)} {outer : List Env} {A₀ : Around} {base h₀ : Heap} {L : Addr} {m : Str → Option Value} {s : Shared} {tl : List Stmt} {Q : Flow → Shared → Prop} {E : Value → Shared → Prop} {rest : List (Addr × Obj)} {nm : Str} {tn tb td : Tok} {b d : Int}
    (B : Below A₀ base outer h₀) (F : Fr h₀ L s.heap m) (X : (heapK w.params).In h₀) (N : News h₀ L s.heap (rest)) (T : Top vw (looseW vw []) mean mg mb h₀) (hdp : dp < 360) (hu : un < 360)
    (r1 : m (Str.ofString "name") = some (.str nm tn)) (r2 : m (Str.ofString "base") = some (.int b tb)) (r3 : m (Str.ofString "delay") = some (.int d td))
    (hret : ∀ tw h' tk' m', Fr h₀ L h' m' → m' (Str.ofString "wait") = some (.int (b + if (nm == Str.ofString "application") = true then d else 0) tw) → Off [Str.ofString "wait"] m m' → News h₀ L h' rest → wpAny (model PySem.Challenge.rw_no0077_01.row.prog w) (ktrTop dp un gd (Str.ofString "_law_due") (fnScope 28) L 274 (.ref 273) (cellsFrom (L + 1) (fnScope 28).names []) outer) (execs tl (envOfC (Str.ofString "_law_due") (fnScope 28) L 274 (.ref 273))) Q E { s with heap := h', toks := tk' }),
    wpAny (model PySem.Challenge.rw_no0077_01.row.prog w) (ktrTop dp un gd (Str.ofString "_law_due") (fnScope 28) L 274 (.ref 273) (cellsFrom (L + 1) (fnScope 28).names []) outer) (execs ((stAt (forBody (stAt (ifBody (stAt (fnBody 28) 2)) 0)) 0) :: tl) (envOfC (Str.ofString "_law_due") (fnScope 28) L 274 (.ref 273))) Q E s := by
  k_fill
  intro w mean mg mb dp un gd outer A₀ base h₀ L m s tl Q E rest nm tn tb td b d B F X N T hdp hu r1 r2 r3 hret
  walk_at "zwa"
  k_steps
  all_goals (try dsimp only)
  all_goals ((rename Fr _ _ _ _ => kF); (rename News _ _ _ _ => kN); (rename (nm == _) = _ => e1))
  · refine' hret _ _ _ _ kF ?za ?zn kN
    case za => rw [e1]; rfl
    case zn => exact (by intro y hy; simp only [List.mem_cons, List.not_mem_nil, or_false, not_or] at hy; simp only [hy, if_false])
  · refine' hret _ _ _ _ kF ?za ?zn kN
    case za => rw [e1]; rfl
    case zn => exact (by intro y hy; simp only [List.mem_cons, List.not_mem_nil, or_false, not_or] at hy; simp only [hy, if_false])
set_option maxHeartbeats 8000000 in
theorem d_twice : ∀ {w : World} {mean : ExcName → Option Value} {mg mb : Str → Option Value} {dp un : Nat} {gd : Option (List Code)} {outer : List Env} {A₀ : Around} {base h₀ : Heap} {L : Addr} {m : Str → Option Value} {s : Shared} {tl : List Stmt} {Q : Flow → Shared → Prop} {E : Value → Shared → Prop} {rest : List (Addr × Obj)} {fd sp as lo : Addr} {ofd oc : Obj} {x n : Int} {tw tc : Tok} {c sh ky bl : Bool}
    (B : Below A₀ base outer h₀) (F : Fr h₀ L s.heap m) (X : (heapK w.params).In h₀) (N : News h₀ L s.heap ((L + 1, oc) :: (fd, ofd) :: rest)) (T : Top vw (looseW vw []) mean mg mb h₀) (hdp : dp < 360) (hu : un < 360)
    (r1 : m (Str.ofString "wait") = some (.int x tw)) (hc : oc.data = .cell (some (.ref fd))) (hf : ofd.IsDictOf (Dz w) [(Str.ofString "confirmed", .bool c), (Str.ofString "shown", .bool sh), (Str.ofString "keys", .bool ky), (Str.ofString "blocked", .bool bl), (Str.ofString "spaces", .ref sp), (Str.ofString "asked", .ref as), (Str.ofString "losses", .ref lo), (Str.ofString "count", .int n tc)]) (hn0 : 0 ≤ n) (hn3 : n < 3)
    (hret : ∀ tw' h' tk' m', Fr h₀ L h' m' → m' (Str.ofString "wait") = some ((.int (x * 2 ^ n.toNat) tw')) → Off [Str.ofString "wait", Str.ofString "turn"] m m' → News h₀ L h' ((L + 1, oc) :: (fd, ofd) :: rest) → wpAny (model PySem.Challenge.rw_no0077_01.row.prog w) (ktrTop dp un gd (Str.ofString "_law_due") (fnScope 28) L 274 (.ref 273) (cellsFrom (L + 1) (fnScope 28).names []) outer) (execs tl (envOfC (Str.ofString "_law_due") (fnScope 28) L 274 (.ref 273))) Q E { s with heap := h', toks := tk' }),
    wpAny (model PySem.Challenge.rw_no0077_01.row.prog w) (ktrTop dp un gd (Str.ofString "_law_due") (fnScope 28) L 274 (.ref 273) (cellsFrom (L + 1) (fnScope 28).names []) outer) (execs ((stAt (forBody (stAt (ifBody (stAt (fnBody 28) 2)) 0)) 1) :: tl) (envOfC (Str.ofString "_law_due") (fnScope 28) L 274 (.ref 273))) Q E s := by
  k_fill
  intro w mean mg mb dp un gd outer A₀ base h₀ L m s tl Q E rest fd sp as lo ofd oc x n tw tc c sh ky bl B F X N T hdp hu r1 hc hf hn0 hn3 hret
  walk_at "zwf"
  k_steps
  (rename Fr _ _ _ _ => F9); (rename News _ _ _ _ => N9)
  refine' ⟨_, _, _, _, _, m, (L + 1, oc) :: (fd, ofd) :: rest, fun i m' nx => nx = (L + 1, oc) :: (fd, ofd) :: rest ∧ Off [Str.ofString "wait", Str.ofString "turn"] m m' ∧ ∃ t, m' (Str.ofString "wait") = some (.int (x * 2 ^ i) t), rfl, by assumption, by assumption, by omega, F9, ?hN, ⟨rfl, fun _ _ => rfl, tw, ?r1⟩, ?turn, ?done⟩
  case hN => exact News.sub N9 (by walk_at "zs")
  case r1 => rw [r1, Int.pow_zero, Int.mul_one]
  case turn =>
    intro i t m₁ nx hp tk I oI hi hne hJ F1 N1
    obtain ⟨rfl, off, tw1, rw1⟩ := hJ
    clear N9 F9
    have F8 : Fr h₀ L hp m₁ := F1
    have N8 : News h₀ L hp ((I, oI) :: (L + 1, oc) :: (fd, ofd) :: rest) := N1
    clear F1 N1
    walk1
    walk1
    (rename Fr _ _ _ _ => F2); (rename News _ _ _ _ => N2)
    have off0 : Off [Str.ofString "turn"] m₁ (fun y => if y = Str.ofString "turn" then some (Value.int (i : Int) t) else m₁ y) := (by intro y hy; simp only [List.mem_cons, List.not_mem_nil, or_false, not_or] at hy; simp only [hy, if_false])
    generalize (fun y => if y = Str.ofString "turn" then some (Value.int (i : Int) t) else m₁ y) = mm at F2 off0
    have rw2 := off0.get rw1
    k_steps
    (try dsimp only); (rename Fr _ _ _ _ => kF); (rename News _ _ _ _ => kN)
    refine' ⟨_, _, _, _, rfl, kF, kN, hne, rfl, ?zo, _, ?zw⟩
    case zw =>
      rw [show x * 2 ^ (i + 1) = x * 2 ^ i + x * 2 ^ i by rw [Int.pow_succ, ← Int.mul_assoc]; omega]
      rfl
    case zo =>
      intro y hy
      have h := off y hy
      simp only [List.mem_cons, List.not_mem_nil, or_false, not_or] at hy
      have h2 := off0 y (fun q => hy.2 (List.mem_singleton.mp q))
      simp only [hy, if_false]; exact h2.trans h
  case done =>
    intro m₁ nx hp tk hJ F1 N1
    obtain ⟨rfl, off, tw1, rw1⟩ := hJ
    exact hret tw1 _ _ _ F1 rw1 off N1
set_option maxHeartbeats 8000000 in
theorem d_app : ∀ {w : World} {mean : ExcName → Option Value} {mg mb : Str → Option Value} {dp un : Nat} {gd : Option (List Code)} {outer : List Env} {A₀ : Around} {base h₀ : Heap} {L : Addr} {m : Str → Option Value} {s : Shared} {tl : List Stmt} {Q : Flow → Shared → Prop} {E : Value → Shared → Prop} {rest : List (Addr × Obj)} {D fd sp as lo : Addr} {ofd oc oas : Obj} {ys : Array Value} {k : Nat} {nm : Str} {x at_ n : Int} {tn ta tw tc : Tok} {c sh ky bl : Bool} {v1 v2 v3 y : Value} {a : Option Int}
    (B : Below A₀ base outer h₀) (F : Fr h₀ L s.heap m) (X : (heapK w.params).In h₀) (N : News h₀ L s.heap ((D, listOf ys k) :: (L + 1, oc) :: (fd, ofd) :: (as, oas) :: rest)) (T : Top vw (looseW vw []) mean mg mb h₀) (hdp : dp < 360) (hu : un < 360)
    (r1 : m (Str.ofString "name") = some (.str nm tn)) (r2 : m (Str.ofString "at") = some (.int at_ ta)) (r3 : m (Str.ofString "wait") = some (.int x tw)) (r4 : m (Str.ofString "some") = some (.ref D)) (hc : oc.data = .cell (some (.ref fd))) (hf : ofd.IsDictOf (Dz w) [(Str.ofString "confirmed", .bool c), (Str.ofString "shown", .bool sh), (Str.ofString "keys", .bool ky), (Str.ofString "blocked", .bool bl), (Str.ofString "spaces", .ref sp), (Str.ofString "asked", .ref as), (Str.ofString "losses", .ref lo), (Str.ofString "count", .int n tc)]) (hq : oas.IsDictOf (Dz w) (tri v1 v2 v3)) (hx : valueAt (tri v1 v2 v3) nm = some y) (hov : OV y a) (hsz : ys.size ≤ 100) (hD : ∀ p ∈ (L + 1, oc) :: (fd, ofd) :: (as, oas) :: rest, p.1 ≠ D)
    (hret : ∀ ys' k' nw h' tk', Fr h₀ L h' m → News h₀ L h' ((D, listOf ys' k') :: (nw ++ (L + 1, oc) :: (fd, ofd) :: (as, oas) :: rest)) → (∀ p ∈ nw, ∀ q ∈ (D, listOf ys k) :: (L + 1, oc) :: (fd, ofd) :: (as, oas) :: rest, q.1 ≠ p.1) → (∃ zs, ys'.toList = ys.toList ++ zs ∧ ERows nw zs (rowOf at_ nm (Str.ofString "probe") (appO nm c x a))) → wpAny (model PySem.Challenge.rw_no0077_01.row.prog w) (ktrTop dp un gd (Str.ofString "_law_due") (fnScope 28) L 274 (.ref 273) (cellsFrom (L + 1) (fnScope 28).names []) outer) (execs tl (envOfC (Str.ofString "_law_due") (fnScope 28) L 274 (.ref 273))) Q E { s with heap := h', toks := tk' }),
    wpAny (model PySem.Challenge.rw_no0077_01.row.prog w) (ktrTop dp un gd (Str.ofString "_law_due") (fnScope 28) L 274 (.ref 273) (cellsFrom (L + 1) (fnScope 28).names []) outer) (execs ((stAt (forBody (stAt (ifBody (stAt (fnBody 28) 2)) 0)) 2) :: tl) (envOfC (Str.ofString "_law_due") (fnScope 28) L 274 (.ref 273))) Q E s := by
  k_fill
  intro w mean mg mb dp un gd outer A₀ base h₀ L m s tl Q E rest D fd sp as lo ofd oc oas ys k nm x at_ n tn ta tw tc c sh ky bl v1 v2 v3 y a B F X N T hdp hu r1 r2 r3 r4 hc hf hq hx hov hsz hD hret
  walk_at "zwi"
  simp only [List.forall_mem_cons] at hD
  obtain ⟨hD1, hD2, hD3, hD4⟩ := hD
  k_steps
  all_goals (try dsimp only)
  · rcases hov with ⟨rfl, rfl⟩ | ⟨t, ty, rfl, rfl⟩
    · (rename Option.isSome none = true => e1); cases e1
    (rename (nm != _) = true => e2)
    k_steps
    (try dsimp only); (rename Fr _ _ _ _ => kF); (rename News _ _ _ _ => kN)
    refine' hret _ _ [(_, _)] _ _ kF (News.sub kN ?zk1) ?zd1 ⟨[.ref _], ?ze1, ?zr1⟩
    case zk1 => exact (by walk_at "zs")
    case zd1 =>
      intro p hp
      rw [List.mem_singleton.mp hp]
      simp only [List.forall_mem_cons]
      exact ⟨Nat.ne_of_lt (by assumption), Nat.ne_of_lt (by assumption), Nat.ne_of_lt (by assumption), Nat.ne_of_lt (by assumption), all_ne_of_lt (by assumption)⟩
    case ze1 => rw [Array.toList_push]
    case zr1 =>
      have e3 : (nm == Str.ofString "application" && !c) = false := by
        cases hq9 : (nm == Str.ofString "application") with
        | false => rfl
        | true => (rw [bne, hq9] at e2; cases e2)
      show ERows _ _ (rowOf at_ nm _ (if (nm == Str.ofString "application" && !c) = true then none else some (t + x)))
      rw [e3]
      exact .cons ⟨_, _, _, _, _, _, rfl, .head _⟩ .nil
  · rcases hov with ⟨rfl, rfl⟩ | ⟨t, ty, rfl, rfl⟩
    · (rename Option.isSome none = true => e1); cases e1
    (rename c = true => e2)
    k_steps
    (try dsimp only); (rename Fr _ _ _ _ => kF); (rename News _ _ _ _ => kN)
    refine' hret _ _ [(_, _)] _ _ kF (News.sub kN ?zk2) ?zd2 ⟨[.ref _], ?ze2, ?zr2⟩
    case zk2 => exact (by walk_at "zs")
    case zd2 =>
      intro p hp
      rw [List.mem_singleton.mp hp]
      simp only [List.forall_mem_cons]
      exact ⟨Nat.ne_of_lt (by assumption), Nat.ne_of_lt (by assumption), Nat.ne_of_lt (by assumption), Nat.ne_of_lt (by assumption), all_ne_of_lt (by assumption)⟩
    case ze2 => rw [Array.toList_push]
    case zr2 =>
      have e3 : (nm == Str.ofString "application" && !c) = false := by
        rw [e2]; exact Bool.and_false _
      show ERows _ _ (rowOf at_ nm _ (if (nm == Str.ofString "application" && !c) = true then none else some (t + x)))
      rw [e3]
      exact .cons ⟨_, _, _, _, _, _, rfl, .head _⟩ .nil
  · rcases hov with ⟨rfl, rfl⟩ | ⟨t, ty, rfl, rfl⟩
    · (rename Option.isSome none = true => e1); cases e1
    (rename c = false => e2)
    (rename (nm != _) = false => e4)
    refine' hret ys k [] _ _ F N (fun p hp => (List.not_mem_nil hp).elim) ⟨[], (List.append_nil _).symm, ?zr3⟩
    case zr3 =>
      have e3 : (nm == Str.ofString "application" && !c) = true := by
        cases hq9 : (nm == Str.ofString "application") with
        | true => (rw [e2]; rfl)
        | false => (rw [bne, hq9] at e4; cases e4)
      show ERows _ _ (rowOf at_ nm _ (if (nm == Str.ofString "application" && !c) = true then none else some (t + x)))
      rw [e3]
      exact .nil
  · rcases hov with ⟨rfl, rfl⟩ | ⟨t, ty, rfl, rfl⟩
    · refine' hret ys k [] _ _ F N (fun p hp => (List.not_mem_nil hp).elim) ⟨[], (List.append_nil _).symm, ?zr4⟩
      case zr4 =>
        exact .nil
    · (rename Option.isSome (some _) = false => e1); cases e1
end
def probeUpto (b d n : Int) (c : Bool) (a1 a2 a3 : Option Int) : Nat → List (Int × Int × Str × Str)
  | 0 => []
  | 1 => rowOf 0 (Str.ofString "initial") (Str.ofString "probe") (ptO b d n c a1 (Str.ofString "initial"))
  | 2 => rowOf 0 (Str.ofString "initial") (Str.ofString "probe") (ptO b d n c a1 (Str.ofString "initial")) ++ rowOf 1 (Str.ofString "handshake") (Str.ofString "probe") (ptO b d n c a2 (Str.ofString "handshake"))
  | _ => (rowOf 0 (Str.ofString "initial") (Str.ofString "probe") (ptO b d n c a1 (Str.ofString "initial")) ++ rowOf 1 (Str.ofString "handshake") (Str.ofString "probe") (ptO b d n c a2 (Str.ofString "handshake"))) ++ rowOf 2 (Str.ofString "application") (Str.ofString "probe") (ptO b d n c a3 (Str.ofString "application"))
theorem name_atP {b d n : Int} {c : Bool} {t1 t2 t3 : Tok} {v1 v2 v3 : Value} {a1 a2 a3 : Option Int} {i : Nat} {v : Value} (hv : (nmL t1 t2 t3)[i]? = some v) (e1 : OV v1 a1) (e2 : OV v2 a2) (e3 : OV v3 a3) :
    ∃ nm t x a, v = .str nm t ∧ valueAt (tri v1 v2 v3) nm = some x ∧ OV x a ∧ probeUpto b d n c a1 a2 a3 (i + 1) = probeUpto b d n c a1 a2 a3 i ++ rowOf i nm (Str.ofString "probe") (ptO b d n c a nm) := by
  match i, hv with
  | 0, h => simp at h; subst h; exact ⟨_, _, v1, a1, rfl, rfl, e1, (List.nil_append _).symm⟩
  | 1, h => simp at h; subst h; exact ⟨_, _, v2, a2, rfl, rfl, e2, rfl⟩
  | 2, h => simp at h; subst h; exact ⟨_, _, v3, a3, rfl, rfl, e3, rfl⟩
  | i + 3, h => simp at h
def DReads (m : Str → Option Value) (D : Addr) (b d now : Int) (tb td tn : Tok) : Prop := m (Str.ofString "some") = some (.ref D) ∧ m (Str.ofString "base") = some (.int b tb) ∧ m (Str.ofString "delay") = some (.int d td) ∧ m (Str.ofString "now") = some (.int now tn)
theorem DReads.off {l : List Str} {m m' : Str → Option Value} {D : Addr} {b d now : Int} {tb td tn : Tok} (o : Off l m m') (h : DReads m D b d now tb td tn) (hl : Str.ofString "some" ∉ l := by decide) (hl2 : Str.ofString "base" ∉ l := by decide) (hl3 : Str.ofString "delay" ∉ l := by decide) (hl4 : Str.ofString "now" ∉ l := by decide) : DReads m' D b d now tb td tn := by
  obtain ⟨r1, r2, r3, r4⟩ := h
  exact ⟨(o _ hl).trans r1, (o _ hl2).trans r2, (o _ hl3).trans r3, (o _ hl4).trans r4⟩
/-- the rows found so far, in the list that stands ahead of the ledger -/
def JD (led : List (Addr × Obj)) (D : Addr) (b d now : Int) (tb td tn : Tok) (es : Nat → List (Int × Int × Str × Str)) (i : Nat) (m : Str → Option Value) (nx : List (Addr × Obj)) : Prop :=
  ∃ ys k nx', nx = (D, listOf ys k) :: nx' ∧ (∀ p ∈ led, p ∈ nx') ∧ (∀ p ∈ nx', p.1 ≠ D) ∧ ERows nx' ys.toList (es i) ∧ ys.size ≤ i ∧ DReads m D b d now tb td tn
theorem bodyP : (forBody (stAt (ifBody (stAt (fnBody 28) 2)) 0)) = [stAt (forBody (stAt (ifBody (stAt (fnBody 28) 2)) 0)) 0, stAt (forBody (stAt (ifBody (stAt (fnBody 28) 2)) 0)) 1, stAt (forBody (stAt (ifBody (stAt (fnBody 28) 2)) 0)) 2] := by kernel_rfl
theorem rowOf_le {i : Int} {nm kd : Str} {o : Option Int} : (rowOf i nm kd o).length ≤ 1 := by cases o <;> simp [rowOf]
theorem erows_len {led : List (Addr × Obj)} : ∀ {vs : List Value} {es : List (Int × Int × Str × Str)}, ERows led vs es → vs.length = es.length
  | _, _, .nil => rfl
  | _, _, .cons _ r => congrArg (· + 1) (erows_len r)
theorem erows_app {led : List (Addr × Obj)} : ∀ {vs ws : List Value} {es fs : List (Int × Int × Str × Str)}, ERows led vs es → ERows led ws fs → ERows led (vs ++ ws) (es ++ fs)
  | _, _, _, _, .nil, r => r
  | _, _, _, _, .cons h r, q => .cons h (erows_app r q)
section
local macro_rules | `(tactic| walk_at "call ref") => `(tactic| (k_here; refine held ?_))
set_option maxHeartbeats 8000000 in
theorem d_turn {w : World} {mean : ExcName → Option Value} {mg mb : Str → Option Value} {dp un : Nat} {gd : Option (List Code)} {outer : List Env} {A₀ : Around} {base h₀ : Heap} {L : Addr} {m₁ : Str → Option Value} {s : Shared} {Q : Flow → Shared → Prop}
    {D fd sp as lo : Addr} {ofd oc oas : Obj} {b d now n : Int} {tb td tn tc : Tok} {c sh ky bl : Bool} {v1 v2 v3 : Value} {a1 a2 a3 : Option Int} {led nx : List (Addr × Obj)} {i : Nat} {v : Value} {t t1 t2 t3 : Tok} {I IT : Addr} {oI oIT : Obj}
    (B : Below A₀ base outer h₀) (F : Fr h₀ L s.heap (fun z => if z = Str.ofString "name" then some v else if z = Str.ofString "at" then some (.int (i : Int) t) else m₁ z)) (X : (heapK w.params).In h₀) (N : News h₀ L s.heap ((I, oI) :: (IT, oIT) :: nx)) (T : Top vw (looseW vw []) mean mg mb h₀) (hdp : dp < 360) (hu : un < 360)
    (mc : (L + 1, oc) ∈ led) (mf : (fd, ofd) ∈ led) (ma : (as, oas) ∈ led) (hc : oc.data = .cell (some (.ref fd))) (hf : ofd.IsDictOf (Dz w) [(Str.ofString "confirmed", .bool c), (Str.ofString "shown", .bool sh), (Str.ofString "keys", .bool ky), (Str.ofString "blocked", .bool bl), (Str.ofString "spaces", .ref sp), (Str.ofString "asked", .ref as), (Str.ofString "losses", .ref lo), (Str.ofString "count", .int n tc)]) (hq : oas.IsDictOf (Dz w) (tri v1 v2 v3)) (g1 : OV v1 a1) (g2 : OV v2 a2) (g3 : OV v3 a3) (hn0 : 0 ≤ n) (hn3 : n < 3)
    (hne : ∀ p ∈ (IT, oIT) :: nx, p.1 ≠ I) (hne2 : ∀ p ∈ nx, p.1 ≠ IT) (hv : (nmL t1 t2 t3)[i]? = some v) (hJ : JD led D b d now tb td tn (probeUpto b d n c a1 a2 a3) i m₁ nx) :
    wpAny (model PySem.Challenge.rw_no0077_01.row.prog w) (ktrTop dp un gd (Str.ofString "_law_due") (fnScope 28) L 274 (.ref 273) (cellsFrom (L + 1) (fnScope 28).names []) outer) (execs (forBody (stAt (ifBody (stAt (fnBody 28) 2)) 0)) (envOfC (Str.ofString "_law_due") (fnScope 28) L 274 (.ref 273))) (RgPost h₀ L (EnJ (JD led D b d now tb td tn (probeUpto b d n c a1 a2 a3) (i + 1)) IT oIT) I oI s Q) NoE s := by
  k_fill
  rw [bodyP]
  obtain ⟨ys, k, nx', rfl, sub, hD, hrow, hys, hr⟩ := hJ
  obtain ⟨nm, tnm, x, a, rfl, hx, hov, hup⟩ := name_atP (b := b) (d := d) (n := n) (c := c) hv g1 g2 g3
  obtain ⟨mm, F0, rn, ra, off0⟩ : ∃ mm, Fr h₀ L s.heap mm ∧ mm (Str.ofString "name") = some (.str nm tnm) ∧ mm (Str.ofString "at") = some (.int (i : Int) t) ∧ Off [Str.ofString "name", Str.ofString "at"] m₁ mm := ⟨_, F, rfl, rfl, (by intro y hy; simp only [List.mem_cons, List.not_mem_nil, or_false, not_or] at hy; simp only [hy, if_false])⟩
  clear F
  have hr0 := DReads.off off0 hr
  obtain ⟨r1, r2, r3, r4⟩ := hr0
  have i3 : i < 3 := by
    rcases Nat.lt_or_ge i 3 with h | h
    · exact h
    · rw [List.getElem?_eq_none_iff.mpr h] at hv; cases hv
  refine' d_wait  B ?F1 X ?N1 T hdp hu ?z0_1 ?z1_1 ?z2_1 ?hr1
  case F1 => with_reducible assumption
  case z0_1 => exact rn
  case z1_1 => exact r2
  case z2_1 => exact r3
  case N1 => with_reducible assumption
  intro tw hp1 tk1 m2 F1 rw1 off1 N1
  try dsimp only
  replace rn := off1.get rn
  replace ra := off1.get ra
  replace r1 := off1.get r1
  replace r2 := off1.get r2
  replace r3 := off1.get r3
  replace r4 := off1.get r4
  have N1' := News.sub N1 (l' := (L + 1, oc) :: (fd, ofd) :: ((I, oI) :: (IT, oIT) :: (D, listOf ys k) :: nx')) (List.forall_mem_cons.mpr ⟨.tail _ (.tail _ (.tail _ (sub _ mc))), List.forall_mem_cons.mpr ⟨.tail _ (.tail _ (.tail _ (sub _ mf))), fun p hp => hp⟩⟩)
  clear N1
  refine' d_twice  B ?F2 X ?N2 T hdp hu ?z0_2 ?z1_2 ?z2_2 ?z3_2 ?z4_2 ?hr2
  case F2 => with_reducible assumption
  case z0_2 => exact rw1
  case N2 => with_reducible assumption
  case z1_2 => exact hc
  case z2_2 => exact hf
  case z3_2 => exact hn0
  case z4_2 => exact hn3
  intro tw2 hp2 tk2 m3 F2 rw2 off2 N2
  try dsimp only
  replace rn := off2.get rn
  replace ra := off2.get ra
  replace r1 := off2.get r1
  replace r2 := off2.get r2
  replace r3 := off2.get r3
  replace r4 := off2.get r4
  have N2' := News.sub N2 (l' := (D, listOf ys k) :: (L + 1, oc) :: (fd, ofd) :: (as, oas) :: ((I, oI) :: (IT, oIT) :: nx')) (by
    refine List.forall_mem_cons.mpr ⟨.tail _ (.tail _ (.tail _ (.tail _ (.head _)))), List.forall_mem_cons.mpr ⟨.head _, List.forall_mem_cons.mpr ⟨.tail _ (.head _), List.forall_mem_cons.mpr ⟨.tail _ (.tail _ (.tail _ (.tail _ (.tail _ (sub _ ma))))), fun p hp => ?_⟩⟩⟩⟩
    simp only [List.mem_cons] at hp ⊢
    rcases hp with h | h | h <;> simp only [h, true_or, or_true])
  clear N2
  have hID : I ≠ D := Ne.symm (hne (D, listOf ys k) (.tail _ (.head _)))
  have hTD : IT ≠ D := Ne.symm (hne2 (D, listOf ys k) (.head _))
  have hD' : ∀ p ∈ (L + 1, oc) :: (fd, ofd) :: (as, oas) :: ((I, oI) :: (IT, oIT) :: nx'), p.1 ≠ D := List.forall_mem_cons.mpr ⟨hD _ (sub _ mc), List.forall_mem_cons.mpr ⟨hD _ (sub _ mf), List.forall_mem_cons.mpr ⟨hD _ (sub _ ma), List.forall_mem_cons.mpr ⟨hID, List.forall_mem_cons.mpr ⟨hTD, hD⟩⟩⟩⟩⟩
  refine' d_app  B ?F3 X ?N3 T hdp hu ?z0_3 ?z1_3 ?z2_3 ?z3_3 ?z4_3 ?z5_3 ?z6_3 ?z7_3 ?z8_3 ?z9_3 ?z10_3 ?hr3
  case F3 => with_reducible assumption
  case z0_3 => exact rn
  case z1_3 => exact ra
  case z2_3 => exact rw2
  case z3_3 => exact r1
  case N3 => with_reducible assumption
  case z4_3 => exact hc
  case z5_3 => exact hf
  case z6_3 => exact hq
  case z7_3 => exact hx
  case z8_3 => exact hov
  case z9_3 => omega
  case z10_3 => exact hD'
  intro ys2 k2 nw hp3 tk3 F3 N3 ap3 hz
  try dsimp only
  obtain ⟨zs, hzs, hzr⟩ := hz
  refine wpAny_execs_nil ?_
  have mem3 : ∀ q ∈ (I, oI) :: (IT, oIT) :: nx', q ∈ (D, listOf ys k) :: (L + 1, oc) :: (fd, ofd) :: (as, oas) :: ((I, oI) :: (IT, oIT) :: nx') := fun q hq => .tail _ (.tail _ (.tail _ (.tail _ hq)))
  refine ⟨hp3, tk3, m3, (IT, oIT) :: (D, listOf ys2 k2) :: (nw ++ nx'), rfl, F3, News.sub N3 ?_, ?_, _, rfl, ?_, ys2, k2, nw ++ nx', rfl, fun p hp => List.mem_append.mpr (.inr (sub p hp)), ?_, ?_, ?_, ⟨r1, r2, r3, r4⟩⟩
  · intro p hp
    simp only [List.mem_cons, List.mem_append] at hp ⊢
    rcases hp with h | h | h | h | h <;> simp only [h, true_or, or_true]
  · refine List.forall_mem_cons.mpr ⟨hne _ (.head _), List.forall_mem_cons.mpr ⟨Ne.symm hID, fun p hp => ?_⟩⟩
    rcases List.mem_append.mp hp with hp | hp
    · exact (ap3 p hp (I, oI) (mem3 _ (.head _))).symm
    · exact hne p (.tail _ (.tail _ hp))
  · refine List.forall_mem_cons.mpr ⟨Ne.symm hTD, fun p hp => ?_⟩
    rcases List.mem_append.mp hp with hp | hp
    · exact (ap3 p hp (IT, oIT) (mem3 _ (.tail _ (.head _)))).symm
    · exact hne2 p (.tail _ hp)
  · intro p hp
    rcases List.mem_append.mp hp with hp | hp
    · exact (ap3 p hp _ (.head _)).symm
    · exact hD p hp
  · rw [hup, hzs]
    refine erows_app (ERows.mono (fun p hp => List.mem_append.mpr (.inr hp)) hrow) (ERows.mono (fun p hp => List.mem_append.mpr (.inl hp)) ?_)
    have e : ptO b d n c a nm = (appO nm c ((b + if (nm == Str.ofString "application") = true then d else 0) * 2 ^ n.toNat) a) := by cases a <;> rfl
    rw [e]
    exact hzr
  · have h1 := erows_len hzr
    have h2 := @rowOf_le i nm (Str.ofString "probe") (appO nm c ((b + if (nm == Str.ofString "application") = true then d else 0) * 2 ^ n.toNat) a)
    have h3 : ys2.size = ys.size + zs.length := by rw [← Array.length_toList, hzs, List.length_append, Array.length_toList]
    omega
end
section
local macro_rules | `(tactic| walk_at "call ref") => `(tactic| (k_here; refine held ?_))
local macro_rules | `(tactic| walk_at "exec For Tuple Call cons nil") => `(tactic| (k_here; (rename Fr _ _ _ _ => F9); (with_unfolding_all refine' for_enum F9 (by rfl) (by rfl) (by rfl) (by rfl) ?_)))
set_option maxHeartbeats 8000000 in
theorem d_for : ∀ {w : World} {mean : ExcName → Option Value} {mg mb : Str → Option Value} {dp un : Nat} {gd : Option (List Code)} {outer : List Env} {A₀ : Around} {base h₀ : Heap} {L : Addr} {m : Str → Option Value} {s : Shared} {tl : List Stmt} {Q : Flow → Shared → Prop} {E : Value → Shared → Prop} {nx : List (Addr × Obj)} {D fd sp as lo : Addr} {ofd oc oas : Obj} {ys0 : Array Value} {k0 : Nat} {b d now n : Int} {tb td tn tc : Tok} {c sh ky bl : Bool} {v1 v2 v3 : Value} {a1 a2 a3 : Option Int}
    (B : Below A₀ base outer h₀) (F : Fr h₀ L s.heap m) (X : (heapK w.params).In h₀) (N : News h₀ L s.heap ((D, listOf ys0 k0) :: nx)) (T : Top vw (looseW vw []) mean mg mb h₀) (hdp : dp < 360) (hu : un < 360)
    (hr : DReads m D b d now tb td tn) (mc : (L + 1, oc) ∈ nx) (mf : (fd, ofd) ∈ nx) (ma : (as, oas) ∈ nx) (hD : ∀ p ∈ nx, p.1 ≠ D) (hc : oc.data = .cell (some (.ref fd))) (hf : ofd.IsDictOf (Dz w) [(Str.ofString "confirmed", .bool c), (Str.ofString "shown", .bool sh), (Str.ofString "keys", .bool ky), (Str.ofString "blocked", .bool bl), (Str.ofString "spaces", .ref sp), (Str.ofString "asked", .ref as), (Str.ofString "losses", .ref lo), (Str.ofString "count", .int n tc)]) (hq : oas.IsDictOf (Dz w) (tri v1 v2 v3)) (g1 : OV v1 a1) (g2 : OV v2 a2) (g3 : OV v3 a3) (hn0 : 0 ≤ n) (hn3 : n < 3) (hys : ys0.size = 0)
    (hret : ∀ ys k nx' h' tk' m', Fr h₀ L h' m' → DReads m' D b d now tb td tn → News h₀ L h' ((D, listOf ys k) :: nx') → (∀ p ∈ nx, p ∈ nx') → (∀ p ∈ nx', p.1 ≠ D) → ERows nx' ys.toList (probeUpto b d n c a1 a2 a3 3) → ys.size ≤ 3 → wpAny (model PySem.Challenge.rw_no0077_01.row.prog w) (ktrTop dp un gd (Str.ofString "_law_due") (fnScope 28) L 274 (.ref 273) (cellsFrom (L + 1) (fnScope 28).names []) outer) (execs tl (envOfC (Str.ofString "_law_due") (fnScope 28) L 274 (.ref 273))) Q E { s with heap := h', toks := tk' }),
    wpAny (model PySem.Challenge.rw_no0077_01.row.prog w) (ktrTop dp un gd (Str.ofString "_law_due") (fnScope 28) L 274 (.ref 273) (cellsFrom (L + 1) (fnScope 28).names []) outer) (execs ((stAt (ifBody (stAt (fnBody 28) 2)) 0) :: tl) (envOfC (Str.ofString "_law_due") (fnScope 28) L 274 (.ref 273))) Q E s := by
  k_fill
  intro w mean mg mb dp un gd outer A₀ base h₀ L m s tl Q E nx D fd sp as lo ofd oc oas ys0 k0 b d now n tb td tn tc c sh ky bl v1 v2 v3 a1 a2 a3 B F X N T hdp hu hr mc mf ma hD hc hf hq g1 g2 g3 hn0 hn3 hys hret
  walk_at "zwf"
  k_steps
  (show wpAny _ _ (call (Value.ref 240) []) _ _ _)
  k_dflt ((refine' names_call (N := ?N) ?B ?F ?X ?T ?k ?d ?u ?_; (case N => k_asm); (case B => k_asm); (case F => k_asm); (case X => k_asm); (case T => k_asm); (case k => exact rfl); (case d => walk_at "zr"); (case u => walk_at "zu"); k_whole); intro ax t1 t2 t3 h1 tk1 F1 N1 aX; (try dsimp only); (try k_sweep))
  k_steps
  have hax := all_ne_of_lt aX
  refine en_call F1 (News.sub N1 (l' := (D, listOf ys0 k0) :: (ax, W.listOf (nmL t1 t2 t3).toArray 0) :: nx) ?nsub) (vs := nmL t1 t2 t3) (k := 0) (.tail _ (.head _)) ?_
  case nsub =>
    intro p hp
    simp only [List.mem_cons] at hp ⊢
    rcases hp with h | h | h <;> simp only [h, true_or, or_true]
  intro hE
  have hy0 : ys0 = #[] := Array.eq_empty_of_size_eq_zero hys
  refine' ⟨JD ((ax, W.listOf (nmL t1 t2 t3).toArray 0) :: nx) D b d now tb td tn (probeUpto b d n c a1 a2 a3), ⟨ys0, k0, _, rfl, fun p hp => hp, List.forall_mem_cons.mpr ⟨Ne.symm (hax _ (.head _)), hD⟩, ?r0, by omega, hr⟩, ?ax9, ?turn, ?done⟩
  case r0 => rw [hy0]; exact .nil
  case ax9 =>
    intro i m' nx9 hJ
    obtain ⟨ys, k, nx8, rfl, sub, _⟩ := hJ
    exact .tail _ (sub _ (.head _))
  case turn =>
    intro i v t m₁ nx9 hp tk I oI IT oIT hv hne hne2 hJ F2 N2
    exact d_turn B F2 X N2 T hdp hu (.tail _ mc) (.tail _ mf) (.tail _ ma) hc hf hq g1 g2 g3 hn0 hn3 hne hne2 hv hJ
  case done =>
    intro m₁ nx9 hp tk hJ F2 N2
    obtain ⟨ys, k, nx8, rfl, sub, hD8, hrow, hsz, hr8⟩ := hJ
    exact hret ys k nx8 _ _ _ F2 hr8 N2 (fun p hp => sub p (.tail _ hp)) hD8 hrow hsz
end
def fallO (b now n : Int) (sh ky : Bool) (a1 a2 a3 : Option Int) : List (Int × Int × Str × Str) :=
  if (!(a1.isSome || (a2.isSome || a3.isSome)) && !sh) = true then [(now + b * 2 ^ n.toNat, 0, if ky = true then Str.ofString "handshake" else Str.ofString "initial", Str.ofString "probe")] else []
section
local macro_rules | `(tactic| walk_at "call ref") => `(tactic| (k_here; refine held ?_))
local macro_rules | `(tactic| walk_at "subscriptTail") => `(tactic| walk_at "z18")
local macro_rules | `(tactic| walk_at "eval Name") => `(tactic| walk_at "z10")
local macro_rules | `(tactic| walk_at "compareOp IsNot") => `(tactic| (k_here; refine isnot_ov (by with_reducible assumption) ?_))
local macro_rules | `(tactic| walk_at "eval ListComp") => `(tactic| (k_here; refine held ?_))
local macro_rules | `(tactic| walk_at "compareOp Eq ref ref") => `(tactic| walk_at "z19")
set_option maxHeartbeats 8000000 in
theorem d_none : ∀ {w : World} {mean : ExcName → Option Value} {mg mb : Str → Option Value} {dp un : Nat} {gd : Option (List Code)} {outer : List Env} {A₀ : Around} {base h₀ : Heap} {L : Addr} {m : Str → Option Value} {s : Shared} {tl : List Stmt} {Q : Flow → Shared → Prop} {E : Value → Shared → Prop} {rest : List (Addr × Obj)} {D fd sp as lo : Addr} {ofd oc oas : Obj} {ys : Array Value} {k : Nat} {b d now n : Int} {tb td tn tc : Tok} {c sh ky bl : Bool} {v1 v2 v3 : Value} {a1 a2 a3 : Option Int}
    (B : Below A₀ base outer h₀) (F : Fr h₀ L s.heap m) (X : (heapK w.params).In h₀) (N : News h₀ L s.heap ((D, listOf ys k) :: (L + 1, oc) :: (fd, ofd) :: (as, oas) :: rest)) (T : Top vw (looseW vw []) mean mg mb h₀) (hdp : dp < 360) (hu : un < 360)
    (r1 : m (Str.ofString "some") = some (.ref D)) (r2 : m (Str.ofString "base") = some (.int b tb)) (r4 : m (Str.ofString "now") = some (.int now tn)) (hc : oc.data = .cell (some (.ref fd))) (hf : ofd.IsDictOf (Dz w) [(Str.ofString "confirmed", .bool c), (Str.ofString "shown", .bool sh), (Str.ofString "keys", .bool ky), (Str.ofString "blocked", .bool bl), (Str.ofString "spaces", .ref sp), (Str.ofString "asked", .ref as), (Str.ofString "losses", .ref lo), (Str.ofString "count", .int n tc)]) (ha : oas.IsDictOf (Dz w) (tri v1 v2 v3)) (g1 : OV v1 a1) (g2 : OV v2 a2) (g3 : OV v3 a3) (hn0 : 0 ≤ n) (hn3 : n < 3) (hb0 : 0 ≤ b) (hb1 : b < 1000) (hsz : ys.size ≤ 100) (hD : ∀ p ∈ (L + 1, oc) :: (fd, ofd) :: (as, oas) :: rest, p.1 ≠ D)
    (hret : ∀ ys' k' nw h' tk', Fr h₀ L h' m → News h₀ L h' ((D, listOf ys' k') :: (nw ++ (L + 1, oc) :: (fd, ofd) :: (as, oas) :: rest)) → (∀ p ∈ nw, ∀ q ∈ (D, listOf ys k) :: (L + 1, oc) :: (fd, ofd) :: (as, oas) :: rest, q.1 ≠ p.1) → (∃ zs, ys'.toList = ys.toList ++ zs ∧ ERows nw zs (fallO b now n sh ky a1 a2 a3)) → wpAny (model PySem.Challenge.rw_no0077_01.row.prog w) (ktrTop dp un gd (Str.ofString "_law_due") (fnScope 28) L 274 (.ref 273) (cellsFrom (L + 1) (fnScope 28).names []) outer) (execs tl (envOfC (Str.ofString "_law_due") (fnScope 28) L 274 (.ref 273))) Q E { s with heap := h', toks := tk' }),
    wpAny (model PySem.Challenge.rw_no0077_01.row.prog w) (ktrTop dp un gd (Str.ofString "_law_due") (fnScope 28) L 274 (.ref 273) (cellsFrom (L + 1) (fnScope 28).names []) outer) (execs ((stAt (ifBody (stAt (fnBody 28) 2)) 1) :: tl) (envOfC (Str.ofString "_law_due") (fnScope 28) L 274 (.ref 273))) Q E s := by
  k_fill
  intro w mean mg mb dp un gd outer A₀ base h₀ L m s tl Q E rest D fd sp as lo ofd oc oas ys k b d now n tb td tn tc c sh ky bl v1 v2 v3 a1 a2 a3 B F X N T hdp hu r1 r2 r4 hc hf ha g1 g2 g3 hn0 hn3 hb0 hb1 hsz hD hret
  walk_at "zwi"
  simp only [List.forall_mem_cons] at hD
  obtain ⟨hD1, hD2, hD3, hD4⟩ := hD
  k_steps
  (show wpAny _ _ _ _ _ _)
  refine' comp_e (pA a1 a2 a3) (fun v y => y = v) F ?q1 ?q2 ?q3 ?q4 ?q5 ?q6 ?q7
  case q1 => with_unfolding_all rfl
  case q2 => decide
  case q3 => with_unfolding_all rfl
  case q4 => decide
  case q5 => with_unfolding_all rfl
  case q7 => intro _; with_unfolding_all rfl
  k_steps
  (show wpAny _ _ (call (Value.ref 240) []) _ _ _)
  k_dflt ((refine' names_call (N := ?N) ?B ?F ?X ?T ?k ?d ?u ?_; (case N => k_asm); (case B => k_asm); (case F => k_asm); (case X => k_asm); (case T => k_asm); (case k => exact rfl); (case d => walk_at "zr"); (case u => walk_at "zu"); k_whole); intro ax t1 t2 t3 h1 tk1 F1 N1 aX; (try dsimp only); (try k_sweep))
  (simp only [AllLt] at aX); walk_at "zc"
  k_steps
  refine' ⟨nmL t1 t2 t3, _, _, Src.list (by rfl) F1 N1 (News.isList N1 (by k_mem)) (Nat.le_of_ble_eq_true rfl), ⟨?t, ?e⟩, ?q⟩
  case t =>
    intro C v s₂ m₂ E' hv hn hm F2 N2
    clear N1
    rcases List.mem_cons.mp hv with rfl | hv
    · k_steps
      all_goals first | exact rfl | exact ⟨_, _, rfl, fun _ _ e => e⟩
    rcases List.mem_cons.mp hv with rfl | hv
    · k_steps
      all_goals first | exact rfl | exact ⟨_, _, rfl, fun _ _ e => e⟩
    rw [List.mem_singleton.mp hv] at hm ⊢
    k_steps
    all_goals first | exact rfl | exact ⟨_, _, rfl, fun _ _ e => e⟩
  case e =>
    intro C v s₂ m₂ E' hv hp hn hm F2 N2
    clear N1
    rcases List.mem_cons.mp hv with rfl | hv
    · k_steps
      all_goals first | exact rfl | exact ⟨_, _, rfl, fun _ _ e => e⟩
    rcases List.mem_cons.mp hv with rfl | hv
    · k_steps
      all_goals first | exact rfl | exact ⟨_, _, rfl, fun _ _ e => e⟩
    rw [List.mem_singleton.mp hv] at hm ⊢
    k_steps
    all_goals first | exact rfl | exact ⟨_, _, rfl, fun _ _ e => e⟩
  case q =>
    intro D5 ys5 k3 h3 tk3 N3 ne3 hP3 F3
    have hy := paired_eq hP3
    subst hy
    have hz : ((List.filter (pA a1 a2 a3) (nmL t1 t2 t3)).toArray.size == 0) = (!(a1.isSome || (a2.isSome || a3.isSome))) := by
      simp only [List.filter_cons, List.filter_nil, pA]
      cases a1 <;> cases a2 <;> cases a3 <;> rfl
    simp only [List.forall_mem_cons] at ne3
    walk_at "zc"
    clear N1
    k_steps
    all_goals (try dsimp only)
    · (rename Fr _ _ _ _ => kF); (rename News _ _ _ _ => kN); (rename sh = true => e1)
      refine' hret ys k [] _ _ kF (News.sub kN ?zk1) (fun p hp => (List.not_mem_nil hp).elim) ⟨[], (List.append_nil _).symm, ?zr1⟩
      case zk1 => exact (by walk_at "zs")
      case zr1 =>
        simp only [fallO, e1, Bool.not_true, Bool.and_false, Bool.false_and, Bool.false_eq_true, if_false]
        exact .nil
    · (rename Fr _ _ _ _ => kF); (rename News _ _ _ _ => kN); (rename (_ == 0) = true => e0); rw [hz] at e0; (rename sh = false => e1); (rename ky = true => e2)
      refine' hret _ _ [(_, _)] _ _ kF (News.sub kN ?zk2) ?zd2 ⟨[.ref _], ?ze2, ?zr2⟩
      case zk2 => exact (by walk_at "zs")
      case zd2 =>
        intro p hp
        rw [List.mem_singleton.mp hp]
        simp only [List.forall_mem_cons]
        exact ⟨Nat.ne_of_lt (by assumption), Nat.ne_of_lt (by assumption), Nat.ne_of_lt (by assumption), Nat.ne_of_lt (by assumption), all_ne_of_lt (by assumption)⟩
      case ze2 => rw [Array.toList_push]
      case zr2 =>
        simp only [fallO, e0, e1, e2, Bool.not_false, Bool.and_true, Bool.false_eq_true, if_true, if_false]
        exact .cons ⟨_, _, _, _, _, _, rfl, .head _⟩ .nil
    · (rename Fr _ _ _ _ => kF); (rename News _ _ _ _ => kN); (rename (_ == 0) = true => e0); rw [hz] at e0; (rename sh = false => e1); (rename ky = false => e2)
      refine' hret _ _ [(_, _)] _ _ kF (News.sub kN ?zk3) ?zd3 ⟨[.ref _], ?ze3, ?zr3⟩
      case zk3 => exact (by walk_at "zs")
      case zd3 =>
        intro p hp
        rw [List.mem_singleton.mp hp]
        simp only [List.forall_mem_cons]
        exact ⟨Nat.ne_of_lt (by assumption), Nat.ne_of_lt (by assumption), Nat.ne_of_lt (by assumption), Nat.ne_of_lt (by assumption), all_ne_of_lt (by assumption)⟩
      case ze3 => rw [Array.toList_push]
      case zr3 =>
        simp only [fallO, e0, e1, e2, Bool.not_false, Bool.and_true, Bool.false_eq_true, if_true, if_false]
        exact .cons ⟨_, _, _, _, _, _, rfl, .head _⟩ .nil
    · (rename Fr _ _ _ _ => kF); (rename News _ _ _ _ => kN); (rename (_ == 0) = false => e1); rw [hz] at e1
      refine' hret ys k [] _ _ kF (News.sub kN ?zk4) (fun p hp => (List.not_mem_nil hp).elim) ⟨[], (List.append_nil _).symm, ?zr4⟩
      case zk4 => exact (by walk_at "zs")
      case zr4 =>
        simp only [fallO, e1, Bool.not_true, Bool.and_false, Bool.false_and, Bool.false_eq_true, if_false]
        exact .nil
end
section
local macro_rules | `(tactic| walk_at "subscriptTail") => `(tactic| walk_at "z18")
local macro_rules | `(tactic| walk_at "compareOp Eq ref ref") => `(tactic| walk_at "z19")
set_option maxHeartbeats 8000000 in
theorem d_if2 : ∀ {w : World} {mean : ExcName → Option Value} {mg mb : Str → Option Value} {dp un : Nat} {gd : Option (List Code)} {outer : List Env} {A₀ : Around} {base h₀ : Heap} {L : Addr} {m : Str → Option Value} {s : Shared} {tl : List Stmt} {Q : Flow → Shared → Prop} {E : Value → Shared → Prop} {rest : List (Addr × Obj)} {D fd sp as lo : Addr} {ofd oc : Obj} {ys : Array Value} {k : Nat} {n : Int} {tc : Tok} {c sh ky bl : Bool} {body : List Stmt} {pos : Pos}
    (B : Below A₀ base outer h₀) (F : Fr h₀ L s.heap m) (X : (heapK w.params).In h₀) (N : News h₀ L s.heap ((D, listOf ys k) :: (L + 1, oc) :: (fd, ofd) :: rest)) (T : Top vw (looseW vw []) mean mg mb h₀) (hdp : dp < 360) (hu : un < 360)
    (r1 : m (Str.ofString "some") = some (.ref D)) (hc : oc.data = .cell (some (.ref fd))) (hf : ofd.IsDictOf (Dz w) [(Str.ofString "confirmed", .bool c), (Str.ofString "shown", .bool sh), (Str.ofString "keys", .bool ky), (Str.ofString "blocked", .bool bl), (Str.ofString "spaces", .ref sp), (Str.ofString "asked", .ref as), (Str.ofString "losses", .ref lo), (Str.ofString "count", .int n tc)]) (hyes : ys.size = 0 → bl = false → ∀ h' tk', Fr h₀ L h' m → News h₀ L h' ((D, listOf ys k) :: (L + 1, oc) :: (fd, ofd) :: rest) → wpAny (model PySem.Challenge.rw_no0077_01.row.prog w) (ktrTop dp un gd (Str.ofString "_law_due") (fnScope 28) L 274 (.ref 273) (cellsFrom (L + 1) (fnScope 28).names []) outer) (execs body (envOfC (Str.ofString "_law_due") (fnScope 28) L 274 (.ref 273))) (fun f s' => match f with | .next => wpAny (model PySem.Challenge.rw_no0077_01.row.prog w) (ktrTop dp un gd (Str.ofString "_law_due") (fnScope 28) L 274 (.ref 273) (cellsFrom (L + 1) (fnScope 28).names []) outer) (execs tl (envOfC (Str.ofString "_law_due") (fnScope 28) L 274 (.ref 273))) Q E s' | f => Q f s') E { s with heap := h', toks := tk' })
    (hret : (ys.size == 0 && !bl) = false → ∀ h' tk', Fr h₀ L h' m → News h₀ L h' ((D, listOf ys k) :: (L + 1, oc) :: (fd, ofd) :: rest) → wpAny (model PySem.Challenge.rw_no0077_01.row.prog w) (ktrTop dp un gd (Str.ofString "_law_due") (fnScope 28) L 274 (.ref 273) (cellsFrom (L + 1) (fnScope 28).names []) outer) (execs tl (envOfC (Str.ofString "_law_due") (fnScope 28) L 274 (.ref 273))) Q E { s with heap := h', toks := tk' }),
    wpAny (model PySem.Challenge.rw_no0077_01.row.prog w) (ktrTop dp un gd (Str.ofString "_law_due") (fnScope 28) L 274 (.ref 273) (cellsFrom (L + 1) (fnScope 28).names []) outer) (execs (.If (ifTest (stAt (fnBody 28) 2)) body [] pos :: tl) (envOfC (Str.ofString "_law_due") (fnScope 28) L 274 (.ref 273))) Q E s := by
  k_fill
  intro w mean mg mb dp un gd outer A₀ base h₀ L m s tl Q E rest D fd sp as lo ofd oc ys k n tc c sh ky bl body pos B F X N T hdp hu r1 hc hf hyes hret
  conv in (ifTest (stAt (fnBody 28) 2)) => whnf
  k_steps
  all_goals (try dsimp only)
  all_goals ((rename Fr _ _ _ _ => kF); (rename News _ _ _ _ => kN); (rename (_ == 0) = _ => e0))
  · (rename bl = true => e2)
    exact hret (by rw [e2]; exact Bool.and_false _) _ _ kF (News.sub kN (by walk_at "zs"))
  · (rename bl = false => e2)
    exact hyes (eq_of_beq e0) e2 _ _ kF (News.sub kN (by walk_at "zs"))
  · exact hret (by rw [e0]; rfl) _ _ kF (News.sub kN (by walk_at "zs"))
end
/-- a sort's tree run over a pure order -/
def kRun {α : Type} (c : Nat → Nat → Bool) : KasT α → α
  | .ret a => a
  | .ask i j k => kRun c (k (c i j))
/-- all its questions are of two places of the list -/
def kOk {α : Type} (n : Nat) : KasT α → Bool
  | .ret _ => true
  | .ask i j k => decide (i < n) && decide (j < n) && (i != j) && kOk n (k true) && kOk n (k false)
theorem kOk_ask {α : Type} {n i j : Nat} {k : Bool → KasT α} (h : kOk n (.ask i j k) = true) : i < n ∧ j < n ∧ i ≠ j ∧ ∀ b, kOk n (k b) = true := by
  simp only [kOk, Bool.and_eq_true, decide_eq_true_eq, bne_iff_ne] at h
  obtain ⟨⟨⟨⟨h1, h2⟩, h3⟩, h4⟩, h5⟩ := h
  exact ⟨h1, h2, h3, fun b => by cases b <;> assumption⟩
theorem kRun_wp {α : Type} {n : Nat} {c : Nat → Nat → Bool} {cmp : Nat → Nat → (Bool → Shared → Prop) → Shared → Prop} {s : Shared} {Q : α → Shared → Prop} (hc : ∀ i j, i < n → j < n → i ≠ j → ∀ C, C (c i j) s → cmp i j C s) :
    ∀ t : KasT α, kOk n t = true → Q (kRun c t) s → t.kasWp cmp Q s
  | .ret _, _, h => h
  | .ask i j k, ok, h => by
    obtain ⟨h1, h2, h3, h4⟩ := kOk_ask ok
    exact hc i j h1 h2 h3 _ (kRun_wp hc (k (c i j)) (h4 _) h)
theorem kRun_congr {α : Type} {n : Nat} {c c' : Nat → Nat → Bool} (e : ∀ i j, i < n → j < n → i ≠ j → c i j = c' i j) : ∀ t : KasT α, kOk n t = true → kRun c t = kRun c' t
  | .ret _, _ => rfl
  | .ask i j k, ok => by
    obtain ⟨h1, h2, h3, h4⟩ := kOk_ask ok
    show kRun c (k (c i j)) = kRun c' (k (c' i j))
    rw [e i j h1 h2 h3]
    exact kRun_congr e _ (h4 _)
def tab (b1 b2 b3 : Bool) (i j : Nat) : Bool := match i, j with
  | 0, 1 => b1
  | 1, 0 => !b1
  | 0, 2 => b2
  | 2, 0 => !b2
  | 1, 2 => b3
  | 2, 1 => !b3
  | _, _ => false
theorem ok2 : kOk 2 (kas_sort 2) = true := by decide +kernel
theorem ok3 : kOk 3 (kas_sort 3) = true := by decide +kernel
theorem tab2 : ∀ b1 : Bool, (kRun (tab b1 false false) (kas_sort 2)).toList = if b1 = true then [0, 1] else [1, 0] := by decide +kernel
theorem tab3 : ∀ b1 b2 b3 : Bool, (b1 && b3 && !b2) = false → (!b1 && !b3 && b2) = false →
    (kRun (tab b1 b2 b3) (kas_sort 3)).toList.head? = some (if (b1 && b2) = true then 0 else if (!b1 && b3) = true then 1 else 2) := by decide +kernel
/-- rows by time and place -/
def lessR (e f : Int × Int × Str × Str) : Bool := decide (e.1 < f.1) || (e.1 == f.1 && decide (e.2.1 < f.2.1))
section
variable {prog : Program} {w : World} {A : Around} {E : Value → Shared → Prop} {s : Shared} {h₀ : Heap} {L : Addr} {m : Str → Option Value} {news : List (Addr × Obj)}
theorem row_lt {v u : Value} {e f : Int × Int × Str × Str} {C : Bool → Shared → Prop} (N : News h₀ L s.heap news) (hv : ERow news v e) (hu : ERow news u f) (hne : e.2.1 ≠ f.2.1) (h : C (lessR e f) s) :
    wpAny (model prog w) A (keyLt' (tuples' true) v u) C E s := by
  obtain ⟨T, t1, t2, t3, t4, q, rfl, mT⟩ := hv
  obtain ⟨U, u1, u2, u3, u4, r, rfl, mU⟩ := hu
  refine kat_lt (N _ mT).1 rfl (N _ mU).1 rfl ?_
  refine kat_cons (wpAny_eqBool_int (kat_go (fun e1 => ?_) (fun e1 => ?_)))
  · refine kat_yes (kat_cons (wpAny_eqBool_int ?_))
    have e2 : (e.2.1 == f.2.1) = false := by simp [hne]
    rw [e2]
    refine kat_no ?_
    show wpAny _ _ (oneLt' false _ _) _ _ _
    refine kat_one _ _ (lt_int ?_)
    show C (decide (e.2.1 < f.2.1)) s
    have hl : lessR e f = decide (e.2.1 < f.2.1) := by
      have e3 : e.1 = f.1 := eq_of_beq e1
      unfold lessR
      rw [e1, e3]
      simp
    rw [← hl]; exact h
  · refine kat_no ?_
    show wpAny _ _ (oneLt' true _ _) _ _ _
    refine oneLt_int ?_
    have hl : lessR e f = decide (e.1 < f.1) := by
      unfold lessR
      rw [e1]
      simp
    rw [← hl]; exact h
theorem rows_kind {vs : List Value} {es : List (Int × Int × Str × Str)} (N : News h₀ L s.heap news) (r : ERows news vs es) : ∃ fs : List Value, KatTups s.heap vs fs ∧ fs.length = es.length ∧ ∀ v ∈ fs, ∃ n t, v = .int n t := by
  induction r with
  | nil => exact ⟨[], KatTups.nil, rfl, fun v hv => (List.not_mem_nil hv).elim⟩
  | cons h _ ih =>
    obtain ⟨fs, g1, g2, g3⟩ := ih
    obtain ⟨T, t1, t2, t3, t4, q, rfl, mT⟩ := h
    exact ⟨_ :: fs, KatTups.cons (N _ mT).1 rfl rfl rfl g1, congrArg (· + 1) g2, List.forall_mem_cons.mpr ⟨⟨_, _, rfl⟩, g3⟩⟩
theorem rows_keyKind {vs : List Value} {es : List (Int × Int × Str × Str)} {Q : SortKind → Shared → Prop} (N : News h₀ L s.heap news) (r : ERows news vs es) (hne : 0 < es.length) (h : Q (tuples' true) s) : wpAny (model prog w) A (keyKind' vs.toArray) Q E s := by
  obtain ⟨fs, g1, g2, g3⟩ := rows_kind N r
  refine kat_kind (T := .type "int") g1 (by omega) (fun v hv => ?_) (by rfl) ?_
  · obtain ⟨n, t, rfl⟩ := g3 v hv
    exact Looks.now
  · exact h
/-- the places ascend -/
def Asc (es : List (Int × Int × Str × Str)) : Prop := es.Pairwise fun e f => e.2.1 < f.2.1
/-- the least row: of like times, the first -/
def leastR : List (Int × Int × Str × Str) → Option (Int × Int × Str × Str)
  | [] => none
  | e :: r => some (r.foldl (fun a b => if b.1 < a.1 then b else a) e)
theorem erow_get {vs : List Value} {es : List (Int × Int × Str × Str)} (r : ERows news vs es) : ∀ {i : Nat} {e : Int × Int × Str × Str}, es[i]? = some e → ERow news (vs.getD i .none) e := by
  induction r with
  | nil => intro i e h; simp at h
  | cons hd _ ih =>
    intro i e h
    cases i with
    | zero => simp at h; subst h; simpa using hd
    | succ i => simp at h; simpa using ih h
end
theorem less_asc {e f : Int × Int × Str × Str} (h : e.2.1 < f.2.1) : lessR e f = decide (e.1 ≤ f.1) ∧ lessR f e = !decide (e.1 ≤ f.1) := by
  unfold lessR
  by_cases h1 : e.1 < f.1
  · have a : e.1 ≤ f.1 := by omega
    have b : ¬ f.1 < e.1 := by omega
    have c : (f.1 == e.1) = false := by simp; omega
    simp [h1, a, b, c]
  · by_cases h2 : e.1 = f.1
    · have b : ¬ f.2.1 < e.2.1 := by omega
      simp [h2, h, b]
    · have a : ¬ e.1 ≤ f.1 := by omega
      have b : f.1 < e.1 := by omega
      simp [h1, h2, a, b]
def cOf (es : List (Int × Int × Str × Str)) (i j : Nat) : Bool := match es[i]?, es[j]? with
  | some e, some f => lessR e f
  | _, _ => false
theorem head2 {e f : Int × Int × Str × Str} (h : e.2.1 < f.2.1) : ∃ i g, (kRun (cOf [e, f]) (kas_sort 2)).toList.head? = some i ∧ [e, f][i]? = some g ∧ leastR [e, f] = some g := by
  obtain ⟨l1, l2⟩ := less_asc h
  have e0 : kRun (cOf [e, f]) (kas_sort 2) = kRun (tab (decide (e.1 ≤ f.1)) false false) (kas_sort 2) := by
    refine kRun_congr (n := 2) (fun i j hi hj hne => ?_) _ ok2
    match i, j, hi, hj, hne with
    | 0, 0, _, _, hne => exact absurd rfl hne
    | 0, 1, _, _, _ => exact l1
    | 1, 0, _, _, _ => exact l2
    | 1, 1, _, _, hne => exact absurd rfl hne
    | i + 2, _, hi, _, _ => omega
    | _, j + 2, _, hj, _ => omega
  rw [e0, tab2]
  by_cases hle : e.1 ≤ f.1
  · refine ⟨0, e, by simp [hle], rfl, ?_⟩
    have : ¬ f.1 < e.1 := by omega
    simp [leastR, this]
  · refine ⟨1, f, by simp [hle], rfl, ?_⟩
    have : f.1 < e.1 := by omega
    simp [leastR, this]
theorem head3 {e f g : Int × Int × Str × Str} (h1 : e.2.1 < f.2.1) (h2 : f.2.1 < g.2.1) : ∃ i x, (kRun (cOf [e, f, g]) (kas_sort 3)).toList.head? = some i ∧ [e, f, g][i]? = some x ∧ leastR [e, f, g] = some x := by
  obtain ⟨l1, l2⟩ := less_asc h1
  obtain ⟨l3, l4⟩ := less_asc h2
  obtain ⟨l5, l6⟩ := less_asc (Int.lt_trans h1 h2)
  have e0 : kRun (cOf [e, f, g]) (kas_sort 3) = kRun (tab (decide (e.1 ≤ f.1)) (decide (e.1 ≤ g.1)) (decide (f.1 ≤ g.1))) (kas_sort 3) := by
    refine kRun_congr (n := 3) (fun i j hi hj hne => ?_) _ ok3
    match i, j, hi, hj, hne with
    | 0, 0, _, _, hne => exact absurd rfl hne
    | 0, 1, _, _, _ => exact l1
    | 1, 0, _, _, _ => exact l2
    | 0, 2, _, _, _ => exact l5
    | 2, 0, _, _, _ => exact l6
    | 1, 2, _, _, _ => exact l3
    | 2, 1, _, _, _ => exact l4
    | 1, 1, _, _, hne => exact absurd rfl hne
    | 2, 2, _, _, hne => exact absurd rfl hne
    | i + 3, _, hi, _, _ => omega
    | _, j + 3, _, hj, _ => omega
  rw [e0, tab3]
  · by_cases a : e.1 ≤ f.1 <;> by_cases b : e.1 ≤ g.1 <;> by_cases c : f.1 ≤ g.1 <;> simp only [a, b, c, decide_true, decide_false, Bool.and_true, Bool.and_false, Bool.not_true, Bool.not_false, Bool.true_and, Bool.false_and, if_true, if_false, Bool.false_eq_true]
    all_goals first | omega | skip
    · refine ⟨0, e, rfl, rfl, ?_⟩
      have q1 : ¬ f.1 < e.1 := by omega
      have q2 : ¬ g.1 < e.1 := by omega
      simp [leastR, q1, q2]
    · refine ⟨0, e, rfl, rfl, ?_⟩
      have q1 : ¬ f.1 < e.1 := by omega
      have q2 : ¬ g.1 < e.1 := by omega
      simp [leastR, q1, q2]
    · refine ⟨2, g, rfl, rfl, ?_⟩
      have q1 : ¬ f.1 < e.1 := by omega
      have q2 : g.1 < e.1 := by omega
      simp [leastR, q1, q2]
    · refine ⟨1, f, rfl, rfl, ?_⟩
      have q1 : f.1 < e.1 := by omega
      have q2 : ¬ g.1 < f.1 := by omega
      simp [leastR, q1, q2]
    · refine ⟨1, f, rfl, rfl, ?_⟩
      have q1 : f.1 < e.1 := by omega
      have q2 : ¬ g.1 < f.1 := by omega
      simp [leastR, q1, q2]
    · refine ⟨2, g, rfl, rfl, ?_⟩
      have q1 : f.1 < e.1 := by omega
      have q2 : g.1 < f.1 := by omega
      simp [leastR, q1, q2]
  · by_cases a : e.1 ≤ f.1 <;> by_cases b : e.1 ≤ g.1 <;> by_cases c : f.1 ≤ g.1 <;> simp [a, b, c] <;> omega
  · by_cases a : e.1 ≤ f.1 <;> by_cases b : e.1 ≤ g.1 <;> by_cases c : f.1 ≤ g.1 <;> simp [a, b, c] <;> omega
theorem erows_len0 {led : List (Addr × Obj)} : ∀ {vs : List Value} {es : List (Int × Int × Str × Str)}, ERows led vs es → vs.length = es.length
  | _, _, .nil => rfl
  | _, _, .cons _ r => congrArg (· + 1) (erows_len0 r)
theorem len_two {α : Type} {l : List α} (h2 : 2 ≤ l.length) (h3 : l.length ≤ 3) : (∃ e f, l = [e, f]) ∨ ∃ e f g, l = [e, f, g] := by
  rcases l with _ | ⟨e, _ | ⟨f, _ | ⟨g, _ | ⟨x, r⟩⟩⟩⟩
  · exact absurd h2 (Nat.not_succ_le_zero _)
  · exact absurd h2 (Nat.not_succ_le_self 1)
  · exact .inl ⟨_, _, rfl⟩
  · exact .inr ⟨_, _, _, rfl⟩
  · exact absurd h3 (Nat.not_le_of_lt (Nat.le_add_left 4 r.length))
theorem len_one {α : Type} {l : List α} (h1 : 1 ≤ l.length) (h2 : l.length ≤ 1) : ∃ e, l = [e] := by
  rcases l with _ | ⟨e, _ | ⟨f, r⟩⟩
  · exact absurd h1 (Nat.not_succ_le_zero _)
  · exact ⟨_, rfl⟩
  · exact absurd h2 (Nat.not_le_of_lt (Nat.le_add_left 2 r.length))
theorem head_of {es : List (Int × Int × Str × Str)} (asc : Asc es) (h2 : 2 ≤ es.length) (h3 : es.length ≤ 3) : kOk es.length (kas_sort es.length) = true ∧ ∃ i g, (kRun (cOf es) (kas_sort es.length)).toList.head? = some i ∧ es[i]? = some g ∧ leastR es = some g := by
  rcases len_two h2 h3 with ⟨e, f, rfl⟩ | ⟨e, f, g, rfl⟩
  · exact ⟨ok2, head2 ((List.pairwise_cons.mp asc).1 f (.head _))⟩
  · exact ⟨ok3, head3 ((List.pairwise_cons.mp asc).1 f (.head _)) ((List.pairwise_cons.mp (List.pairwise_cons.mp asc).2).1 g (.head _))⟩
theorem asc_ne {es : List (Int × Int × Str × Str)} (asc : Asc es) : ∀ {i j : Nat} {e f : Int × Int × Str × Str}, es[i]? = some e → es[j]? = some f → i ≠ j → e.2.1 ≠ f.2.1 := by
  induction es with
  | nil => intro i j e f h; simp at h
  | cons x r ih =>
    intro i j e f hi hj hne
    obtain ⟨a1, a2⟩ := List.pairwise_cons.mp asc
    cases i with
    | zero =>
      cases j with
      | zero => exact absurd rfl hne
      | succ j =>
        simp at hi hj; subst hi
        exact Int.ne_of_lt (a1 f (List.mem_of_getElem? hj))
    | succ i =>
      cases j with
      | zero =>
        simp at hi hj; subst hj
        exact Int.ne_of_gt (a1 e (List.mem_of_getElem? hi))
      | succ j =>
        simp at hi hj
        exact ih a2 hi hj (fun q => hne (by rw [q]))
section
variable {prog : Program} {w : World} {A : Around} {E : Value → Shared → Prop} {s : Shared} {h₀ : Heap} {L : Addr} {m : Str → Option Value} {news : List (Addr × Obj)}
theorem sorted_many {l : Addr} {ys : Array Value} {k : Nat} {es : List (Int × Int × Str × Str)} {Q : Value → Shared → Prop} (F : Fr h₀ L s.heap m) (N : News h₀ L s.heap news) (hm : (l, W.listOf ys k) ∈ news) (r : ERows news ys.toList es) (asc : Asc es) (h2 : 2 ≤ es.length) (h3 : es.length ≤ 3)
    (h : ∀ D out c h' e v, Fr h₀ L h' m → News h₀ L h' ((D, W.listOf (List.toArray out) c) :: news) → (∀ q ∈ news, q.1 < D) → leastR es = some e → out.head? = some v → ERow news v e → Q (.ref D) { s with heap := h' }) :
    wpAny (model prog w) A (call (.builtin "sorted") [.ref l]) Q E s := by
  have hlen : ys.toList.length = es.length := erows_len0 r
  have hl : s.heap.IsList l ys.toList.toArray := by rw [Array.toArray_toList]; exact News.isList N hm
  refine kat_sorted F N hl (by omega) (by omega) fun D e1 h' F' N' hlt => ?_
  have N2 : News h₀ L h' news := fun p hp => N' p (.tail _ hp)
  refine rows_keyKind (s := { s with heap := h' }) N2 r (by omega) ?_
  rw [hlen]
  obtain ⟨ok, i, g, g1, g2, g3⟩ := head_of asc h2 h3
  refine kRun_wp (n := es.length) (c := cOf es) (fun a b ha hb hne C hC => ?_) _ ok ?_
  · show wpAny _ _ (keyLt' _ (ys.toList.getD a .none) (ys.toList.getD b .none)) C _ _
    have ea := List.getElem?_eq_getElem ha
    have eb := List.getElem?_eq_getElem hb
    refine row_lt (s := { s with heap := h' }) N2 (erow_get r ea) (erow_get r eb) (asc_ne asc ea eb hne) ?_
    have : cOf es a b = lessR es[a] es[b] := by unfold cOf; rw [ea, eb]
    rw [← this]; exact hC
  · refine KasFin.intro F' N' (.head fun p hp => Nat.ne_of_lt (hlt p hp)) fun h3 c F3 N3 => ?_
    refine h D _ c h3 g (ys.toList.getD i .none) F3 N3 hlt g3 ?_ (erow_get r g2)
    rw [List.head?_map, g1]; rfl
/-- a list of one item, sorted -/
theorem sorted_one {l : Addr} {v : Value} {Q : Value → Shared → Prop} (F : Fr h₀ L s.heap m) (N : News h₀ L s.heap news) (hl : s.heap.IsList l #[v])
    (h : ∀ D c h', Fr h₀ L h' m → News h₀ L h' ((D, W.listOf #[v] c) :: news) → (∀ q ∈ news, q.1 < D) → Q (.ref D) { s with heap := h' }) :
    wpAny (model prog w) A (call (.builtin "sorted") [.ref l]) Q E s := by
  refine Calls.call_function_entry kind_sorted plain_sorted entry_sorted (args_sorted1 _) ?_
  unfold Builtin.«sorted»
  refine wpAny_bind (m := checkCount "sorted" 1 1 _) (wpAny_pure ?_)
  refine wpAny_bind (collect_list hl ?_ (by rw [sizeLine_eq]; exact Nat.le_of_ble_eq_true rfl))
  refine wpAny_bind (wpAny_newList ?_ (by rw [sizeLine_eq]; exact Nat.le_of_ble_eq_true rfl))
  have hsz : ((s.heap.push (seqObj "list" #[] 0)).update s.heap.objs.size (Obj.mapSeq (· ++ #[v]))).objs.size = s.heap.objs.size + 1 := by
    rw [Heap.size_update, size_push']
  have hoL : (((s.heap.push (seqObj "list" #[] 0)).update s.heap.objs.size (Obj.mapSeq (· ++ #[v]))).push (seqObj "list" #[v] 0)).get? (s.heap.objs.size + 1) = some (seqObj "list" #[v] 0) := by
    rw [← hsz]; exact Heap.get?_push_size _ rfl
  have keep : ∀ b o, s.heap.get? b = some o → (((s.heap.push (seqObj "list" #[] 0)).update s.heap.objs.size (Obj.mapSeq (· ++ #[v]))).push (seqObj "list" #[v] 0)).get? b = some o := fun b o q => by
    have hlt : b < s.heap.objs.size := Heap.lt_size q
    rw [Heap.get?_push_ne _ _ _ (by rw [hsz]; exact Nat.ne_of_lt (Nat.lt_succ_of_lt hlt)), Heap.get?_update_ne _ _ _ _ (Nat.ne_of_lt hlt), Heap.get?_push_ne _ _ _ (Nat.ne_of_lt hlt)]
    exact q
  have hL : L < s.heap.objs.size := F.ns.lt
  show wpAny _ _ _ _ _ { s with heap := ((s.heap.push (seqObj "list" #[] 0)).update s.heap.objs.size (Obj.mapSeq (· ++ #[v]))).push (seqObj "list" #[v] 0) }
  rw [hsz]
  generalize ((s.heap.push (seqObj "list" #[] 0)).update s.heap.objs.size (Obj.mapSeq (· ++ #[v]))).push (seqObj "list" #[v] 0) = H at hoL keep ⊢
  have hDL : s.heap.objs.size + 1 ≠ L := Nat.ne_of_gt (Nat.lt_succ_of_lt hL)
  have hD0 : h₀.get? (s.heap.objs.size + 1) = none := Heap.get?_none_of_le (Nat.le_trans F.above (Nat.le_succ_of_le (Nat.le_of_lt hL)))
  have hlt : ∀ q ∈ news, q.1 < s.heap.objs.size + 1 := fun p hp => Nat.lt_succ_of_lt (Heap.lt_size (N p hp).1)
  have FH : Fr h₀ L H m := F.kept keep
  have NH : News h₀ L H news := N.grown keep
  generalize s.heap.objs.size + 1 = D at hoL hDL hD0 hlt ⊢
  refine wpAny_bind (wpAny_holding (wpAny_call_entry slot_list_sort ⟨_, hoL, rfl⟩ entry_list_sort ?body (args_list_sort _)))
  case body =>
    have s1 := Heap.SameBut.update H D (Obj.mapSeq fun _ => (#[] : Array Value))
    obtain ⟨e1, ho1⟩ : ∃ e1, (H.update D (Obj.mapSeq fun _ => (#[] : Array Value))).get? D = some (seqObj "list" #[] e1) := ⟨_, get?_update_seq hoL fun _ => #[]⟩
    rw [list_sort_plain]
    refine wpAny_bind (listItems_at (s := { s with heap := H }) hoL rfl ?_)
    refine wpAny_bind (listUpdate_at (s := { s with heap := H }) hoL rfl ?_ (by rw [sizeLine_eq]; exact Nat.le_of_ble_eq_true rfl) (Nat.zero_le _))
    refine wpAny_bind (seqEpoch_at (s := { s with heap := H.update D (Obj.mapSeq fun _ => (#[] : Array Value)) }) ho1 rfl ?_)
    refine wpAny_bind (wpAny_newTuple ?_ (by rw [sizeLine_eq]; exact Nat.le_of_ble_eq_true rfl))
    refine wpAny_bind (wpAny_newList ?_ (Nat.zero_le _))
    refine wpAny_holding ?_
    have F2 : Fr h₀ L (((H.update D (Obj.mapSeq fun _ => (#[] : Array Value))).push (seqObj "tuple" #[v] 0)).push (seqObj "list" #[] 0)) m := ((kas_fr FH s1 hDL hD0).push _).push _
    have N2 : News h₀ L (((H.update D (Obj.mapSeq fun _ => (#[] : Array Value))).push (seqObj "tuple" #[v] 0)).push (seqObj "list" #[] 0)) news :=
      (kas_news NH s1 fun p hp => Nat.ne_of_lt (hlt p hp)).grown fun b x e => Heap.get?_push_of_some _ (Heap.get?_push_of_some _ e)
    have ho2 : (((H.update D (Obj.mapSeq fun _ => (#[] : Array Value))).push (seqObj "tuple" #[v] 0)).push (seqObj "list" #[] 0)).get? D = some (seqObj "list" #[] e1) := Heap.get?_push_of_some _ (Heap.get?_push_of_some _ ho1)
    show wpAny (model prog w) A.in1.in1 _ _ _ { s with heap := ((H.update D (Obj.mapSeq fun _ => (#[] : Array Value))).push (seqObj "tuple" #[v] 0)).push (seqObj "list" #[] 0) }
    generalize ((H.update D (Obj.mapSeq fun _ => (#[] : Array Value))).push (seqObj "tuple" #[v] 0)).push (seqObj "list" #[] 0) = H2 at F2 N2 ho2 ⊢
    dsimp only
    have hn2 : (#[v] : Array Value).size < 2 := Nat.le_of_ble_eq_true rfl
    rw [if_pos hn2, if_pos hn2]
    refine wpAny_bind (wpAny_pure ?_)
    refine wpAny_bind (wpAny_pure ?_)
    dsimp only
    rw [show Array.map (fun x : Keyed => x.snd) (arrOf (SortSt.mk' general' (#[v].zip #[v]) #[] 7 none)) = #[v] by (show Array.map (fun x : Keyed => x.snd) (#[v].zip #[v]) = #[v]; simp)]
    have s2 := Heap.SameBut.update H2 D (Obj.mapSeq fun _ => (#[v] : Array Value))
    obtain ⟨c2, hc2⟩ : ∃ c2, (H2.update D (Obj.mapSeq fun _ => (#[v] : Array Value))).get? D = some (seqObj "list" #[v] c2) := ⟨_, get?_update_seq ho2 fun _ => #[v]⟩
    refine wpAny_bind (seqEpoch_at (s := { s with heap := H2 }) ho2 rfl ?_)
    refine wpAny_bind (listUpdate_at (s := { s with heap := H2 }) ho2 rfl ?_ (Nat.zero_le _) (by rw [sizeLine_eq]; exact Nat.le_of_ble_eq_true rfl))
    simp only [bne_self_eq_false, Bool.false_eq_true, if_false]
    refine wpAny_pure ⟨_, rfl, wpAny_pure ⟨_, rfl, ?_⟩⟩
    refine h D c2 _ (kas_fr F2 s2 hDL hD0) (fun p hp => ?_) hlt
    rcases List.mem_cons.mp hp with rfl | hp
    · exact ⟨hc2, hDL, hD0⟩
    · exact kas_news N2 s2 (fun p hp => Nat.ne_of_lt (hlt p hp)) p hp
theorem sorted_rows {l : Addr} {ys : Array Value} {k : Nat} {es : List (Int × Int × Str × Str)} {Q : Value → Shared → Prop} (F : Fr h₀ L s.heap m) (N : News h₀ L s.heap news) (hm : (l, W.listOf ys k) ∈ news) (r : ERows news ys.toList es) (asc : Asc es) (h1 : 1 ≤ es.length) (h3 : es.length ≤ 3)
    (h : ∀ D v out c h' e, Fr h₀ L h' m → News h₀ L h' ((D, W.listOf (List.toArray (v :: out)) c) :: news) → (∀ q ∈ news, q.1 < D) → leastR es = some e → ERow news v e → Q (.ref D) { s with heap := h' }) :
    wpAny (model prog w) A (call (.builtin "sorted") [.ref l]) Q E s := by
  rcases Nat.lt_or_ge 1 es.length with h2 | h2
  · refine sorted_many F N hm r asc h2 h3 fun D out c h' e v F' N' lt le hd hr => ?_
    cases out with
    | nil => cases hd
    | cons x o =>
      have : x = v := Option.some.inj hd
      subst this
      exact h D x o c h' e F' N' lt le hr
  · obtain ⟨e, rfl⟩ := len_one h1 h2
    have hy : ∃ v, ys.toList = [v] ∧ ERow news v e := by
      cases hl : ys.toList with
      | nil => rw [hl] at r; cases r
      | cons v t =>
        rw [hl] at r
        cases r with
        | cons a b =>
          cases b
          exact ⟨v, rfl, a⟩
    obtain ⟨v, hy, hr⟩ := hy
    have hl : s.heap.IsList l #[v] := by
      have := News.isList N hm
      rw [← Array.toArray_toList (xs := ys), hy] at this
      exact this
    exact sorted_one F N hl fun D c h' F' N' lt => h D v [] c h' e F' N' lt rfl hr
end
/-- time, name and kind of a row -/
def told3 (o : Option (Int × Int × Str × Str)) : Option (Int × Str × Str) := o.map fun e => (e.1, e.2.2.1, e.2.2.2)
section
variable {prog : Program} {w : World} {A : Around} {E : Value → Shared → Prop} {s : Shared} {h₀ : Heap} {L : Addr}
theorem item_first {value slice : PySem.Expr} {l : Addr} {news : List (Addr × Obj)} {v : Value} {out : List Value} {n : Nat} {u : Tok} {Q : Value → Shared → Prop} (N : News h₀ L s.heap news) (hm : (l, W.listOf (List.toArray (v :: out)) n) ∈ news) (h : Q v s)
    (hs : subscripted slice false (.ref l) (.int 0 u) = operate [.ref l, .int 0 u] (getItem (.ref l) (.int 0 u)) := by with_unfolding_all rfl) :
    wpAny (model prog w) A (subscriptTail value slice (.ref l) (.int 0 u)) Q E s := by
  have hl : s.heap.IsList l (List.toArray (v :: out)) := News.isList N hm
  exact tail_any hl.typeIs slot_list_getitem.lookup (wpAny_getItem_list hl (by decide) (by simp) (by rfl) h) hs
end
section
local macro_rules | `(tactic| walk_at "compareOp NotEq ref ref") => `(tactic| walk_at "z7")
local macro_rules | `(tactic| walk_at "call builtin:sorted") => `(tactic| (k_here; refine held ?_))
local macro_rules | `(tactic| walk_at "subscriptTail") => `(tactic| (k_here; (with_reducible show wpAny _ _ (subscriptTail _ _ (Value.ref _) (Value.int _ _)) _ _ _); k_dflt (refine' item_first ?N ?m ?x; (case N => k_asm); (case m => k_mem); k_whole)))
set_option maxHeartbeats 8000000 in
theorem d_ret : ∀ {w : World} {mean : ExcName → Option Value} {mg mb : Str → Option Value} {dp un : Nat} {gd : Option (List Code)} {outer : List Env} {A₀ : Around} {base h₀ : Heap} {L : Addr} {m : Str → Option Value} {s : Shared} {tl : List Stmt} {Q : Flow → Shared → Prop} {E : Value → Shared → Prop} {rest : List (Addr × Obj)} {D : Addr} {ys : Array Value} {k : Nat} {es : List (Int × Int × Str × Str)}
    (B : Below A₀ base outer h₀) (F : Fr h₀ L s.heap m) (X : (heapK w.params).In h₀) (N : News h₀ L s.heap ((D, listOf ys k) :: rest)) (T : Top vw (looseW vw []) mean mg mb h₀) (hdp : dp < 360) (hu : un < 360)
    (r1 : m (Str.ofString "some") = some (.ref D)) (hrow : ERows rest ys.toList es) (asc : Asc es) (hle : es.length ≤ 3)
    (hret : ∀ v new h' tk', Fr h₀ L h' m → News h₀ L h' (new ++ ((D, listOf ys k) :: rest)) → T3 new v (told3 (leastR es)) → (∀ p ∈ new, ∀ q ∈ (D, listOf ys k) :: rest, p.1 ≠ q.1) → Q (.ret v) { s with heap := h', toks := tk' }),
    wpAny (model PySem.Challenge.rw_no0077_01.row.prog w) (ktrTop dp un gd (Str.ofString "_law_due") (fnScope 28) L 274 (.ref 273) (cellsFrom (L + 1) (fnScope 28).names []) outer) (execs ((stAt (fnBody 28) 3) :: tl) (envOfC (Str.ofString "_law_due") (fnScope 28) L 274 (.ref 273))) Q E s := by
  k_fill
  intro w mean mg mb dp un gd outer A₀ base h₀ L m s tl Q E rest D ys k es B F X N T hdp hu r1 hrow asc hle hret
  walk_at "zwr"
  have hlen := erows_len0 hrow
  rw [Array.length_toList] at hlen
  k_steps
  · (rename (ys.size != 0) = true => e0)
    have hz : 0 < es.length := by
      rcases Nat.eq_zero_or_pos es.length with h | h
      · rw [hlen, h] at e0; cases e0
      · exact h
    (show wpAny _ _ (call (Value.builtin "sorted") _) _ _ _)
    (rename Fr _ _ _ _ => F1); (rename News _ _ _ _ => N1)
    refine' sorted_rows F1 N1 ?m1 (ERows.mono ?sb1 hrow) asc ?ln1 hle ?nx1
    case m1 => k_mem
    case ln1 => omega
    case sb1 => exact (by walk_at "zs")
    case nx1 =>
    intro D1 v1 out1 c1 hp1 e1 F1' N1' lt1 le1 hr1
    obtain ⟨T1, x11, x12, x13, x14, q1, rfl, mT1⟩ := hr1
    clear N1 F1
    have M1 := News.sub N1' (l' := (T1, _) :: _) (List.forall_mem_cons.mpr ⟨.tail _ mT1, fun p hp => hp⟩)
    clear N1'
    k_steps
    (show wpAny _ _ (call (Value.builtin "sorted") _) _ _ _)
    (rename Fr _ _ _ _ => F2); (rename News _ _ _ _ => N2)
    refine' sorted_rows F2 N2 ?m2 (ERows.mono ?sb2 hrow) asc ?ln2 hle ?nx2
    case m2 => k_mem
    case ln2 => omega
    case sb2 => exact (by walk_at "zs")
    case nx2 =>
    intro D2 v2 out2 c2 hp2 e2 F2' N2' lt2 le2 hr2
    obtain ⟨T2, x21, x22, x23, x24, q2, rfl, mT2⟩ := hr2
    clear N2 F2
    have M2 := News.sub N2' (l' := (T2, _) :: _) (List.forall_mem_cons.mpr ⟨.tail _ mT2, fun p hp => hp⟩)
    clear N2'
    k_steps
    (show wpAny _ _ (call (Value.builtin "sorted") _) _ _ _)
    (rename Fr _ _ _ _ => F3); (rename News _ _ _ _ => N3)
    refine' sorted_rows F3 N3 ?m3 (ERows.mono ?sb3 hrow) asc ?ln3 hle ?nx3
    case m3 => k_mem
    case ln3 => omega
    case sb3 => exact (by walk_at "zs")
    case nx3 =>
    intro D3 v3 out3 c3 hp3 e3 F3' N3' lt3 le3 hr3
    obtain ⟨T3, x31, x32, x33, x34, q3, rfl, mT3⟩ := hr3
    clear N3 F3
    have M3 := News.sub N3' (l' := (T3, _) :: _) (List.forall_mem_cons.mpr ⟨.tail _ mT3, fun p hp => hp⟩)
    clear N3'
    k_steps
    (try dsimp only); (rename Fr _ _ _ _ => kF); (rename News _ _ _ _ => kN)
    obtain rfl : e1 = e2 := Option.some.inj (le1.symm.trans le2)
    obtain rfl : e1 = e3 := Option.some.inj (le1.symm.trans le3)
    refine' hret _ [(_, ({ cls := .type "tuple", data := .seq #[.int e1.1 x11, .str e1.2.2.1 x23, .str e1.2.2.2 x34] } : Obj))] _ _ kF (News.sub kN ?zs) (.inr ⟨_, _, _, _, _, _, _, _, rfl, .head _, ?zt⟩) ?zu
    case zs =>
      intro p hp
      simp only [List.mem_cons, List.singleton_append] at hp ⊢
      rcases hp with h | h | h <;> simp only [h, true_or, or_true]
    case zt => rw [le1]; rfl
    case zu =>
      intro p hp
      rw [List.mem_singleton.mp hp]
      simp only [List.forall_mem_cons]
      exact ⟨Nat.ne_of_gt (by assumption), fun q hq => (all_ne_of_lt (by assumption) q hq).symm⟩
  · (rename Fr _ _ _ _ => kF); (rename News _ _ _ _ => kN); (rename (ys.size != 0) = false => e0)
    have hz : es = [] := by
      rcases Nat.eq_zero_or_pos es.length with h | h
      · exact List.eq_nil_of_length_eq_zero h
      · rw [hlen] at e0; simp at e0; omega
    subst hz
    exact hret .none [] _ _ kF (News.sub kN (fun p hp => .tail _ hp)) (.inl ⟨rfl, rfl⟩) (fun p hp => (List.not_mem_nil hp).elim)
end
def dueRows (b d n now : Int) (c sh ky bl : Bool) (a1 a2 a3 l1 l2 l3 : Option Int) : List (Int × Int × Str × Str) :=
  if ((lossUpto l1 l2 l3 3).length == 0 && !bl) = true then probeUpto b d n c a1 a2 a3 3 ++ fallO b now n sh ky a1 a2 a3 else lossUpto l1 l2 l3 3
theorem loss_asc (l1 l2 l3 : Option Int) : Asc (lossUpto l1 l2 l3 3) ∧ (lossUpto l1 l2 l3 3).length ≤ 3 := by
  cases l1 <;> cases l2 <;> cases l3 <;> simp [lossUpto, rowOf, Asc]
theorem probe_asc (b d n now : Int) (c sh ky : Bool) (a1 a2 a3 : Option Int) : Asc (probeUpto b d n c a1 a2 a3 3 ++ fallO b now n sh ky a1 a2 a3) ∧ (probeUpto b d n c a1 a2 a3 3 ++ fallO b now n sh ky a1 a2 a3).length ≤ 3 := by
  have key : ∀ o1 o2 o3 : Option Int, Asc ((rowOf 0 (Str.ofString "initial") (Str.ofString "probe") o1 ++ rowOf 1 (Str.ofString "handshake") (Str.ofString "probe") o2) ++ rowOf 2 (Str.ofString "application") (Str.ofString "probe") o3) ∧ ((rowOf 0 (Str.ofString "initial") (Str.ofString "probe") o1 ++ rowOf 1 (Str.ofString "handshake") (Str.ofString "probe") o2) ++ rowOf 2 (Str.ofString "application") (Str.ofString "probe") o3).length ≤ 3 := by
    intro o1 o2 o3
    cases o1 <;> cases o2 <;> cases o3 <;> simp [rowOf, Asc]
  cases ha : (a1.isSome || (a2.isSome || a3.isSome)) with
  | true =>
    have : fallO b now n sh ky a1 a2 a3 = [] := by simp only [fallO, ha, Bool.not_true, Bool.false_and, Bool.false_eq_true, if_false]
    rw [this, List.append_nil]
    exact key _ _ _
  | false =>
    have h1 : a1 = none := by cases a1 with
      | none => rfl
      | some _ => simp at ha
    have h2 : a2 = none := by cases a2 with
      | none => rfl
      | some _ => simp at ha
    have h3 : a3 = none := by cases a3 with
      | none => rfl
      | some _ => simp at ha
    subst h1; subst h2; subst h3
    have : probeUpto b d n c none none none 3 = [] := rfl
    rw [this, List.nil_append]
    unfold fallO
    split <;> simp [Asc]
theorem body28 : ifBody (stAt (fnBody 28) 2) = [stAt (ifBody (stAt (fnBody 28) 2)) 0, stAt (ifBody (stAt (fnBody 28) 2)) 1] := by kernel_rfl
section
local macro_rules | `(tactic| k_ne) => `(tactic| walk_at "z13")
local macro_rules | `(tactic| k_room) => `(tactic| walk_at "z1")
local macro_rules | `(tactic| k_enter) => `(tactic| walk_at "z4")
set_option maxHeartbeats 8000000 in
theorem lawdue_call : ∀ {w : World} {mean : ExcName → Option Value} {mg mb : Str → Option Value} {dp un : Nat} {gd : Option (List Code)} {cn : Str} {cs : Scope} {a : Addr} {ccd : Value} {cl : List (Str × Addr)} {outer : List Env} {A₀ : Around} {base h₀ : Heap} {L : Addr} {m : Str → Option Value} {s : Shared}
    {Q E : Value → Shared → Prop} {led bag : List (Addr × Obj)} {fd sp as lo : Addr} {ofd osp oas ol : Obj} {b d now n : Int} {tb td tn : Tok} {c sh ky bl : Bool} {a1 a2 a3 l1 l2 l3 : Option Int}
    (B : Below A₀ base outer h₀) (F : Fr h₀ L s.heap m) (X : (heapK w.params).In h₀) (N : News h₀ L s.heap (led)) (T : Top vw (looseW vw []) mean mg mb h₀) (hk : cs.kind = .function) (hdp : dp < 350) (hu : un < 350)
    (EO : EndOK w fd sp as lo ofd osp oas ol bag c sh ky bl a1 a2 a3 l1 l2 l3 n) (mf : (fd, ofd) ∈ led) (ma : (as, oas) ∈ led) (ml : (lo, ol) ∈ led) (hb0 : 0 ≤ b) (hb1 : b < 1000) (hd0 : 0 ≤ d) (hd1 : d < 1000)
    (hret : ∀ v new h' tk', Fr h₀ L h' m → News h₀ L h' new → KeepsN h₀ L s.heap h' → Fresh h₀ L s.heap new → T3 new v (told3 (leastR (dueRows b d n now c sh ky bl a1 a2 a3 l1 l2 l3))) → Q v { s with heap := h', toks := tk' }),
    wpAny (model PySem.Challenge.rw_no0077_01.row.prog w) (ktrTop dp un gd cn cs L a ccd cl outer) (call (.ref 274) [.ref fd, .int b tb, .int d td, .int now tn]) Q E s := by
  k_fill
  intro w mean mg mb dp un gd cn cs a ccd cl outer A₀ base h₀ L m s Q E led bag fd sp as lo ofd osp oas ol b d now n tb td tn c sh ky bl a1 a2 a3 l1 l2 l3 B F X N T hk hdp hu EO mf ma ml hb0 hb1 hd0 hd1 hret
  have N1 := N
  refine wpAny_call ?_
  k_dflt (refine' enter_cells ?k1 ?k2 ?k3 ?k4 ?k5 ?kA ?kF ?kK ?k6 ?k7 ?k8 ?k9 ?kB ?kD ?_ ?c2 ?c3 ?c4; (case kA => exact rfl); (case kF => exact rfl); (case kK => assumption); (case k1 => k_asm); (case k2 => k_asm); (case k3 => k_asm); (case k4 => exact N1); (case k5 => k_asm); (case k6 => k_is); (case k7 => k_is); (case k8 => ktr_room); (case k9 => exact BindsTo.of_eq rfl); (case kB => exact rfl); (case kD => decide +kernel); (case c2 => exact rfl); (case c3 => exact rfl); (case c4 => exact rfl); k_whole; intro g' L' h' tk' cells' FG' F' N' Y' B' X' T' l1 GS'; (try k_lt l1); k_cells Y'; (try simp only [List.cons_append, List.nil_append] at N'); (try dsimp only); (try k_fold))
  (rename AllLt _ _ => hA1)
  obtain ⟨oA, oB, NC, dB, dA⟩ : ∃ oA oB, News g' L' h' ((L' + 1, oB) :: (L' + 2, oA) :: led) ∧ oB.data = .cell (some (.ref fd)) ∧ oA.data = .cell none := ⟨_, _, News.sub N' (fun p hp => (List.mem_cons.mp hp).elim (fun h => h ▸ .tail _ (.head _)) (fun hp => (List.mem_cons.mp hp).elim (fun h => h ▸ .head _) (fun h => .tail _ (.tail _ h)))), by assumption, by assumption⟩
  clear N'
  obtain ⟨mm, F1, r2, r3, r4⟩ : ∃ mm, Fr g' L' h' mm ∧ mm (Str.ofString "base") = some (.int b tb) ∧ mm (Str.ofString "delay") = some (.int d td) ∧ mm (Str.ofString "now") = some (.int now tn) := ⟨_, F', rfl, rfl, rfl⟩
  clear F'
  change wpAny _ (ktrTop _ _ _ (Str.ofString "_law_due") (fnScope 28) _ 274 (.ref 273) (cellsFrom (L' + 1) (fnScope 28).names []) _) (execs (stAt (fnBody 28) 0 :: stAt (fnBody 28) 1 :: .If (ifTest (stAt (fnBody 28) 2)) (ifBody (stAt (fnBody 28) 2)) [] _ :: [stAt (fnBody 28) 3]) (envOfC (Str.ofString "_law_due") (fnScope 28) L' 274 (.ref 273))) _ _ _
  have hL2 : ∀ p ∈ led, p.1 < L' := tb_ltOf hA1
  obtain ⟨⟨tc, hdict⟩, -, ⟨v1, v2, v3, hq, g1, g2, g3⟩, ⟨w1, w2, w3, hol, e1, e2, e3⟩, hn0, hn3, hz1, hz2, hz3⟩ := EO
  have N0 := News.sub NC (l' := (L' + 1, oB) :: (L' + 2, oA) :: (fd, ofd) :: led) (List.forall_mem_cons.mpr ⟨.head _, List.forall_mem_cons.mpr ⟨.tail _ (.head _), List.forall_mem_cons.mpr ⟨.tail _ (.tail _ mf), fun p hp => .tail _ (.tail _ hp)⟩⟩⟩)
  clear NC
  refine' d_init  B' ?F1 X' ?N1 T' ?hd1 ?hu1 ?z0_1 ?z1_1 ?z2_1 ?z3_1 ?z4_1 ?z5_1 ?hr1
  case F1 => with_reducible assumption
  case hd1 => walk_at "zr"
  case hu1 => walk_at "zu"
  case N1 => with_reducible assumption
  case z0_1 => exact dB
  case z1_1 => exact hdict
  case z2_1 => exact dA
  case z3_1 => exact Nat.ne_of_lt (Nat.lt_succ_self _)
  case z4_1 => exact Nat.ne_of_lt (Nat.lt_succ_of_lt (Nat.lt_succ_of_lt (hL2 _ mf)))
  case z5_1 => exact fun p hp => Nat.ne_of_lt (Nat.lt_succ_of_lt (Nat.lt_succ_of_lt (hL2 p hp)))
  intro oA2 hp2 tk2 F2 N2 dA2
  try dsimp only
  refine' d_comp  B' ?F2 X' ?N2 T' ?hd2 ?hu2 ?z0_2 ?z1_2 ?z2_2 ?z3_2 ?z4_2 ?z5_2 ?z6_2 ?hr2
  case F2 => with_reducible assumption
  case hd2 => walk_at "zr"
  case hu2 => walk_at "zu"
  case N2 => with_reducible assumption
  case z0_2 => exact .tail _ (.head _)
  case z1_2 => exact .tail _ (.tail _ (.tail _ ml))
  case z2_2 => exact dA2
  case z3_2 => exact hol
  case z4_2 => exact e1
  case z5_2 => exact e2
  case z6_2 => exact e3
  intro D ys nx hp3 tk3 m3 F3 r1 off3 N3 sb3 hD3 hrow3
  try dsimp only
  replace r2 := off3.get r2
  replace r3 := off3.get r3
  replace r4 := off3.get r4
  have mC : (L' + 1, oB) ∈ nx := sb3 _ (.head _)
  have mF : (fd, ofd) ∈ nx := sb3 _ (.tail _ (.tail _ (.head _)))
  have mL : ∀ p ∈ led, p ∈ nx := fun p hp => sb3 _ (.tail _ (.tail _ (.tail _ hp)))
  have N3' : News g' L' hp3 ((D, W.listOf ys.toArray ys.length) :: (L' + 1, oB) :: (fd, ofd) :: nx) := News.sub N3 (List.forall_mem_cons.mpr ⟨.head _, List.forall_mem_cons.mpr ⟨.tail _ mC, List.forall_mem_cons.mpr ⟨.tail _ mF, fun p hp => .tail _ hp⟩⟩⟩)
  have hD3' : ∀ p ∈ (L' + 1, oB) :: (fd, ofd) :: nx, p.1 ≠ D := List.forall_mem_cons.mpr ⟨hD3 _ mC, List.forall_mem_cons.mpr ⟨hD3 _ mF, hD3⟩⟩
  have hlen3 := erows_len0 hrow3
  clear N3 N2
  refine' d_if2  B' ?F6 X' ?N6 T' ?hd6 ?hu6 ?z0_6 ?z1_6 ?z2_6 ?z3_6 ?hr6
  case F6 => with_reducible assumption
  case hd6 => walk_at "zr"
  case hu6 => walk_at "zu"
  case z0_6 => exact r1
  case N6 => with_reducible assumption
  case z1_6 => exact dB
  case z2_6 => exact hdict
  case z3_6 => 
    intro hy0 hbl hp4 tk4 F4 N4
    (try dsimp only)
    rw [body28]
    refine' d_for  B' ?F3 X' ?N3 T' ?hd3 ?hu3 ?z0_3 ?z1_3 ?z2_3 ?z3_3 ?z4_3 ?z5_3 ?z6_3 ?z7_3 ?z8_3 ?z9_3 ?z10_3 ?z11_3 ?z12_3 ?z13_3 ?hr3
    case F3 => with_reducible assumption
    case hd3 => walk_at "zr"
    case hu3 => walk_at "zu"
    case z0_3 => exact ⟨r1, r2, r3, r4⟩
    case N3 => with_reducible assumption
    case z1_3 => exact .head _
    case z2_3 => exact .tail _ (.head _)
    case z3_3 => exact .tail _ (.tail _ (mL _ ma))
    case z4_3 => exact hD3'
    case z5_3 => exact dB
    case z6_3 => exact hdict
    case z7_3 => exact hq
    case z8_3 => exact g1
    case z9_3 => exact g2
    case z10_3 => exact g3
    case z11_3 => exact hn0
    case z12_3 => exact hn3
    case z13_3 => exact hy0
    intro ys5 k5 nx5 hp5 tk5 m5 F5 hr5 N5 sb5 hD5 hrow5 hsz5
    try dsimp only
    obtain ⟨s1, s2, s3, s4⟩ := hr5
    have mC5 : (L' + 1, oB) ∈ nx5 := sb5 _ (.head _)
    have mF5 : (fd, ofd) ∈ nx5 := sb5 _ (.tail _ (.head _))
    have mL5 : ∀ p ∈ led, p ∈ nx5 := fun p hp => sb5 _ (.tail _ (.tail _ (mL p hp)))
    have N5' := News.sub N5 (l' := (D, W.listOf ys5 k5) :: (L' + 1, oB) :: (fd, ofd) :: (as, oas) :: nx5) (List.forall_mem_cons.mpr ⟨.head _, List.forall_mem_cons.mpr ⟨.tail _ mC5, List.forall_mem_cons.mpr ⟨.tail _ mF5, List.forall_mem_cons.mpr ⟨.tail _ (mL5 _ ma), fun p hp => .tail _ hp⟩⟩⟩⟩)
    clear N5 N4 N3'
    refine' d_none (d := d) (td := td) B' ?F4 X' ?N4 T' ?hd4 ?hu4 ?z0_4 ?z1_4 ?z2_4 ?z3_4 ?z4_4 ?z5_4 ?z6_4 ?z7_4 ?z8_4 ?z9_4 ?z10_4 ?z11_4 ?z12_4 ?z13_4 ?z14_4 ?hr4
    case F4 => with_reducible assumption
    case hd4 => walk_at "zr"
    case hu4 => walk_at "zu"
    case z0_4 => exact s1
    case z1_4 => exact s2
    case z2_4 => exact s4
    case N4 => with_reducible assumption
    case z3_4 => exact dB
    case z4_4 => exact hdict
    case z5_4 => exact hq
    case z6_4 => exact g1
    case z7_4 => exact g2
    case z8_4 => exact g3
    case z9_4 => exact hn0
    case z10_4 => exact hn3
    case z11_4 => exact hb0
    case z12_4 => exact hb1
    case z13_4 => omega
    case z14_4 => exact List.forall_mem_cons.mpr ⟨hD5 _ mC5, List.forall_mem_cons.mpr ⟨hD5 _ mF5, List.forall_mem_cons.mpr ⟨hD5 _ (mL5 _ ma), hD5⟩⟩⟩
    intro ys6 k6 nw6 hp6 tk6 F6 N6 ap6 hz6
    try dsimp only
    refine wpAny_execs_nil ?_
    (try dsimp only)
    obtain ⟨zs6, hzs6, hzr6⟩ := hz6
    clear N5'
    refine' d_ret  B' ?F5 X' ?N5 T' ?hd5 ?hu5 ?z0_5 ?z1_5 ?z2_5 ?z3_5 ?hr5
    case F5 => with_reducible assumption
    case hd5 => walk_at "zr"
    case hu5 => walk_at "zu"
    case z0_5 => exact s1
    case N5 => with_reducible assumption
    case z1_5 => 
        rw [hzs6]
        exact erows_app (ERows.mono (fun p hp => List.mem_append.mpr (.inr (.tail _ (.tail _ (.tail _ hp))))) hrow5) (ERows.mono (fun p hp => List.mem_append.mpr (.inl hp)) hzr6)
    case z2_5 => exact (probe_asc b d n now c sh ky a1 a2 a3).1
    case z3_5 => exact (probe_asc b d n now c sh ky a1 a2 a3).2
    intro v7 new7 hp7 tk7 F7 N7 tv7 ap7
    try dsimp only
    have hE : dueRows b d n now c sh ky bl a1 a2 a3 l1 l2 l3 = probeUpto b d n c a1 a2 a3 3 ++ fallO b now n sh ky a1 a2 a3 := by
      unfold dueRows
      rw [← hlen3, if_pos]
      rw [hbl, show ys.length = 0 from hy0]; rfl
    rw [← hE] at tv7
    have AP : ∀ p ∈ new7, ∀ q ∈ led, p.1 ≠ q.1 := fun q hq p hp => ap7 q hq p (.tail _ (List.mem_append.mpr (.inr (.tail _ (.tail _ (.tail _ (mL5 p hp)))))))
    have NV := N7
    clear N7 N6
    k_steps
    (rename Fr h₀ _ _ _ => kF); (rename News h₀ _ _ _ => kN)
    have KK := keepsN_of N GS' F7 (News.sub kN (fun p hp => List.mem_append.mpr (.inr (.tail _ (List.mem_append.mpr (.inr (.tail _ (.tail _ (.tail _ (mL5 p hp))))))))))
    exact hret v7 new7 _ _ kF (News.sub kN (fun p hp => List.mem_append.mpr (.inl hp))) KK (fun all Na => apart_all (led := led) Na GS' (News.sub NV (fun p hp => List.mem_append.mpr (.inl hp))) AP) tv7
  intro hn4 hp4 tk4 F4 N4
  try dsimp only
  have hrow4 : ERows ((L' + 1, oB) :: (fd, ofd) :: nx) ys.toArray.toList (lossUpto l1 l2 l3 3) := by
    rw [List.toList_toArray]
    exact ERows.mono (fun p hp => .tail _ (.tail _ hp)) hrow3
  clear N3'
  refine' d_ret  B' ?F7 X' ?N7 T' ?hd7 ?hu7 ?z0_7 ?z1_7 ?z2_7 ?z3_7 ?hr7
  case F7 => with_reducible assumption
  case hd7 => walk_at "zr"
  case hu7 => walk_at "zu"
  case z0_7 => exact r1
  case N7 => with_reducible assumption
  case z1_7 => exact hrow4
  case z2_7 => exact (loss_asc l1 l2 l3).1
  case z3_7 => exact (loss_asc l1 l2 l3).2
  intro v8 new8 hp8 tk8 F8 N8 tv8 ap8
  try dsimp only
  have hE : dueRows b d n now c sh ky bl a1 a2 a3 l1 l2 l3 = lossUpto l1 l2 l3 3 := by
    unfold dueRows
    rw [← hlen3, if_neg]
    intro hq9
    rw [List.size_toArray] at hn4
    rw [hn4] at hq9; cases hq9
  rw [← hE] at tv8
  have AP : ∀ p ∈ new8, ∀ q ∈ led, p.1 ≠ q.1 := fun q hq p hp => ap8 q hq p (.tail _ (.tail _ (.tail _ (mL p hp))))
  have NV := N8
  clear N8 N4
  k_steps
  (rename Fr h₀ _ _ _ => kF); (rename News h₀ _ _ _ => kN)
  have KK := keepsN_of N GS' F8 (News.sub kN (fun p hp => List.mem_append.mpr (.inr (.tail _ (.tail _ (.tail _ (mL p hp)))))))
  exact hret v8 new8 _ _ kF (News.sub kN (fun p hp => List.mem_append.mpr (.inl hp))) KK (fun all Na => apart_all (led := led) Na GS' (News.sub NV (fun p hp => List.mem_append.mpr (.inl hp))) AP) tv8
end
theorem least_rows (kd : Str) (o1 o2 o3 : Option Int) : told3 (leastR ((rowOf 0 (Str.ofString "initial") kd o1 ++ rowOf 1 (Str.ofString "handshake") kd o2) ++ rowOf 2 (Str.ofString "application") kd o3)) = (earliest o1 o2 o3).map fun e => (e.1, e.2, kd) := by
  cases o1 <;> cases o2 <;> cases o3 <;> simp only [rowOf, leastR, told3, earliest, stepF, List.nil_append, List.cons_append, List.append_nil, List.foldl_cons, List.foldl_nil, Option.map_some, Option.map_none]
  all_goals (repeat' split) <;> first | rfl | (simp_all; done) | (simp_all <;> omega)
theorem due_plain (b d n now : Int) (c sh ky bl : Bool) (a1 a2 a3 l1 l2 l3 : Option Int) :
    told3 (leastR (dueRows b d n now c sh ky bl a1 a2 a3 l1 l2 l3)) = nextS l1 l2 l3 (probeS b d n now c sh ky a1 a2 a3) bl := by
  have hl : told3 (leastR (lossUpto l1 l2 l3 3)) = (earliest l1 l2 l3).map fun e => (e.1, e.2, Str.ofString "loss") := least_rows _ l1 l2 l3
  have hz : (lossUpto l1 l2 l3 3).length = 0 ↔ earliest l1 l2 l3 = none := by
    cases l1 <;> cases l2 <;> cases l3 <;> simp only [lossUpto, rowOf, earliest, stepF, List.nil_append, List.cons_append, List.append_nil, List.length_cons, List.length_nil] <;> (repeat' split) <;> simp
  cases he : earliest l1 l2 l3 with
  | some e =>
    have h0 : ¬ (lossUpto l1 l2 l3 3).length = 0 := fun h => by rw [hz.mp h] at he; cases he
    have : dueRows b d n now c sh ky bl a1 a2 a3 l1 l2 l3 = lossUpto l1 l2 l3 3 := by
      unfold dueRows
      rw [if_neg]
      simp [h0]
    rw [this, hl, he]
    simp only [nextS, he, Option.map_some]
  | none =>
    have h0 := hz.mpr he
    cases bl with
    | true =>
      have : dueRows b d n now c sh ky true a1 a2 a3 l1 l2 l3 = lossUpto l1 l2 l3 3 := by
        unfold dueRows
        rw [if_neg]
        simp
      rw [this, hl, he]
      simp only [nextS, he, Option.map_none, if_true]
    | false =>
      have : dueRows b d n now c sh ky false a1 a2 a3 l1 l2 l3 = probeUpto b d n c a1 a2 a3 3 ++ fallO b now n sh ky a1 a2 a3 := by
        unfold dueRows
        rw [if_pos]
        simp [h0]
      rw [this]
      simp only [nextS, he, Bool.false_eq_true, if_false]
      cases ha : (a1.isSome || (a2.isSome || a3.isSome)) with
      | true =>
        have h1 : fallO b now n sh ky a1 a2 a3 = [] := by simp only [fallO, ha, Bool.not_true, Bool.false_and, Bool.false_eq_true, if_false]
        rw [h1, List.append_nil]
        have h2 : told3 (leastR (probeUpto b d n c a1 a2 a3 3)) = (earliest (ptO b d n c a1 (Str.ofString "initial")) (ptO b d n c a2 (Str.ofString "handshake")) (ptO b d n c a3 (Str.ofString "application"))).map fun e => (e.1, e.2, Str.ofString "probe") := least_rows _ _ _ _
        rw [h2]
        simp only [probeS, ha, if_true]
        cases earliest (ptO b d n c a1 (Str.ofString "initial")) (ptO b d n c a2 (Str.ofString "handshake")) (ptO b d n c a3 (Str.ofString "application")) <;> rfl
      | false =>
        have h1 : a1 = none := by cases a1 with
          | none => rfl
          | some _ => simp at ha
        have h2 : a2 = none := by cases a2 with
          | none => rfl
          | some _ => simp at ha
        have h3 : a3 = none := by cases a3 with
          | none => rfl
          | some _ => simp at ha
        subst h1; subst h2; subst h3
        have h4 : probeUpto b d n c none none none 3 = [] := rfl
        rw [h4, List.nil_append]
        cases sh with
        | true => simp [fallO, probeS, leastR, told3]
        | false => simp [fallO, probeS, leastR, told3]
theorem earliest_some (o1 o2 o3 : Option Int) : (earliest o1 o2 o3).isSome = (o1.isSome || (o2.isSome || o3.isSome)) := by
  cases o1 <;> cases o2 <;> cases o3 <;> simp only [earliest, stepF] <;> (repeat' split) <;> rfl
theorem pto_some (b d n : Int) (c : Bool) (a : Option Int) (nm : Str) : (ptO b d n c a nm).isSome = (a.isSome && !(nm == Str.ofString "application" && !c)) := by
  cases a with
  | none => rfl
  | some t =>
    simp only [ptO]
    cases (nm == Str.ofString "application" && !c) <;> rfl
theorem next_owed (b d n now : Int) (c sh ky : Bool) (a1 a2 a3 l1 l2 l3 : Option Int) :
    (nextS l1 l2 l3 (probeS b d n now c sh ky a1 a2 a3) false).isSome = owedS c sh a1 a2 a3 l1 l2 l3 := by
  have hl := earliest_some l1 l2 l3
  have e1 : (Str.ofString "initial" == Str.ofString "application") = false := by decide +kernel
  have e2 : (Str.ofString "handshake" == Str.ofString "application") = false := by decide +kernel
  have e3 : (Str.ofString "application" == Str.ofString "application") = true := by decide +kernel
  have hp : (probeS b d n now c sh ky a1 a2 a3).isSome = ((a1.isSome || a2.isSome) || ((c && a3.isSome) || (!(a1.isSome || (a2.isSome || a3.isSome)) && !sh))) := by
    unfold probeS
    have hq := earliest_some (ptO b d n c a1 (Str.ofString "initial")) (ptO b d n c a2 (Str.ofString "handshake")) (ptO b d n c a3 (Str.ofString "application"))
    rw [pto_some, pto_some, pto_some, e1, e2, e3] at hq
    cases ha : (a1.isSome || (a2.isSome || a3.isSome)) with
    | true =>
      rw [if_pos rfl, hq]
      clear hq
      revert ha
      generalize a1.isSome = x; generalize a2.isSome = y; generalize a3.isSome = z
      revert x y z c sh
      decide
    | false =>
      rw [if_neg (by simp)]
      revert ha
      cases a1.isSome <;> cases a2.isSome <;> cases a3.isSome <;> cases sh <;> simp
  unfold nextS owedS
  cases he : earliest l1 l2 l3 with
  | some e =>
    rw [he] at hl
    have hl' : (l1.isSome || (l2.isSome || l3.isSome)) = true := hl.symm
    rw [hl']
    simp
  | none =>
    rw [he] at hl
    have hl' : (l1.isSome || (l2.isSome || l3.isSome)) = false := hl.symm
    rw [hl', Bool.or_false]
    simp only [Bool.false_eq_true, if_false]
    cases hpr : probeS b d n now c sh ky a1 a2 a3 with
    | none => rw [hpr] at hp; exact hp
    | some e => rw [hpr] at hp; exact hp
theorem next_client (b d n now : Int) (c ky : Bool) (a1 a2 l1 l2 l3 : Option Int) : (nextS l1 l2 l3 (probeS b d n now c false ky a1 a2 none) false).isSome = true := by
  rw [next_owed]
  unfold owedS
  cases a1 <;> cases a2 <;> simp
/-- an end, as it stands in a ledger -/
structure EndIn (w : World) (led : List (Addr × Obj)) (fd sp as lo : Addr) (ofd osp oas ol : Obj) (bag : List (Addr × Obj)) (c sh ky bl : Bool) (a1 a2 a3 l1 l2 l3 : Option Int) (n : Int) : Prop where
  ok : EndOK w fd sp as lo ofd osp oas ol bag c sh ky bl a1 a2 a3 l1 l2 l3 n
  mf : (fd, ofd) ∈ led
  ms : (sp, osp) ∈ led
  ma : (as, oas) ∈ led
  ml : (lo, ol) ∈ led
  mb : ∀ p ∈ bag, p ∈ led
theorem EndIn.mono {w : World} {led led' : List (Addr × Obj)} {fd sp as lo : Addr} {ofd osp oas ol : Obj} {bag : List (Addr × Obj)} {c sh ky bl : Bool} {a1 a2 a3 l1 l2 l3 : Option Int} {n : Int}
    (h : EndIn w led fd sp as lo ofd osp oas ol bag c sh ky bl a1 a2 a3 l1 l2 l3 n) (k : ∀ p ∈ led, p ∈ led') : EndIn w led' fd sp as lo ofd osp oas ol bag c sh ky bl a1 a2 a3 l1 l2 l3 n :=
  ⟨h.ok, k _ h.mf, k _ h.ms, k _ h.ma, k _ h.ml, fun p hp => k p (h.mb p hp)⟩
section
variable {prog : Program} {w : World} {A : Around} {E : Value → Shared → Prop} {s : Shared} {h₀ : Heap} {L : Addr} {led led' : List (Addr × Obj)} {o o' : Option (Int × Str × Str)} {v y : Value}
theorem ov_eq {a : Option Int} (h : OV v a) (k : OV y a) : SeqAt.EqAt A s v y true := by
  rcases h with ⟨rfl, rfl⟩ | ⟨n, t, rfl, rfl⟩
  · rcases k with ⟨rfl, _⟩ | ⟨n, t, rfl, e⟩
    · exact SeqAt.EqAt.same _
    · cases e
  · rcases k with ⟨rfl, e⟩ | ⟨n', t', rfl, e⟩
    · cases e
    · cases e
      have := SeqAt.EqAt.int_int (A := A) (s := s) n t n t'
      rwa [beq_self_eq_true] at this
theorem tri_hits {v1 v2 v3 y1 y2 y3 : Value} {a1 a2 a3 : Option Int} (g1 : OV v1 a1) (g2 : OV v2 a2) (g3 : OV v3 a3) (k1 : OV y1 a1) (k2 : OV y2 a2) (k3 : OV y3 a3) :
    KeqHits A s (tri y1 y2 y3) (tri v1 v2 v3) true :=
  KeqHits.hit (e := true) (b := true) (by kernel_rfl) (ov_eq g1 k1) (KeqHits.hit (e := true) (b := true) (by kernel_rfl) (ov_eq g2 k2) (KeqHits.hit (e := true) (b := true) (by kernel_rfl) (ov_eq g3 k3) .nil))
theorem T3.at {Q : Prop} (N : News h₀ L s.heap led) (h : T3 led v o) (k1 : v = .none → o = none → Q) (k2 : ∀ a n t nm u kd uk, v = .ref a → o = some (n, nm, kd) → s.heap.IsTuple a #[.int n t, .str nm u, .str kd uk] → Q) : Q := by
  rcases h with ⟨rfl, rfl⟩ | ⟨n, t, nm, u, kd, uk, a, k, rfl, m, rfl⟩
  · exact k1 rfl rfl
  · exact k2 _ _ _ _ _ _ _ rfl rfl (News.isTup N m)
theorem ne_t3 {Q : Value → Shared → Prop} (N : News h₀ L s.heap led) (h : T3 led v o) (k : T3 led y o) (hu : A.units < cLine) (hQ : Q (.bool false) s) : wpAny (model prog w) A (compareOp .NotEq v y) Q E s := by
  refine h.at N (fun e1 e2 => ?_) (fun a n t nm u kd uk e1 e2 i1 => ?_)
  · refine k.at N (fun e3 e4 => ?_) (fun a n t nm u kd uk e3 e4 i1 => ?_)
    · rw [e1, e3]; exact EqBoolInt.of_rcne SeqAt.RcNeAt.none_none hQ
    · rw [e2] at e4; cases e4
  · refine k.at N (fun e3 e4 => ?_) (fun a' n' t' nm' u' kd' uk' e3 e4 i2 => ?_)
    · rw [e4] at e2; cases e2
    · rw [e2] at e4; cases e4
      rw [e1, e3]
      refine EqBoolInt.of_rcne (SeqAt.RcNeAt.tuples (e := fun _ => true) i1 i2 hu ?_) ?_
      · intro j h1 h2
        match j, h1, h2 with
        | 0, _, _ =>
          have := SeqAt.EqAt.int_int (A := A.in1) (s := s) n t n t'
          rwa [beq_self_eq_true] at this
        | 1, _, _ =>
          have := SeqAt.EqAt.str_str (A := A.in1) (s := s) nm u nm u'
          rwa [beq_self_eq_true] at this
        | 2, _, _ =>
          have := SeqAt.EqAt.str_str (A := A.in1) (s := s) kd uk kd uk'
          rwa [beq_self_eq_true] at this
        | j + 3, h1, _ => exact absurd h1 (by simp)
      · exact hQ
theorem isnot_t3 {Q : Value → Shared → Prop} {b : Bool} (h : T3 led v o) (e : o.isSome = b) (k : Q (.bool b) s) : wpAny (model prog w) A (compareOp .IsNot v .none) Q E s := by
  rcases h with ⟨rfl, rfl⟩ | ⟨n, t, nm, u, kd, uk, a, q, rfl, m, rfl⟩
  · cases e; exact wpAny_isNot_self (by rfl) k
  · cases e; exact wpAny_isNot_other (by rfl) (by intro x; cases x) k
theorem is_t3 {Q : Value → Shared → Prop} (h : T3 led v o) (e : o.isSome = true) (k : Q (.bool false) s) : wpAny (model prog w) A (compareOp .Is v .none) Q E s := by
  rcases h with ⟨rfl, rfl⟩ | ⟨n, t, nm, u, kd, uk, a, q, rfl, m, rfl⟩
  · cases e
  · exact wpAny_is_other (by rfl) (by intro x; cases x) k
theorem none_t3 (N : News h₀ L s.heap led) (h : T3 led v o) (hu : A.units < cLine) : SeqAt.EqAt A s v .none (!o.isSome) := by
  refine h.at N (fun e1 e2 => ?_) (fun a n t nm u kd uk e1 e2 i1 => ?_)
  · rw [e1, e2]; exact SeqAt.EqAt.same _
  · rw [e1, e2]; exact SeqAt.EqAt.tuple_none i1 hu
theorem ne_nones {Q : Value → Shared → Prop} {l b : Addr} {k k' : Nat} (N : News h₀ L s.heap led) (ml : (l, listOf #[v, y] k) ∈ led) (mb : (b, listOf #[.none, .none] k') ∈ led) (h : T3 led v o) (h' : T3 led y o') (hu : A.units + 64 < cLine)
    (hQ : Q (.bool (o.isSome || o'.isSome)) s) : wpAny (model prog w) A (compareOp .NotEq (.ref l) (.ref b)) Q E s := by
  have hu1 : A.in1.units < cLine := Nat.lt_of_lt_of_le (Nat.add_lt_add_left (show 1 < 64 by decide) A.units) (Nat.le_of_lt hu)
  refine EqBoolInt.of_rcne (SeqAt.RcNeAt.lists (e := fun j => if j = 0 then !o.isSome else !o'.isSome) (News.isList N ml) (News.isList N mb) rfl (by omega) ?_) ?_
  · intro j h1 h2
    match j, h1, h2 with
    | 0, _, _ => exact none_t3 N h hu1
    | 1, _, _ => exact none_t3 N h' hu1
    | j + 2, h1, _ => exact absurd h1 (by simp)
  · have e : (!(List.range 2).all fun j => if j = 0 then !o.isSome else !o'.isSome) = (o.isSome || o'.isSome) := by
      cases o.isSome <;> cases o'.isSome <;> rfl
    rw [← e] at hQ
    exact hQ
end
section
local macro_rules | `(tactic| walk_at "call ref") => `(tactic| (k_here; refine held ?_))
set_option maxHeartbeats 8000000 in
theorem l_draws : ∀ {w : World} {mean : ExcName → Option Value} {mg mb : Str → Option Value} {dp un : Nat} {fa : Addr} {fcd : Value} {gd : Option (List Code)} {outer : List Env} {A₀ : Around} {base h₀ : Heap} {L : Addr} {m : Str → Option Value} {s : Shared} {tl : List Stmt} {Q : Flow → Shared → Prop} {E : Value → Shared → Prop} {x : Addr} {vs : List Value} {ns : List Int} {p1 p2 : List Addr}
    (B : Below A₀ base outer h₀) (F : Fr h₀ L s.heap m) (X : (heapK w.params).In h₀) (N : News h₀ L s.heap (([] : List (Addr × Obj)))) (T : Top vw (looseW vw []) mean mg mb h₀) (hdp : dp < 340) (hu : un < 340)
    (r1 : m (Str.ofString "script") = some (.ref x)) (hs : Spec.Shape.int.list.has (PyData.list (List.map PyData.int ns)) = true) (hL1 : (PyData.list (List.map PyData.int ns)).layable0 = true) (hL : h₀.IsList x vs.toArray) (ra : ReadsAll h₀ vs (List.map PyData.int ns) p1) (w1 : Well w.params h₀ (Value.ref x) (ofPy (PyData.list (List.map PyData.int ns)))) (r0 : Reads h₀ (Value.ref x) (PyData.list (List.map PyData.int ns)) p2) (hI : IntsAre vs ns) (hlen : ¬ ((63 : Nat) : Int) < (ns.length : Int))
    (hret : ∀ d o h' tk' m', Fr h₀ L h' m' → m' (Str.ofString "draws") = some (.ref d) → Off [Str.ofString "draws"] m m' → News h₀ L h' [(d, o)] → IsDraws w o → (d == sysModules) = false → wpAny (model PySem.Challenge.rw_no0077_01.row.prog w) (ktrTop dp un gd (Str.ofString "law") (fnScope 30) L fa fcd [] outer) (execs tl (envOf (Str.ofString "law") (fnScope 30) L fa fcd)) Q E { s with heap := h', toks := tk' }),
    wpAny (model PySem.Challenge.rw_no0077_01.row.prog w) (ktrTop dp un gd (Str.ofString "law") (fnScope 30) L fa fcd [] outer) (execs ((stAt (fnBody 30) 0) :: tl) (envOf (Str.ofString "law") (fnScope 30) L fa fcd)) Q E s := by
  k_fill
  intro w mean mg mb dp un fa fcd gd outer A₀ base h₀ L m s tl Q E x vs ns p1 p2 B F X N T hdp hu r1 hs hL1 hL ra w1 r0 hI hlen hret
  walk_at "zwa"
  k_steps
  (show wpAny _ _ (call (Value.ref 252) _) _ _ _)
  k_dflt ((refine' draws_call (N := ?N) ?B ?F ?X ?T ?k ?d ?u ?s1 ?s2 ?s3 ?s4 ?s5 ?s6 ?s7 ?s8 ?_; (case N => k_asm); (case B => k_asm); (case F => k_asm); (case X => k_asm); (case T => k_asm); (case k => exact rfl); (case d => walk_at "zr"); (case u => walk_at "zu"); (case s1 => exact hs); (case s2 => exact hL1); (case s3 => exact hL); (case s4 => exact ra); (case s5 => exact w1); (case s6 => exact r0); (case s7 => exact hI); (case s8 => exact hlen); k_whole); intro d o h1 tk1 F1 N1 dr1 lo1; (try dsimp only); (try k_sweep))
  k_steps
  try dsimp only
  (rename Fr _ _ _ _ => kF); (rename News _ _ _ _ => kN)
  refine' hret d o _ _ _ kF ?za ?zn kN dr1 lo1
  case za => rfl
  case zn => exact (by intro y hy; simp only [List.mem_cons, List.not_mem_nil, or_false, not_or] at hy; simp only [hy, if_false])
end
section
local macro_rules | `(tactic| walk_at "call ref") => `(tactic| (k_here; refine held ?_))
set_option maxHeartbeats 8000000 in
theorem l_known : ∀ {w : World} {mean : ExcName → Option Value} {mg mb : Str → Option Value} {dp un : Nat} {fa : Addr} {fcd : Value} {gd : Option (List Code)} {outer : List Env} {A₀ : Around} {base h₀ : Heap} {L : Addr} {m : Str → Option Value} {s : Shared} {tl : List Stmt} {Q : Flow → Shared → Prop} {E : Value → Shared → Prop} {rest : List (Addr × Obj)} {d : Addr} {od : Obj}
    (B : Below A₀ base outer h₀) (F : Fr h₀ L s.heap m) (X : (heapK w.params).In h₀) (N : News h₀ L s.heap ((d, od) :: rest)) (T : Top vw (looseW vw []) mean mg mb h₀) (hdp : dp < 340) (hu : un < 340)
    (rd : m (Str.ofString "draws") = some (.ref d)) (hoff : ∀ p ∈ rest, p.1 ≠ d) (hlo : (d == sysModules) = false) (hdr : IsDraws w od)
    (hret : ∀ k1 k2 od' h' tk' m', Fr h₀ L h' m' → m' (Str.ofString "is_known") = some (.bool k1) → m' (Str.ofString "is_confirmed") = some (.bool k2) → Off [Str.ofString "is_known", Str.ofString "is_confirmed"] m m' → News h₀ L h' ((d, od') :: rest) → IsDraws w od' → wpAny (model PySem.Challenge.rw_no0077_01.row.prog w) (ktrTop dp un gd (Str.ofString "law") (fnScope 30) L fa fcd [] outer) (execs tl (envOf (Str.ofString "law") (fnScope 30) L fa fcd)) Q E { s with heap := h', toks := tk' }),
    wpAny (model PySem.Challenge.rw_no0077_01.row.prog w) (ktrTop dp un gd (Str.ofString "law") (fnScope 30) L fa fcd [] outer) (execs ((stAt (fnBody 30) 1) :: tl) (envOf (Str.ofString "law") (fnScope 30) L fa fcd)) Q E s := by
  k_fill
  intro w mean mg mb dp un fa fcd gd outer A₀ base h₀ L m s tl Q E rest d od B F X N T hdp hu rd hoff hlo hdr hret
  walk_at "zwa"
  k_steps
  (show wpAny _ _ (call (Value.ref 247) [Value.ref _, Value.int _ _]) _ _ _)
  k_dflt ((refine' take_call (N := Pull.news ?P ?N) ?B ?F ?X ?T ?k ?d ?u ?o ?lo ?dr ?hm ?_; (case N => k_asm); (case P => walk_at "zp"); (case B => k_asm); (case F => k_asm); (case X => k_asm); (case T => k_asm); (case k => exact rfl); (case d => walk_at "zr"); (case u => walk_at "zu"); (case o => k_all); (case lo => assumption); (case dr => assumption); (case hm => first | assumption | decide | omega); k_whole); intro r1 t1 o1 h1 tk1 F1 N1 hd1 ra1 rb1; (try dsimp only); (try k_sweep))
  k_steps
  (show wpAny _ _ (call (Value.ref 247) [Value.ref _, Value.int _ _]) _ _ _)
  k_dflt ((refine' take_call (N := Pull.news ?P ?N) ?B ?F ?X ?T ?k ?d ?u ?o ?lo ?dr ?hm ?_; (case N => k_asm); (case P => walk_at "zp"); (case B => k_asm); (case F => k_asm); (case X => k_asm); (case T => k_asm); (case k => exact rfl); (case d => walk_at "zr"); (case u => walk_at "zu"); (case o => k_all); (case lo => assumption); (case dr => assumption); (case hm => first | assumption | decide | omega); k_whole); intro r2 t2 o2 h2 tk2 F2 N2 hd2 ra2 rb2; (try dsimp only); (try k_sweep))
  k_steps
  try dsimp only
  (rename Fr _ _ _ _ => kF); (rename News _ _ _ _ => kN)
  refine' hret _ _ _ _ _ _ kF ?za ?zb ?zn (News.sub kN (by walk_at "zs")) hd2
  case za => rfl
  case zb => rfl
  case zn => exact (by intro y hy; simp only [List.mem_cons, List.not_mem_nil, or_false, not_or] at hy; simp only [hy, if_false])
end
section
local macro_rules | `(tactic| walk_at "call ref") => `(tactic| (k_here; refine held ?_))
set_option maxHeartbeats 8000000 in
theorem l_base : ∀ {w : World} {mean : ExcName → Option Value} {mg mb : Str → Option Value} {dp un : Nat} {fa : Addr} {fcd : Value} {gd : Option (List Code)} {outer : List Env} {A₀ : Around} {base h₀ : Heap} {L : Addr} {m : Str → Option Value} {s : Shared} {tl : List Stmt} {Q : Flow → Shared → Prop} {E : Value → Shared → Prop} {rest : List (Addr × Obj)} {d : Addr} {od : Obj}
    (B : Below A₀ base outer h₀) (F : Fr h₀ L s.heap m) (X : (heapK w.params).In h₀) (N : News h₀ L s.heap ((d, od) :: rest)) (T : Top vw (looseW vw []) mean mg mb h₀) (hdp : dp < 340) (hu : un < 340)
    (rd : m (Str.ofString "draws") = some (.ref d)) (hoff : ∀ p ∈ rest, p.1 ≠ d) (hlo : (d == sysModules) = false) (hdr : IsDraws w od)
    (hret : ∀ b dl tb td tn od' h' tk' m', Fr h₀ L h' m' → m' (Str.ofString "base") = some (.int b tb) → m' (Str.ofString "delay") = some (.int dl td) → m' (Str.ofString "now") = some (.int 1000 tn) → Off [Str.ofString "base", Str.ofString "delay", Str.ofString "now"] m m' → News h₀ L h' ((d, od') :: rest) → IsDraws w od' → 0 ≤ b → b < 1000 → 0 ≤ dl → dl < 1000 → wpAny (model PySem.Challenge.rw_no0077_01.row.prog w) (ktrTop dp un gd (Str.ofString "law") (fnScope 30) L fa fcd [] outer) (execs tl (envOf (Str.ofString "law") (fnScope 30) L fa fcd)) Q E { s with heap := h', toks := tk' }),
    wpAny (model PySem.Challenge.rw_no0077_01.row.prog w) (ktrTop dp un gd (Str.ofString "law") (fnScope 30) L fa fcd [] outer) (execs ((stAt (fnBody 30) 2) :: tl) (envOf (Str.ofString "law") (fnScope 30) L fa fcd)) Q E s := by
  k_fill
  intro w mean mg mb dp un fa fcd gd outer A₀ base h₀ L m s tl Q E rest d od B F X N T hdp hu rd hoff hlo hdr hret
  walk_at "zwa"
  k_steps
  (show wpAny _ _ (call (Value.ref 247) [Value.ref _, Value.int _ _]) _ _ _)
  k_dflt ((refine' take_call (N := Pull.news ?P ?N) ?B ?F ?X ?T ?k ?d ?u ?o ?lo ?dr ?hm ?_; (case N => k_asm); (case P => walk_at "zp"); (case B => k_asm); (case F => k_asm); (case X => k_asm); (case T => k_asm); (case k => exact rfl); (case d => walk_at "zr"); (case u => walk_at "zu"); (case o => k_all); (case lo => assumption); (case dr => assumption); (case hm => first | assumption | decide | omega); k_whole); intro r1 t1 o1 h1 tk1 F1 N1 hd1 ra1 rb1; (try dsimp only); (try k_sweep))
  k_steps
  (show wpAny _ _ (call (Value.ref 247) [Value.ref _, Value.int _ _]) _ _ _)
  k_dflt ((refine' take_call (N := Pull.news ?P ?N) ?B ?F ?X ?T ?k ?d ?u ?o ?lo ?dr ?hm ?_; (case N => k_asm); (case P => walk_at "zp"); (case B => k_asm); (case F => k_asm); (case X => k_asm); (case T => k_asm); (case k => exact rfl); (case d => walk_at "zr"); (case u => walk_at "zu"); (case o => k_all); (case lo => assumption); (case dr => assumption); (case hm => first | assumption | decide | omega); k_whole); intro r2 t2 o2 h2 tk2 F2 N2 hd2 ra2 rb2; (try dsimp only); (try k_sweep))
  k_steps
  try dsimp only
  (rename Fr _ _ _ _ => kF); (rename News _ _ _ _ => kN)
  refine' hret _ _ _ _ _ _ _ _ _ kF ?za ?zb ?zc ?zn (News.sub kN (by walk_at "zs")) hd2 ?y1 ?y2 ?y3 ?y4
  case za => rfl
  case zb => rfl
  case zc => rfl
  case zn => exact (by intro y hy; simp only [List.mem_cons, List.not_mem_nil, or_false, not_or] at hy; simp only [hy, if_false])
  all_goals omega
set_option maxHeartbeats 8000000 in
theorem l_conf : ∀ {w : World} {mean : ExcName → Option Value} {mg mb : Str → Option Value} {dp un : Nat} {fa : Addr} {fcd : Value} {gd : Option (List Code)} {outer : List Env} {A₀ : Around} {base h₀ : Heap} {L : Addr} {m : Str → Option Value} {s : Shared} {tl : List Stmt} {Q : Flow → Shared → Prop} {E : Value → Shared → Prop} {rest : List (Addr × Obj)} {k1 k2 : Bool}
    (B : Below A₀ base outer h₀) (F : Fr h₀ L s.heap m) (X : (heapK w.params).In h₀) (N : News h₀ L s.heap (rest)) (T : Top vw (looseW vw []) mean mg mb h₀) (hdp : dp < 340) (hu : un < 340)
    (r1 : m (Str.ofString "is_known") = some (.bool k1)) (r2 : m (Str.ofString "is_confirmed") = some (.bool k2))
    (hret : ∀ h' tk' m', Fr h₀ L h' m' → m' (Str.ofString "is_confirmed") = some (.bool (k2 && k1)) → Off [Str.ofString "is_confirmed"] m m' → News h₀ L h' rest → wpAny (model PySem.Challenge.rw_no0077_01.row.prog w) (ktrTop dp un gd (Str.ofString "law") (fnScope 30) L fa fcd [] outer) (execs tl (envOf (Str.ofString "law") (fnScope 30) L fa fcd)) Q E { s with heap := h', toks := tk' }),
    wpAny (model PySem.Challenge.rw_no0077_01.row.prog w) (ktrTop dp un gd (Str.ofString "law") (fnScope 30) L fa fcd [] outer) (execs ((stAt (fnBody 30) 3) :: tl) (envOf (Str.ofString "law") (fnScope 30) L fa fcd)) Q E s := by
  k_fill
  intro w mean mg mb dp un fa fcd gd outer A₀ base h₀ L m s tl Q E rest k1 k2 B F X N T hdp hu r1 r2 hret
  walk_at "zwa"
  cases k2
  · k_steps
    try dsimp only
    (rename Fr _ _ _ _ => kF); (rename News _ _ _ _ => kN)
    refine' hret _ _ _ kF ?za ?zn kN
    case za => rfl
    case zn => exact (by intro y hy; simp only [List.mem_cons, List.not_mem_nil, or_false, not_or] at hy; simp only [hy, if_false])
  · k_steps
    try dsimp only
    (rename Fr _ _ _ _ => kF); (rename News _ _ _ _ => kN)
    refine' hret _ _ _ kF ?zb ?zm kN
    case zb => rfl
    case zm => exact (by intro y hy; simp only [List.mem_cons, List.not_mem_nil, or_false, not_or] at hy; simp only [hy, if_false])
end
section
local macro_rules | `(tactic| walk_at "call ref") => `(tactic| (k_here; refine held ?_))
set_option maxHeartbeats 8000000 in
theorem l_client : ∀ {w : World} {mean : ExcName → Option Value} {mg mb : Str → Option Value} {dp un : Nat} {fa : Addr} {fcd : Value} {gd : Option (List Code)} {outer : List Env} {A₀ : Around} {base h₀ : Heap} {L : Addr} {m : Str → Option Value} {s : Shared} {tl : List Stmt} {Q : Flow → Shared → Prop} {E : Value → Shared → Prop} {rest : List (Addr × Obj)} {d : Addr} {od : Obj} {c k1 : Bool}
    (B : Below A₀ base outer h₀) (F : Fr h₀ L s.heap m) (X : (heapK w.params).In h₀) (N : News h₀ L s.heap ((d, od) :: rest)) (T : Top vw (looseW vw []) mean mg mb h₀) (hdp : dp < 340) (hu : un < 340)
    (r1 : m (Str.ofString "is_known") = some (.bool k1)) (r2 : m (Str.ofString "is_confirmed") = some (.bool c)) (rd : m (Str.ofString "draws") = some (.ref d)) (hoff : ∀ p ∈ rest, p.1 ≠ d) (hlo : (d == sysModules) = false) (hdr : IsDraws w od)
    (hret : ∀ cl ocl ky od' h' tk' m', Fr h₀ L h' m' → m' (Str.ofString "client") = some (.ref cl) → Off [Str.ofString "client"] m m' → News h₀ L h' ((d, od') :: (cl, ocl) :: rest) → IsDraws w od' → ocl.IsDictOf (Dz w) [(Str.ofString "confirmed", .bool c), (Str.ofString "shown", .bool k1), (Str.ofString "keys", .bool ky), (Str.ofString "blocked", .bool false)] → (cl == sysModules) = false → AllLt cl ((d, od') :: rest) → wpAny (model PySem.Challenge.rw_no0077_01.row.prog w) (ktrTop dp un gd (Str.ofString "law") (fnScope 30) L fa fcd [] outer) (execs tl (envOf (Str.ofString "law") (fnScope 30) L fa fcd)) Q E { s with heap := h', toks := tk' }),
    wpAny (model PySem.Challenge.rw_no0077_01.row.prog w) (ktrTop dp un gd (Str.ofString "law") (fnScope 30) L fa fcd [] outer) (execs ((stAt (fnBody 30) 4) :: tl) (envOf (Str.ofString "law") (fnScope 30) L fa fcd)) Q E s := by
  k_fill
  intro w mean mg mb dp un fa fcd gd outer A₀ base h₀ L m s tl Q E rest d od c k1 B F X N T hdp hu r1 r2 rd hoff hlo hdr hret
  walk_at "zwa"
  k_steps
  (show wpAny _ _ (call (Value.ref 247) [Value.ref _, Value.int _ _]) _ _ _)
  k_dflt ((refine' take_call (N := Pull.news ?P ?N) ?B ?F ?X ?T ?k ?d ?u ?o ?lo ?dr ?hm ?_; (case N => k_asm); (case P => walk_at "zp"); (case B => k_asm); (case F => k_asm); (case X => k_asm); (case T => k_asm); (case k => exact rfl); (case d => walk_at "zr"); (case u => walk_at "zu"); (case o => k_all); (case lo => assumption); (case dr => assumption); (case hm => first | assumption | decide | omega); k_whole); intro r1 t1 o1 h1 tk1 F1 N1 hd1 ra1 rb1; (try dsimp only); (try k_sweep))
  k_steps
  try dsimp only
  (rename Fr _ _ _ _ => kF); (rename News _ _ _ _ => kN)
  (rename Obj.IsDictOf _ _ (strPairs _) => hd9)
  refine' hret _ _ _ _ _ _ _ kF ?za ?zn (News.sub kN ?zk) hd1 hd9 ?zs ?zl
  case za => rfl
  case zn => exact (by intro y hy; simp only [List.mem_cons, List.not_mem_nil, or_false, not_or] at hy; simp only [hy, if_false])
  case zk => exact (by walk_at "zs")
  case zs => assumption
  case zl => (first | assumption | exact ⟨by assumption, by assumption⟩)
set_option maxHeartbeats 8000000 in
theorem l_blocked : ∀ {w : World} {mean : ExcName → Option Value} {mg mb : Str → Option Value} {dp un : Nat} {fa : Addr} {fcd : Value} {gd : Option (List Code)} {outer : List Env} {A₀ : Around} {base h₀ : Heap} {L : Addr} {m : Str → Option Value} {s : Shared} {tl : List Stmt} {Q : Flow → Shared → Prop} {E : Value → Shared → Prop} {rest : List (Addr × Obj)} {d : Addr} {od : Obj} {k1 : Bool}
    (B : Below A₀ base outer h₀) (F : Fr h₀ L s.heap m) (X : (heapK w.params).In h₀) (N : News h₀ L s.heap ((d, od) :: rest)) (T : Top vw (looseW vw []) mean mg mb h₀) (hdp : dp < 340) (hu : un < 340)
    (r1 : m (Str.ofString "is_known") = some (.bool k1)) (rd : m (Str.ofString "draws") = some (.ref d)) (hoff : ∀ p ∈ rest, p.1 ≠ d) (hlo : (d == sysModules) = false) (hdr : IsDraws w od)
    (hret : ∀ bl od' h' tk' m', Fr h₀ L h' m' → m' (Str.ofString "is_blocked") = some (.bool bl) → Off [Str.ofString "is_blocked"] m m' → News h₀ L h' ((d, od') :: rest) → IsDraws w od' → (k1 = true → bl = false) → wpAny (model PySem.Challenge.rw_no0077_01.row.prog w) (ktrTop dp un gd (Str.ofString "law") (fnScope 30) L fa fcd [] outer) (execs tl (envOf (Str.ofString "law") (fnScope 30) L fa fcd)) Q E { s with heap := h', toks := tk' }),
    wpAny (model PySem.Challenge.rw_no0077_01.row.prog w) (ktrTop dp un gd (Str.ofString "law") (fnScope 30) L fa fcd [] outer) (execs ((stAt (fnBody 30) 5) :: tl) (envOf (Str.ofString "law") (fnScope 30) L fa fcd)) Q E s := by
  k_fill
  intro w mean mg mb dp un fa fcd gd outer A₀ base h₀ L m s tl Q E rest d od k1 B F X N T hdp hu r1 rd hoff hlo hdr hret
  walk_at "zwa"
  cases k1
  · k_steps
    (show wpAny _ _ (call (Value.ref 247) [Value.ref _, Value.int _ _]) _ _ _)
    k_dflt ((refine' take_call (N := Pull.news ?P ?N) ?B ?F ?X ?T ?k ?d ?u ?o ?lo ?dr ?hm ?_; (case N => k_asm); (case P => walk_at "zp"); (case B => k_asm); (case F => k_asm); (case X => k_asm); (case T => k_asm); (case k => exact rfl); (case d => walk_at "zr"); (case u => walk_at "zu"); (case o => k_all); (case lo => assumption); (case dr => assumption); (case hm => first | assumption | decide | omega); k_whole); intro r1 t1 o1 h1 tk1 F1 N1 hd1 ra1 rb1; (try dsimp only); (try k_sweep))
    k_steps
    try dsimp only
    (rename Fr _ _ _ _ => kF); (rename News _ _ _ _ => kN)
    refine' hret _ _ _ _ _ kF ?za ?zn (News.sub kN ?zk) hd1 (fun h => nomatch h)
    case za => rfl
    case zn => exact (by intro y hy; simp only [List.mem_cons, List.not_mem_nil, or_false, not_or] at hy; simp only [hy, if_false])
    case zk => exact (by walk_at "zs")
  · k_steps
    try dsimp only
    (rename Fr _ _ _ _ => kF); (rename News _ _ _ _ => kN)
    refine' hret _ _ _ _ _ kF ?zb ?zm (News.sub kN ?zj) hdr (fun _ => rfl)
    case zb => rfl
    case zm => exact (by intro y hy; simp only [List.mem_cons, List.not_mem_nil, or_false, not_or] at hy; simp only [hy, if_false])
    case zj => exact (by walk_at "zs")
set_option maxHeartbeats 8000000 in
theorem l_server : ∀ {w : World} {mean : ExcName → Option Value} {mg mb : Str → Option Value} {dp un : Nat} {fa : Addr} {fcd : Value} {gd : Option (List Code)} {outer : List Env} {A₀ : Around} {base h₀ : Heap} {L : Addr} {m : Str → Option Value} {s : Shared} {tl : List Stmt} {Q : Flow → Shared → Prop} {E : Value → Shared → Prop} {rest : List (Addr × Obj)} {c bl : Bool}
    (B : Below A₀ base outer h₀) (F : Fr h₀ L s.heap m) (X : (heapK w.params).In h₀) (N : News h₀ L s.heap (rest)) (T : Top vw (looseW vw []) mean mg mb h₀) (hdp : dp < 340) (hu : un < 340)
    (r1 : m (Str.ofString "is_confirmed") = some (.bool c)) (r2 : m (Str.ofString "is_blocked") = some (.bool bl))
    (hret : ∀ sv osv h' tk' m', Fr h₀ L h' m' → m' (Str.ofString "server") = some (.ref sv) → Off [Str.ofString "server"] m m' → News h₀ L h' ((sv, osv) :: rest) → osv.IsDictOf (Dz w) [(Str.ofString "confirmed", .bool c), (Str.ofString "shown", .bool true), (Str.ofString "keys", .bool true), (Str.ofString "blocked", .bool bl)] → (sv == sysModules) = false → AllLt sv rest → wpAny (model PySem.Challenge.rw_no0077_01.row.prog w) (ktrTop dp un gd (Str.ofString "law") (fnScope 30) L fa fcd [] outer) (execs tl (envOf (Str.ofString "law") (fnScope 30) L fa fcd)) Q E { s with heap := h', toks := tk' }),
    wpAny (model PySem.Challenge.rw_no0077_01.row.prog w) (ktrTop dp un gd (Str.ofString "law") (fnScope 30) L fa fcd [] outer) (execs ((stAt (fnBody 30) 6) :: tl) (envOf (Str.ofString "law") (fnScope 30) L fa fcd)) Q E s := by
  k_fill
  intro w mean mg mb dp un fa fcd gd outer A₀ base h₀ L m s tl Q E rest c bl B F X N T hdp hu r1 r2 hret
  walk_at "zwa"
  k_steps
  try dsimp only
  (rename Fr _ _ _ _ => kF); (rename News _ _ _ _ => kN)
  (rename Obj.IsDictOf _ _ (strPairs _) => hd9)
  refine' hret _ _ _ _ _ kF ?za ?zn kN hd9 ?zs ?zl
  case za => rfl
  case zn => exact (by intro y hy; simp only [List.mem_cons, List.not_mem_nil, or_false, not_or] at hy; simp only [hy, if_false])
  case zs => assumption
  case zl => (first | assumption | exact ⟨by assumption, by assumption⟩)
end
section
local macro_rules | `(tactic| walk_at "call ref") => `(tactic| (k_here; refine held ?_))
set_option maxHeartbeats 8000000 in
theorem l_ends : ∀ {w : World} {mean : ExcName → Option Value} {mg mb : Str → Option Value} {dp un : Nat} {fa : Addr} {fcd : Value} {gd : Option (List Code)} {outer : List Env} {A₀ : Around} {base h₀ : Heap} {L : Addr} {m : Str → Option Value} {s : Shared} {tl : List Stmt} {Q : Flow → Shared → Prop} {E : Value → Shared → Prop} {d cl sv : Addr} {od ocl osv : Obj} {c k1 ky bl : Bool}
    (B : Below A₀ base outer h₀) (F : Fr h₀ L s.heap m) (X : (heapK w.params).In h₀) (N : News h₀ L s.heap ([(d, od), (cl, ocl), (sv, osv)])) (T : Top vw (looseW vw []) mean mg mb h₀) (hdp : dp < 330) (hu : un < 330)
    (rd : m (Str.ofString "draws") = some (.ref d)) (rc : m (Str.ofString "client") = some (.ref cl)) (rs : m (Str.ofString "server") = some (.ref sv)) (hlo : (d == sysModules) = false) (hlc : (cl == sysModules) = false) (hls : (sv == sysModules) = false) (hdr : IsDraws w od) (ncd : cl ≠ d) (nsd : sv ≠ d) (nsc : sv ≠ cl) (hcl : ocl.IsDictOf (Dz w) [(Str.ofString "confirmed", .bool c), (Str.ofString "shown", .bool k1), (Str.ofString "keys", .bool ky), (Str.ofString "blocked", .bool false)]) (hsv : osv.IsDictOf (Dz w) [(Str.ofString "confirmed", .bool c), (Str.ofString "shown", .bool true), (Str.ofString "keys", .bool true), (Str.ofString "blocked", .bool bl)])
    (hret : ∀ od' ofd1 sp1 as1 lo1 osp1 oas1 ol1 bag1 a1 a2 a3 l1 l2 l3 n1 ofd2 sp2 as2 lo2 osp2 oas2 ol2 bag2 b1 b2 b3 j1 j2 j3 n2 h' tk' m', Fr h₀ L h' m' → m' (Str.ofString "client") = some (.ref cl) → m' (Str.ofString "server") = some (.ref sv) → Off [Str.ofString "client", Str.ofString "server"] m m' → News h₀ L h' ((d, od') :: (sv, ofd2) :: (sp2, osp2) :: (as2, oas2) :: (lo2, ol2) :: (bag2 ++ (cl, ofd1) :: (sp1, osp1) :: (as1, oas1) :: (lo1, ol1) :: bag1)) → EndOK w cl sp1 as1 lo1 ofd1 osp1 oas1 ol1 bag1 c k1 ky false a1 a2 a3 l1 l2 l3 n1 → EndOK w sv sp2 as2 lo2 ofd2 osp2 oas2 ol2 bag2 c true true bl b1 b2 b3 j1 j2 j3 n2 → EndNe d cl sp1 as1 lo1 bag1 → EndNe d sv sp2 as2 lo2 bag2 → (∀ p ∈ (sp2, osp2) :: (as2, oas2) :: (lo2, ol2) :: bag2, ∀ q ∈ (cl, ofd1) :: (sp1, osp1) :: (as1, oas1) :: (lo1, ol1) :: bag1, p.1 ≠ q.1) → (∀ q ∈ (cl, ofd1) :: (sp1, osp1) :: (as1, oas1) :: (lo1, ol1) :: bag1, q.1 ≠ sv) → wpAny (model PySem.Challenge.rw_no0077_01.row.prog w) (ktrTop dp un gd (Str.ofString "law") (fnScope 30) L fa fcd [] outer) (execs tl (envOf (Str.ofString "law") (fnScope 30) L fa fcd)) Q E { s with heap := h', toks := tk' }),
    wpAny (model PySem.Challenge.rw_no0077_01.row.prog w) (ktrTop dp un gd (Str.ofString "law") (fnScope 30) L fa fcd [] outer) (execs ((stAt (fnBody 30) 7) :: tl) (envOf (Str.ofString "law") (fnScope 30) L fa fcd)) Q E s := by
  k_fill
  intro w mean mg mb dp un fa fcd gd outer A₀ base h₀ L m s tl Q E d cl sv od ocl osv c k1 ky bl B F X N T hdp hu rd rc rs hlo hlc hls hdr ncd nsd nsc hcl hsv hret
  walk_at "zwa"
  k_steps
  have q0 : ∀ p ∈ [(sv, osv)], p.1 ≠ d := List.forall_mem_cons.mpr ⟨nsd, List.forall_mem_nil _⟩
  have q1 : ∀ p ∈ [(sv, osv)], p.1 ≠ cl := List.forall_mem_cons.mpr ⟨nsc, List.forall_mem_nil _⟩
  (show wpAny _ _ (call (Value.ref 262) _) _ _ _)
  k_dflt ((refine' end_call (N := ?N) ?B ?F ?X ?T ?k ?d ?u ?e1 ?e2 ?e3 ?e4 ?e5 ?e6 ?e7 ?e8 ?e9 ?_; (case N => exact N); (case B => k_asm); (case F => k_asm); (case X => k_asm); (case T => k_asm); (case k => exact rfl); (case d => walk_at "zr"); (case u => walk_at "zu"); (case e1 => exact hdr); (case e2 => exact hlo); (case e3 => exact hlc); (case e4 => exact q0); (case e5 => exact q1); (case e6 => exact ncd); (case e7 => decide); (case e8 => decide); (case e9 => exact hcl); k_whole); intro od1 ofd1 sp1 as1 lo1 osp1 oas1 ol1 bag1 a11 a12 a13 l11 l12 l13 n1 h1 tk1 F1 N1 dr1 EO1 EN1 AP1; (try dsimp only); (try k_sweep))
  have ap1 : ∀ q ∈ (cl, ofd1) :: (sp1, osp1) :: (as1, oas1) :: (lo1, ol1) :: bag1, q.1 ≠ sv := List.forall_mem_cons.mpr ⟨nsc.symm, fun p hp => AP1 p hp _ (.head _)⟩
  have NQ := News.sub N1 (l' := (d, od1) :: (sv, osv) :: (cl, ofd1) :: (sp1, osp1) :: (as1, oas1) :: (lo1, ol1) :: bag1) (by
    walk_at "zm")
  clear N1 AP1
  k_steps
  (rename News _ _ _ _ => NZ)
  have q3 : ∀ p ∈ (cl, ofd1) :: (sp1, osp1) :: (as1, oas1) :: (lo1, ol1) :: bag1, p.1 ≠ d := List.forall_mem_cons.mpr ⟨ncd, List.forall_mem_cons.mpr ⟨EN1.n1, List.forall_mem_cons.mpr ⟨EN1.n2, List.forall_mem_cons.mpr ⟨EN1.n3, EN1.o1⟩⟩⟩⟩
  (show wpAny _ _ (call (Value.ref 262) _) _ _ _)
  k_dflt ((refine' end_call (N := ?N) ?B ?F ?X ?T ?k ?d ?u ?e1 ?e2 ?e3 ?e4 ?e5 ?e6 ?e7 ?e8 ?e9 ?_; (case N => exact NZ); (case B => k_asm); (case F => k_asm); (case X => k_asm); (case T => k_asm); (case k => exact rfl); (case d => walk_at "zr"); (case u => walk_at "zu"); (case e1 => exact dr1); (case e2 => exact hlo); (case e3 => exact hls); (case e4 => exact q3); (case e5 => exact ap1); (case e6 => exact nsd); (case e7 => decide); (case e8 => decide); (case e9 => exact hsv); k_whole); intro od2 ofd2 sp2 as2 lo2 osp2 oas2 ol2 bag2 a21 a22 a23 l21 l22 l23 n2 h2 tk2 F2 N2 dr2 EO2 EN2 AP2; (try dsimp only); (try k_sweep))
  (try clear NZ)
  k_steps
  try dsimp only
  (rename Fr _ _ _ _ => kF); (rename News _ _ _ _ => kN)
  refine' hret _ _ _ _ _ _ _ _ _ _ _ _ _ _ _ _ _ _ _ _ _ _ _ _ _ _ _ _ _ _ _ _ _ _ kF ?za ?zb ?zn (News.sub kN ?zk) EO1 EO2 EN1 EN2 AP2 ap1
  case za => rfl
  case zb => rfl
  case zn => exact (by intro y hy; simp only [List.mem_cons, List.not_mem_nil, or_false, not_or] at hy; simp only [hy, if_false])
  case zk => exact (by walk_at "zs")
end
section
local macro_rules | `(tactic| walk_at "call ref") => `(tactic| (k_here; refine held ?_))
local macro_rules | `(tactic| walk_at "subscriptTail") => `(tactic| walk_at "z18")
local macro_rules | `(tactic| walk_at "setItem ref str") => `(tactic| walk_at "z14")
local macro_rules | `(tactic| walk_at "eval ListComp") => `(tactic| (k_here; refine held ?_))
set_option maxHeartbeats 8000000 in
theorem f_loss : ∀ {w : World} {mean : ExcName → Option Value} {mg mb : Str → Option Value} {dp un : Nat} {fa : Addr} {fcd : Value} {gd : Option (List Code)} {outer : List Env} {A₀ : Around} {base h₀ : Heap} {L : Addr} {m : Str → Option Value} {s : Shared} {tl : List Stmt} {Q : Flow → Shared → Prop} {E : Value → Shared → Prop} {rest : List (Addr × Obj)} {sv sp as lo : Addr} {osv : Obj} {c sh ky bl : Bool} {n : Int} {tc : Tok}
    (B : Below A₀ base outer h₀) (F : Fr h₀ L s.heap m) (X : (heapK w.params).In h₀) (N : News h₀ L s.heap ((sv, osv) :: rest)) (T : Top vw (looseW vw []) mean mg mb h₀) (hdp : dp < 340) (hu : un < 340)
    (rs : m (Str.ofString "server") = some (.ref sv)) (hls : (sv == sysModules) = false) (hoff : ∀ p ∈ rest, p.1 ≠ sv) (hd : osv.IsDictOf (Dz w) [(Str.ofString "confirmed", .bool c), (Str.ofString "shown", .bool sh), (Str.ofString "keys", .bool ky), (Str.ofString "blocked", .bool bl), (Str.ofString "spaces", .ref sp), (Str.ofString "asked", .ref as), (Str.ofString "losses", .ref lo), (Str.ofString "count", .int n tc)])
    (hret : ∀ lo2 ol2 osv2 h' tk', Fr h₀ L h' m → News h₀ L h' ((sv, osv2) :: (lo2, ol2) :: rest) → osv2.IsDictOf (Dz w) [(Str.ofString "confirmed", .bool c), (Str.ofString "shown", .bool sh), (Str.ofString "keys", .bool ky), (Str.ofString "blocked", .bool bl), (Str.ofString "spaces", .ref sp), (Str.ofString "asked", .ref as), (Str.ofString "losses", .ref lo2), (Str.ofString "count", .int n tc)] → ol2.IsDictOf (Dz w) (tri .none .none .none) → (lo2 == sysModules) = false → AllLt lo2 rest → lo2 ≠ sv → wpAny (model PySem.Challenge.rw_no0077_01.row.prog w) (ktrTop dp un gd (Str.ofString "law") (fnScope 30) L fa fcd [] outer) (execs tl (envOf (Str.ofString "law") (fnScope 30) L fa fcd)) Q E { s with heap := h', toks := tk' }),
    wpAny (model PySem.Challenge.rw_no0077_01.row.prog w) (ktrTop dp un gd (Str.ofString "law") (fnScope 30) L fa fcd [] outer) (execs ((stAt (ifBody (stAt (fnBody 30) 8)) 0) :: tl) (envOf (Str.ofString "law") (fnScope 30) L fa fcd)) Q E s := by
  k_fill
  intro w mean mg mb dp un fa fcd gd outer A₀ base h₀ L m s tl Q E rest sv sp as lo osv c sh ky bl n tc B F X N T hdp hu rs hls hoff hd hret
  walk_at "zwa"
  k_steps
  (show wpAny _ _ _ _ _ _)
  k_dflt (refine LCg.ListComp_U (F₀ := by k_asm) (by rfl) (by decide) (by rfl) (by decide) (by rfl) ?_)
  k_steps
  (show wpAny _ _ (call (Value.ref 240) []) _ _ _)
  k_dflt ((refine' names_call (N := ?N) ?B ?F ?X ?T ?k ?d ?u ?_; (case N => k_asm); (case B => k_asm); (case F => k_asm); (case X => k_asm); (case T => k_asm); (case k => exact rfl); (case d => walk_at "zr"); (case u => walk_at "zu"); k_whole); intro ax t1 t2 t3 h1 tk1 F1 N1 aX; (try dsimp only); (try k_sweep))
  k_steps
  walk_at "zc"
  (show LCg.CompEnd _ _ _ _ _ _ _ _ _ _ _ _ _ _)
  (rename Fr _ _ _ _ => kF1); (rename News _ _ _ _ => kN1)
  refine' LCg.CompEnd.intro kF1 kN1 _ (sub3 ?qa1 ?qb1 ?qc1) ?off1 ?src1 ?nxt1
  case qa1 => walk_at "zp"
  case qb1 => walk_at "zp"
  case qc1 => walk_at "zp"
  case src1 => exact Or.inr ⟨_, by k_mem, rfl, _, rfl⟩
  case off1 => (repeat (first | assumption | (refine And.intro ⟨by k_ne, by k_ne, by k_ne⟩ ?_)))
  k_steps
  walk_at "zc"
  (show LCg.CompEnd _ _ _ _ _ _ _ _ _ _ _ _ _ _)
  (rename Fr _ _ _ _ => kF2); (rename News _ _ _ _ => kN2)
  refine' LCg.CompEnd.intro kF2 kN2 _ (sub3 ?qa2 ?qb2 ?qc2) ?off2 ?src2 ?nxt2
  case qa2 => walk_at "zp"
  case qb2 => walk_at "zp"
  case qc2 => walk_at "zp"
  case src2 => exact Or.inr ⟨_, by k_mem, rfl, _, rfl⟩
  case off2 => (repeat (first | assumption | (refine And.intro ⟨by k_ne, by k_ne, by k_ne⟩ ?_)))
  k_steps
  walk_at "zc"
  (show LCg.CompEnd _ _ _ _ _ _ _ _ _ _ _ _ _ _)
  (rename Fr _ _ _ _ => kF3); (rename News _ _ _ _ => kN3)
  refine' LCg.CompEnd.intro kF3 kN3 _ (sub3 ?qa3 ?qb3 ?qc3) ?off3 ?src3 ?nxt3
  case qa3 => walk_at "zp"
  case qb3 => walk_at "zp"
  case qc3 => walk_at "zp"
  case src3 => exact Or.inr ⟨_, by k_mem, rfl, _, rfl⟩
  case off3 => (repeat (first | assumption | (refine And.intro ⟨by k_ne, by k_ne, by k_ne⟩ ?_)))
  k_steps
  (show wpAny _ _ (call (Value.type "dict") _) _ _ _)
  (rename Fr _ _ _ _ => kF); (rename News _ _ _ _ => kN)
  refine' dict_pairs_N kF kN (modules_low (Top.nolimit T)) (by rfl) (items := [_, _, _]) (kvs := tri .none .none .none) ?mem ?prs ?sz ?nx
  case mem => k_mem
  case prs => exact .cons (PairAt.of kN (by k_mem)) (.cons (PairAt.of kN (by k_mem)) (.cons (PairAt.of kN (by k_mem)) .nil))
  case sz => exact Nat.le_of_ble_eq_true rfl
  clear kN
  intro lo2 ol2 h9 tk9 F9 N9 hd9 lo9 aL
  rw [merged_nil_of_nodup _ (by show List.Nodup [Str.ofString "initial", Str.ofString "handshake", Str.ofString "application"]; decide +kernel)] at hd9
  have aL := allLt_of aL
  simp only [AllLt] at aL
  walk_at "zc"
  try dsimp only
  have N8 := News.sub N9 (l' := (sv, osv) :: (lo2, ol2) :: rest) (by walk_at "zs")
  clear N9
  have l9 : @LT.lt Nat _ sv lo2 := by assumption
  k_steps
  try dsimp only
  (rename Fr _ _ _ _ => kF); (rename News _ _ _ _ => kN)
  (rename Obj.IsDictOf _ _ (stored _ _ _) => hd8)
  exact hret lo2 ol2 _ _ _ kF kN hd8 hd9 lo9 (by assumption) (Nat.ne_of_gt l9)
set_option maxHeartbeats 8000000 in
theorem f_ask : ∀ {w : World} {mean : ExcName → Option Value} {mg mb : Str → Option Value} {dp un : Nat} {fa : Addr} {fcd : Value} {gd : Option (List Code)} {outer : List Env} {A₀ : Around} {base h₀ : Heap} {L : Addr} {m : Str → Option Value} {s : Shared} {tl : List Stmt} {Q : Flow → Shared → Prop} {E : Value → Shared → Prop} {rest : List (Addr × Obj)} {cl sp as lo : Addr} {ocl oas : Obj} {c sh ky bl : Bool} {n : Int} {tc : Tok} {v1 v2 v3 : Value}
    (B : Below A₀ base outer h₀) (F : Fr h₀ L s.heap m) (X : (heapK w.params).In h₀) (N : News h₀ L s.heap ((as, oas) :: (cl, ocl) :: rest)) (T : Top vw (looseW vw []) mean mg mb h₀) (hdp : dp < 340) (hu : un < 340)
    (rc : m (Str.ofString "client") = some (.ref cl)) (hoff : ∀ p ∈ (cl, ocl) :: rest, p.1 ≠ as) (hla : (as == sysModules) = false) (hd : ocl.IsDictOf (Dz w) [(Str.ofString "confirmed", .bool c), (Str.ofString "shown", .bool sh), (Str.ofString "keys", .bool ky), (Str.ofString "blocked", .bool bl), (Str.ofString "spaces", .ref sp), (Str.ofString "asked", .ref as), (Str.ofString "losses", .ref lo), (Str.ofString "count", .int n tc)]) (ha : oas.IsDictOf (Dz w) (tri v1 v2 v3))
    (hret : ∀ oas2 h' tk', Fr h₀ L h' m → News h₀ L h' ((as, oas2) :: (cl, ocl) :: rest) → oas2.IsDictOf (Dz w) (tri v1 v2 .none) → wpAny (model PySem.Challenge.rw_no0077_01.row.prog w) (ktrTop dp un gd (Str.ofString "law") (fnScope 30) L fa fcd [] outer) (execs tl (envOf (Str.ofString "law") (fnScope 30) L fa fcd)) Q E { s with heap := h', toks := tk' }),
    wpAny (model PySem.Challenge.rw_no0077_01.row.prog w) (ktrTop dp un gd (Str.ofString "law") (fnScope 30) L fa fcd [] outer) (execs ((stAt (ifBody (stAt (fnBody 30) 8)) 1) :: tl) (envOf (Str.ofString "law") (fnScope 30) L fa fcd)) Q E s := by
  k_fill
  intro w mean mg mb dp un fa fcd gd outer A₀ base h₀ L m s tl Q E rest cl sp as lo ocl oas c sh ky bl n tc v1 v2 v3 B F X N T hdp hu rc hoff hla hd ha hret
  walk_at "zwa"
  obtain ⟨nca, hoff⟩ := List.forall_mem_cons.mp hoff
  have nca : cl ≠ as := nca
  k_steps
  try dsimp only
  (rename Fr _ _ _ _ => kF); (rename News _ _ _ _ => kN)
  (rename Obj.IsDictOf _ _ (stored _ _ _) => hd8)
  exact hret _ _ _ kF kN hd8
set_option maxHeartbeats 8000000 in
theorem f_sp : ∀ {w : World} {mean : ExcName → Option Value} {mg mb : Str → Option Value} {dp un : Nat} {fa : Addr} {fcd : Value} {gd : Option (List Code)} {outer : List Env} {A₀ : Around} {base h₀ : Heap} {L : Addr} {m : Str → Option Value} {s : Shared} {tl : List Stmt} {Q : Flow → Shared → Prop} {E : Value → Shared → Prop} {rest : List (Addr × Obj)} {cl sp as lo : Addr} {ocl : Obj} {c sh ky bl : Bool} {n : Int} {tc : Tok} {sv1 sv2 sv3 : Value} {k : Nat}
    (B : Below A₀ base outer h₀) (F : Fr h₀ L s.heap m) (X : (heapK w.params).In h₀) (N : News h₀ L s.heap ((cl, ocl) :: (sp, listOf #[sv1, sv2, sv3] k) :: rest)) (T : Top vw (looseW vw []) mean mg mb h₀) (hdp : dp < 340) (hu : un < 340)
    (rc : m (Str.ofString "client") = some (.ref cl)) (hoff : ∀ p ∈ (sp, listOf #[sv1, sv2, sv3] k) :: rest, p.1 ≠ cl) (hd : ocl.IsDictOf (Dz w) [(Str.ofString "confirmed", .bool c), (Str.ofString "shown", .bool sh), (Str.ofString "keys", .bool ky), (Str.ofString "blocked", .bool bl), (Str.ofString "spaces", .ref sp), (Str.ofString "asked", .ref as), (Str.ofString "losses", .ref lo), (Str.ofString "count", .int n tc)])
    (hret : ∀ sp2 x dx se k2 ocl2 o oe tz tn h' tk', Fr h₀ L h' m → News h₀ L h' ((cl, ocl2) :: (sp2, listOf #[sv1, sv2, .ref x] k2) :: (se, oe) :: (x, instObj 229 dx) :: (dx, o) :: (sp, listOf #[sv1, sv2, sv3] k) :: rest) → ocl2.IsDictOf (Dz w) [(Str.ofString "confirmed", .bool c), (Str.ofString "shown", .bool sh), (Str.ofString "keys", .bool ky), (Str.ofString "blocked", .bool bl), (Str.ofString "spaces", .ref sp2), (Str.ofString "asked", .ref as), (Str.ofString "losses", .ref lo), (Str.ofString "count", .int n tc)] → IsSp w.params o (.str (Str.ofString "application") tn) (.int 0 tz) (.ref se) .none → oe.IsDictOf (Iz w) [] → (se == sysModules) = false → wpAny (model PySem.Challenge.rw_no0077_01.row.prog w) (ktrTop dp un gd (Str.ofString "law") (fnScope 30) L fa fcd [] outer) (execs tl (envOf (Str.ofString "law") (fnScope 30) L fa fcd)) Q E { s with heap := h', toks := tk' }),
    wpAny (model PySem.Challenge.rw_no0077_01.row.prog w) (ktrTop dp un gd (Str.ofString "law") (fnScope 30) L fa fcd [] outer) (execs ((stAt (ifBody (stAt (fnBody 30) 8)) 2) :: tl) (envOf (Str.ofString "law") (fnScope 30) L fa fcd)) Q E s := by
  k_fill
  intro w mean mg mb dp un fa fcd gd outer A₀ base h₀ L m s tl Q E rest cl sp as lo ocl c sh ky bl n tc sv1 sv2 sv3 k B F X N T hdp hu rc hoff hd hret
  walk_at "zwa"
  obtain ⟨nsc, hoff⟩ := List.forall_mem_cons.mp hoff
  have nsc : sp ≠ cl := nsc
  k_steps
  (show wpAny _ _ (call (Value.ref 229) _) _ _ _)
  k_dflt ((refine' space_new (N := ?N) ?B ?F ?X ?T ?k ?d ?u ?_; (case N => k_asm); (case B => k_asm); (case F => k_asm); (case X => k_asm); (case T => k_asm); (case k => exact rfl); (case d => walk_at "zr"); (case u => walk_at "zu"); k_whole); intro x dx se o oe tz h1 tk1 F1 N1 hs1 he1 lo1 q1 q2 q3 q4 q5; (try dsimp only); (try k_sweep))
  (simp only [AllLt] at q1 q4 q5); walk_at "zc"
  k_steps
  try dsimp only
  (rename Fr _ _ _ _ => kF); (rename News _ _ _ _ => kN)
  (rename Obj.IsDictOf _ _ (stored _ _ _) => hd8)
  exact hret _ x dx se _ _ o oe tz _ _ _ kF (News.sub kN (by walk_at "zs")) hd8 hs1 he1 lo1
end
theorem body30 : (ifBody (stAt (fnBody 30) 8)) = [stAt (ifBody (stAt (fnBody 30) 8)) 0, stAt (ifBody (stAt (fnBody 30) 8)) 1, stAt (ifBody (stAt (fnBody 30) 8)) 2] := by kernel_rfl
theorem sp_new {w : World} {bag : List (Addr × Obj)} {x dx se : Addr} {o oe : Obj} {nm : Str} {tn tz : Tok} (h1 : (x, instObj 229 dx) ∈ bag) (h2 : (dx, o) ∈ bag) (h3 : (se, oe) ∈ bag) (hs : IsSp w.params o (.str nm tn) (.int 0 tz) (.ref se) .none) (he : oe.IsDictOf (Iz w) []) (lo : (se == sysModules) = false) :
    SpIn w bag (.ref x) nm none := ⟨x, dx, se, o, oe, [], .int 0 tz, .none, [], [], tn, rfl, h1, h2, h3, hs, he, lo, Nat.zero_le _, Tie.nil, by simp⟩
section
set_option maxHeartbeats 8000000 in
theorem l_test : ∀ {w : World} {mean : ExcName → Option Value} {mg mb : Str → Option Value} {dp un : Nat} {fa : Addr} {fcd : Value} {gd : Option (List Code)} {outer : List Env} {A₀ : Around} {base h₀ : Heap} {L : Addr} {m : Str → Option Value} {s : Shared} {tl : List Stmt} {Q : Flow → Shared → Prop} {E : Value → Shared → Prop} {rest : List (Addr × Obj)} {k1 : Bool} {body : List Stmt} {pos : Pos}
    (B : Below A₀ base outer h₀) (F : Fr h₀ L s.heap m) (X : (heapK w.params).In h₀) (N : News h₀ L s.heap (rest)) (T : Top vw (looseW vw []) mean mg mb h₀) (hdp : dp < 340) (hu : un < 340)
    (r1 : m (Str.ofString "is_known") = some (.bool k1)) (hyes : k1 = false → ∀ h' tk', Fr h₀ L h' m → News h₀ L h' rest → wpAny (model PySem.Challenge.rw_no0077_01.row.prog w) (ktrTop dp un gd (Str.ofString "law") (fnScope 30) L fa fcd [] outer) (execs body (envOf (Str.ofString "law") (fnScope 30) L fa fcd)) (fun f s' => match f with | .next => wpAny (model PySem.Challenge.rw_no0077_01.row.prog w) (ktrTop dp un gd (Str.ofString "law") (fnScope 30) L fa fcd [] outer) (execs tl (envOf (Str.ofString "law") (fnScope 30) L fa fcd)) Q E s' | f => Q f s') E { s with heap := h', toks := tk' })
    (hret : k1 = true → ∀ h' tk', Fr h₀ L h' m → News h₀ L h' rest → wpAny (model PySem.Challenge.rw_no0077_01.row.prog w) (ktrTop dp un gd (Str.ofString "law") (fnScope 30) L fa fcd [] outer) (execs tl (envOf (Str.ofString "law") (fnScope 30) L fa fcd)) Q E { s with heap := h', toks := tk' }),
    wpAny (model PySem.Challenge.rw_no0077_01.row.prog w) (ktrTop dp un gd (Str.ofString "law") (fnScope 30) L fa fcd [] outer) (execs (.If (ifTest (stAt (fnBody 30) 8)) body [] pos :: tl) (envOf (Str.ofString "law") (fnScope 30) L fa fcd)) Q E s := by
  k_fill
  intro w mean mg mb dp un fa fcd gd outer A₀ base h₀ L m s tl Q E rest k1 body pos B F X N T hdp hu r1 hyes hret
  conv in (ifTest (stAt (fnBody 30) 8)) => whnf
  k_steps
  all_goals (try dsimp only)
  · (rename k1 = true => e2)
    exact hret e2 _ _ F N
  · (rename k1 = false => e2)
    exact hyes e2 _ _ F N
set_option maxHeartbeats 8000000 in
theorem l_if : ∀ {w : World} {mean : ExcName → Option Value} {mg mb : Str → Option Value} {dp un : Nat} {fa : Addr} {fcd : Value} {gd : Option (List Code)} {outer : List Env} {A₀ : Around} {base h₀ : Heap} {L : Addr} {m : Str → Option Value} {s : Shared} {tl : List Stmt} {Q : Flow → Shared → Prop} {E : Value → Shared → Prop} {d cl sv sp1 as1 lo1 sp2 as2 lo2 : Addr} {ofd1 osp1 oas1 ol1 ofd2 osp2 oas2 ol2 : Obj} {bag1 bag2 : List (Addr × Obj)} {c k1 ky bl : Bool} {a1 a2 a3 l1 l2 l3 b1 b2 b3 j1 j2 j3 : Option Int} {n1 n2 : Int}
    (B : Below A₀ base outer h₀) (F : Fr h₀ L s.heap m) (X : (heapK w.params).In h₀) (N : News h₀ L s.heap ((sv, ofd2) :: (sp2, osp2) :: (as2, oas2) :: (lo2, ol2) :: (bag2 ++ (cl, ofd1) :: (sp1, osp1) :: (as1, oas1) :: (lo1, ol1) :: bag1))) (T : Top vw (looseW vw []) mean mg mb h₀) (hdp : dp < 340) (hu : un < 340)
    (r1 : m (Str.ofString "is_known") = some (.bool k1)) (rc : m (Str.ofString "client") = some (.ref cl)) (rs : m (Str.ofString "server") = some (.ref sv)) (EO1 : EndOK w cl sp1 as1 lo1 ofd1 osp1 oas1 ol1 bag1 c k1 ky false a1 a2 a3 l1 l2 l3 n1) (EO2 : EndOK w sv sp2 as2 lo2 ofd2 osp2 oas2 ol2 bag2 c true true bl b1 b2 b3 j1 j2 j3 n2) (EN1 : EndNe d cl sp1 as1 lo1 bag1) (EN2 : EndNe d sv sp2 as2 lo2 bag2) (AP2 : ∀ p ∈ (sp2, osp2) :: (as2, oas2) :: (lo2, ol2) :: bag2, ∀ q ∈ (cl, ofd1) :: (sp1, osp1) :: (as1, oas1) :: (lo1, ol1) :: bag1, p.1 ≠ q.1) (ap1 : ∀ q ∈ (cl, ofd1) :: (sp1, osp1) :: (as1, oas1) :: (lo1, ol1) :: bag1, q.1 ≠ sv)
    (hret : ∀ led sp as lo ofd osp oas ol bag spS asS loS ofdS ospS oasS olS bagS e3 i1 i2 i3 h' tk', Fr h₀ L h' m → News h₀ L h' led → EndIn w led cl sp as lo ofd osp oas ol bag c k1 ky false a1 a2 e3 l1 l2 l3 n1 → EndIn w led sv spS asS loS ofdS ospS oasS olS bagS c true true bl b1 b2 b3 i1 i2 i3 n2 → (k1 = false → e3 = none) → wpAny (model PySem.Challenge.rw_no0077_01.row.prog w) (ktrTop dp un gd (Str.ofString "law") (fnScope 30) L fa fcd [] outer) (execs tl (envOf (Str.ofString "law") (fnScope 30) L fa fcd)) Q E { s with heap := h', toks := tk' }),
    wpAny (model PySem.Challenge.rw_no0077_01.row.prog w) (ktrTop dp un gd (Str.ofString "law") (fnScope 30) L fa fcd [] outer) (execs ((stAt (fnBody 30) 8) :: tl) (envOf (Str.ofString "law") (fnScope 30) L fa fcd)) Q E s := by
  k_fill
  intro w mean mg mb dp un fa fcd gd outer A₀ base h₀ L m s tl Q E d cl sv sp1 as1 lo1 sp2 as2 lo2 ofd1 osp1 oas1 ol1 ofd2 osp2 oas2 ol2 bag1 bag2 c k1 ky bl a1 a2 a3 l1 l2 l3 b1 b2 b3 j1 j2 j3 n1 n2 B F X N T hdp hu r1 rc rs EO1 EO2 EN1 EN2 AP2 ap1 hret
  have m0 : ∀ p ∈ (cl, ofd1) :: (sp1, osp1) :: (as1, oas1) :: (lo1, ol1) :: bag1, p ∈ (sv, ofd2) :: (sp2, osp2) :: (as2, oas2) :: (lo2, ol2) :: (bag2 ++ (cl, ofd1) :: (sp1, osp1) :: (as1, oas1) :: (lo1, ol1) :: bag1) := fun p hp => .tail _ (.tail _ (.tail _ (.tail _ (List.mem_append.mpr (.inr hp)))))
  have m1 : ∀ p ∈ bag2, p ∈ (sv, ofd2) :: (sp2, osp2) :: (as2, oas2) :: (lo2, ol2) :: (bag2 ++ (cl, ofd1) :: (sp1, osp1) :: (as1, oas1) :: (lo1, ol1) :: bag1) := fun p hp => .tail _ (.tail _ (.tail _ (.tail _ (List.mem_append.mpr (.inl hp)))))
  change wpAny _ _ (execs (.If (ifTest (stAt (fnBody 30) 8)) (ifBody (stAt (fnBody 30) 8)) [] _ :: tl) (envOf (Str.ofString "law") (fnScope 30) L fa fcd)) _ _ _
  refine' l_test  B ?F4 X ?N4 T hdp hu ?z0_4 ?z1_4 ?hr4
  case F4 => with_reducible assumption
  case z0_4 => exact r1
  case N4 => with_reducible assumption
  case z1_4 => 
    intro hk hp2 tk2 F2 N2
    (try dsimp only)
    rw [body30]
    obtain ⟨⟨tc1, hd1⟩, ⟨sv1, sv2, sv3, k0, rfl, hs1, hs2, hs3⟩, ⟨v1, v2, v3, hq, g1, g2, g3⟩, hl1, hn10, hn13, hz1, hz2, hz3⟩ := EO1
    obtain ⟨⟨tc2, hd2⟩, hso2, ha2, -, hn20, hn23, hy1, hy2, hy3⟩ := EO2
    refine' f_loss  B ?F1 X ?N1 T hdp hu ?z0_1 ?z1_1 ?z2_1 ?z3_1 ?hr1
    case F1 => with_reducible assumption
    case N1 => with_reducible assumption
    case z0_1 => exact rs
    case z1_1 => exact hy1
    case z2_1 => exact List.forall_mem_cons.mpr ⟨EN2.n4, List.forall_mem_cons.mpr ⟨EN2.n5, List.forall_mem_cons.mpr ⟨EN2.n6, all_ne_app EN2.o2 ap1⟩⟩⟩
    case z3_1 => exact hd2
    intro lo3 ol3 osv2 hp3 tk3 F3 N3 hd3 hol3 hz4 aL nls
    try dsimp only
    have aL := tb_ltOf aL
    have q1 : @LT.lt Nat _ cl lo3 := aL (cl, ofd1) (.tail _ (.tail _ (.tail _ (List.mem_append.mpr (.inr (.head _))))))
    have q2 : @LT.lt Nat _ as1 lo3 := aL (as1, oas1) (.tail _ (.tail _ (.tail _ (List.mem_append.mpr (.inr (.tail _ (.tail _ (.head _))))))))
    simp only [List.forall_mem_cons] at AP2 ap1
    obtain ⟨⟨p11, p12, p13, p14, p15⟩, ⟨p21, p22, p23, p24, p25⟩, ⟨p31, p32, p33, p34, p35⟩, p4⟩ := AP2
    obtain ⟨u1, u2, u3, u4, u5⟩ := ap1
    have N4 := News.sub N3 (l' := (as1, oas1) :: (cl, ofd1) :: (sv, osv2) :: (lo3, ol3) :: (sp2, osp2) :: (as2, oas2) :: (lo2, ol2) :: (bag2 ++ (sp1, listOf #[sv1, sv2, sv3] k0) :: (lo1, ol1) :: bag1)) (by
      walk_at "zm")
    clear N3 N2 N m0 m1
    have c1 : ∀ p ∈ (cl, ofd1) :: (sv, osv2) :: (lo3, ol3) :: (sp2, osp2) :: (as2, oas2) :: (lo2, ol2) :: (bag2 ++ (sp1, listOf #[sv1, sv2, sv3] k0) :: (lo1, ol1) :: bag1), p.1 ≠ as1 := by
      simp only [List.forall_mem_cons]
      exact ⟨EN1.n5.symm, u3.symm, Nat.ne_of_gt q2, p13, p23, p33, all_ne_app (fun p hp => (p4 p hp).2.2.1) (List.forall_mem_cons.mpr ⟨EN1.n7, List.forall_mem_cons.mpr ⟨EN1.n9.symm, EN1.o4⟩⟩)⟩
    refine' f_ask  B ?F2 X ?N2 T hdp hu ?z0_2 ?z1_2 ?z2_2 ?z3_2 ?z4_2 ?hr2
    case F2 => with_reducible assumption
    case N2 => with_reducible assumption
    case z0_2 => exact rc
    case z1_2 => exact c1
    case z2_2 => exact hz2
    case z3_2 => exact hd1
    case z4_2 => exact hq
    intro oas3 hp4 tk4 F4 N4 hq4
    try dsimp only
    have N5 := News.sub N4 (l' := (cl, ofd1) :: (sp1, listOf #[sv1, sv2, sv3] k0) :: (as1, oas3) :: (sv, osv2) :: (lo3, ol3) :: (sp2, osp2) :: (as2, oas2) :: (lo2, ol2) :: (bag2 ++ (lo1, ol1) :: bag1)) (by
      walk_at "zm")
    clear N4
    have c2 : ∀ p ∈ (sp1, listOf #[sv1, sv2, sv3] k0) :: (as1, oas3) :: (sv, osv2) :: (lo3, ol3) :: (sp2, osp2) :: (as2, oas2) :: (lo2, ol2) :: (bag2 ++ (lo1, ol1) :: bag1), p.1 ≠ cl := by
      simp only [List.forall_mem_cons]
      exact ⟨EN1.n4, EN1.n5, u1.symm, Nat.ne_of_gt q1, p11, p21, p31, all_ne_app (fun p hp => (p4 p hp).1) (List.forall_mem_cons.mpr ⟨EN1.n6, EN1.o2⟩)⟩
    refine' f_sp  B ?F3 X ?N3 T hdp hu ?z0_3 ?z1_3 ?z2_3 ?hr3
    case F3 => with_reducible assumption
    case N3 => with_reducible assumption
    case z0_3 => exact rc
    case z1_3 => exact c2
    case z2_3 => exact hd1
    intro sp3 x dx se k3 ocl2 ox oe tz tn hp5 tk5 F5 N5 hd5 hsx hex hzx
    try dsimp only
    refine wpAny_execs_nil ?_
    (try dsimp only)
    have mb : ∀ p ∈ (se, oe) :: (x, instObj 229 dx) :: (dx, ox) :: bag1, p ∈ (cl, ocl2) :: (sp3, listOf #[sv1, sv2, .ref x] k3) :: (se, oe) :: (x, instObj 229 dx) :: (dx, ox) :: (sp1, listOf #[sv1, sv2, sv3] k0) :: (as1, oas3) :: (sv, osv2) :: (lo3, ol3) :: (sp2, osp2) :: (as2, oas2) :: (lo2, ol2) :: (bag2 ++ (lo1, ol1) :: bag1) := by
      walk_at "zm"
    have mb2 : ∀ p ∈ bag2, p ∈ (cl, ocl2) :: (sp3, listOf #[sv1, sv2, .ref x] k3) :: (se, oe) :: (x, instObj 229 dx) :: (dx, ox) :: (sp1, listOf #[sv1, sv2, sv3] k0) :: (as1, oas3) :: (sv, osv2) :: (lo3, ol3) :: (sp2, osp2) :: (as2, oas2) :: (lo2, ol2) :: (bag2 ++ (lo1, ol1) :: bag1) := by
      intro p hp; simp only [List.mem_cons, List.mem_append]; simp only [hp, true_or, or_true]
    have up : ∀ p ∈ bag1, p ∈ (se, oe) :: (x, instObj 229 dx) :: (dx, ox) :: bag1 := fun p hp => .tail _ (.tail _ (.tail _ hp))
    have nw : SpIn w ((se, oe) :: (x, instObj 229 dx) :: (dx, ox) :: bag1) (.ref x) (Str.ofString "application") none := sp_new (.tail _ (.head _)) (.tail _ (.tail _ (.head _))) (.head _) hsx hex hzx
    have ml : (lo1, ol1) ∈ (cl, ocl2) :: (sp3, listOf #[sv1, sv2, .ref x] k3) :: (se, oe) :: (x, instObj 229 dx) :: (dx, ox) :: (sp1, listOf #[sv1, sv2, sv3] k0) :: (as1, oas3) :: (sv, osv2) :: (lo3, ol3) :: (sp2, osp2) :: (as2, oas2) :: (lo2, ol2) :: (bag2 ++ (lo1, ol1) :: bag1) := by
      simp only [List.mem_cons, List.mem_append, true_or, or_true]
    exact hret _ _ _ _ _ _ _ _ _ _ _ _ _ _ _ _ _ _ _ _ _ _ _ F5 N5
      ⟨⟨⟨tc1, hd5⟩, ⟨sv1, sv2, .ref x, k3, rfl, hs1.mono up, hs2.mono up, nw⟩, ⟨v1, v2, .none, hq4, g1, g2, .inl ⟨rfl, rfl⟩⟩, hl1, hn10, hn13, hz1, hz2, hz3⟩, .head _, .tail _ (.head _), .tail _ (.tail _ (.tail _ (.tail _ (.tail _ (.tail _ (.head _)))))), ml, mb⟩
      ⟨⟨⟨tc2, hd3⟩, hso2, ha2, ⟨.none, .none, .none, hol3, .inl ⟨rfl, rfl⟩, .inl ⟨rfl, rfl⟩, .inl ⟨rfl, rfl⟩⟩, hn20, hn23, hy1, hy2, hz4⟩, by simp only [List.mem_cons, true_or, or_true], by simp only [List.mem_cons, true_or, or_true], by simp only [List.mem_cons, true_or, or_true], by simp only [List.mem_cons, true_or, or_true], mb2⟩ (fun _ => rfl)
  intro hk hp2 tk2 F2 N2
  try dsimp only
  exact hret _ _ _ _ _ _ _ _ _ _ _ _ _ _ _ _ _ _ _ _ _ _ _ F2 N2 ⟨EO1, m0 _ (.head _), m0 _ (.tail _ (.head _)), m0 _ (.tail _ (.tail _ (.head _))), m0 _ (.tail _ (.tail _ (.tail _ (.head _)))), fun p hp => m0 _ (.tail _ (.tail _ (.tail _ (.tail _ hp))))⟩ ⟨EO2, .head _, .tail _ (.head _), .tail _ (.tail _ (.head _)), .tail _ (.tail _ (.tail _ (.head _))), m1⟩ (fun h => by rw [hk] at h; cases h)
end
section
local macro_rules | `(tactic| walk_at "call ref") => `(tactic| (k_here; refine held ?_))
set_option maxHeartbeats 8000000 in
theorem b_told : ∀ {w : World} {mean : ExcName → Option Value} {mg mb : Str → Option Value} {dp un : Nat} {fa : Addr} {fcd : Value} {gd : Option (List Code)} {outer : List Env} {A₀ : Around} {base h₀ : Heap} {L : Addr} {m : Str → Option Value} {s : Shared} {tl : List Stmt} {Q : Flow → Shared → Prop} {E : Value → Shared → Prop} {rest : List (Addr × Obj)} {fd sp as lo : Addr} {ofd osp oas ol : Obj} {bag : List (Addr × Obj)} {b d now n : Int} {tb td tn : Tok} {c sh ky bl : Bool} {a1 a2 a3 l1 l2 l3 : Option Int}
    (B : Below A₀ base outer h₀) (F : Fr h₀ L s.heap m) (X : (heapK w.params).In h₀) (N : News h₀ L s.heap (rest)) (T : Top vw (looseW vw []) mean mg mb h₀) (hdp : dp < 340) (hu : un < 340)
    (r1 : m (Str.ofString "end") = some (.ref fd)) (r2 : m (Str.ofString "base") = some (.int b tb)) (r3 : m (Str.ofString "delay") = some (.int d td)) (r4 : m (Str.ofString "now") = some (.int now tn)) (EI : EndIn w rest fd sp as lo ofd osp oas ol bag c sh ky bl a1 a2 a3 l1 l2 l3 n) (hb0 : 0 ≤ b) (hb1 : b < 1000) (hd0 : 0 ≤ d) (hd1 : d < 1000)
    (hret : ∀ aq oaq v v1 v2 v3 new h' tk' m', Fr h₀ L h' m' → m' (Str.ofString "asked") = some (.ref aq) → m' (Str.ofString "told") = some (v) → Off [Str.ofString "asked", Str.ofString "told"] m m' → News h₀ L h' (new ++ rest) → (∀ p ∈ new, ∀ q ∈ rest, p.1 ≠ q.1) → (aq, oaq) ∈ new → oaq.IsDictOf (Dz w) (tri v1 v2 v3) → OV v1 a1 → OV v2 a2 → OV v3 a3 → (aq == sysModules) = false → T3 new v (nextS l1 l2 l3 (probeS b d n now c sh ky a1 a2 a3) bl) → wpAny (model PySem.Challenge.rw_no0077_01.row.prog w) (ktrTop dp un gd (Str.ofString "law") (fnScope 30) L fa fcd [] outer) (execs tl (envOf (Str.ofString "law") (fnScope 30) L fa fcd)) Q E { s with heap := h', toks := tk' }),
    wpAny (model PySem.Challenge.rw_no0077_01.row.prog w) (ktrTop dp un gd (Str.ofString "law") (fnScope 30) L fa fcd [] outer) (execs ((stAt (forBody (stAt (fnBody 30) 10)) 0) :: tl) (envOf (Str.ofString "law") (fnScope 30) L fa fcd)) Q E s := by
  k_fill
  intro w mean mg mb dp un fa fcd gd outer A₀ base h₀ L m s tl Q E rest fd sp as lo ofd osp oas ol bag b d now n tb td tn c sh ky bl a1 a2 a3 l1 l2 l3 B F X N T hdp hu r1 r2 r3 r4 EI hb0 hb1 hd0 hd1 hret
  walk_at "zwa"
  have N0 : id (News h₀ L s.heap rest) := N
  k_steps
  (show wpAny _ _ (call (Value.ref 269) _) _ _ _)
  k_dflt ((refine' told_call (N := ?N) ?B ?F ?X ?T ?k ?d ?u ?e1 ?e2 ?e3 ?e4 ?e5 ?e6 ?e7 ?e8 ?e9 ?_; (case N => k_asm); (case B => k_asm); (case F => k_asm); (case X => k_asm); (case T => k_asm); (case k => exact rfl); (case d => walk_at "zr"); (case u => walk_at "zu"); (case e1 => exact EI.ok); (case e2 => exact EI.mf); (case e3 => exact EI.ms); (case e4 => exact EI.ml); (case e5 => exact EI.mb); (case e6 => exact hb0); (case e7 => exact hb1); (case e8 => exact hd0); (case e9 => exact hd1); k_whole); intro tup aq oaq v v1 v2 v3 new kt h1 tk1 F1 N1 KK FR mT mA hA g1 g2 g3 hla tv; (try dsimp only); (try k_sweep))
  have NZ := news_app N1 (KK _ (held N0))
  have hap := FR _ (held N0)
  have NY := News.sub NZ (l' := (tup, _) :: (new ++ rest)) (List.forall_mem_cons.mpr ⟨List.mem_append.mpr (.inl mT), fun p hp => hp⟩)
  (try clear N1); (try clear NZ); (try clear N)
  k_steps
  try dsimp only
  (rename Fr _ _ _ _ => kF); (rename News _ _ _ _ => kN)
  refine' hret aq oaq v v1 v2 v3 new _ _ _ kF ?za ?zb ?zn (News.sub kN (fun p hp => .tail _ hp)) hap mA hA g1 g2 g3 hla tv
  case za => rfl
  case zb => rfl
  case zn => exact (by intro y hy; simp only [List.mem_cons, List.not_mem_nil, or_false, not_or] at hy; simp only [hy, if_false])
end
section
local macro_rules | `(tactic| walk_at "call ref") => `(tactic| (k_here; refine held ?_))
local macro_rules | `(tactic| walk_at "subscriptTail") => `(tactic| walk_at "z18")
local macro_rules | `(tactic| walk_at "compareOp NotEq") => `(tactic| (k_here; refine held ?_))
local macro_rules | `(tactic| walk_at "compareOp NotEq ref ref") => `(tactic| (k_here; refine held ?_))
set_option maxHeartbeats 8000000 in
theorem b_if1 : ∀ {w : World} {mean : ExcName → Option Value} {mg mb : Str → Option Value} {dp un : Nat} {fa : Addr} {fcd : Value} {gd : Option (List Code)} {outer : List Env} {A₀ : Around} {base h₀ : Heap} {L : Addr} {m : Str → Option Value} {s : Shared} {tl : List Stmt} {Q : Flow → Shared → Prop} {E : Value → Shared → Prop} {rest : List (Addr × Obj)} {fd sp as lo : Addr} {ofd osp oas ol : Obj} {bag : List (Addr × Obj)} {b d now n : Int} {tb td tn : Tok} {c sh ky bl : Bool} {a1 a2 a3 l1 l2 l3 : Option Int} {aq : Addr} {oaq : Obj} {v v1 v2 v3 : Value}
    (B : Below A₀ base outer h₀) (F : Fr h₀ L s.heap m) (X : (heapK w.params).In h₀) (N : News h₀ L s.heap (rest)) (T : Top vw (looseW vw []) mean mg mb h₀) (hdp : dp < 340) (hu : un < 340)
    (r1 : m (Str.ofString "end") = some (.ref fd)) (r2 : m (Str.ofString "base") = some (.int b tb)) (r3 : m (Str.ofString "delay") = some (.int d td)) (r4 : m (Str.ofString "now") = some (.int now tn)) (r5 : m (Str.ofString "asked") = some (.ref aq)) (r6 : m (Str.ofString "told") = some (v)) (EI : EndIn w rest fd sp as lo ofd osp oas ol bag c sh ky bl a1 a2 a3 l1 l2 l3 n) (hb0 : 0 ≤ b) (hb1 : b < 1000) (hd0 : 0 ≤ d) (hd1 : d < 1000) (mq : (aq, oaq) ∈ rest) (hq : oaq.IsDictOf (Dz w) (tri v1 v2 v3)) (g1 : OV v1 a1) (g2 : OV v2 a2) (g3 : OV v3 a3) (hlq : (aq == sysModules) = false) (tv : T3 rest v (nextS l1 l2 l3 (probeS b d n now c sh ky a1 a2 a3) bl))
    (hret : ∀ h' tk', Fr h₀ L h' m → News h₀ L h' rest → wpAny (model PySem.Challenge.rw_no0077_01.row.prog w) (ktrTop dp un gd (Str.ofString "law") (fnScope 30) L fa fcd [] outer) (execs tl (envOf (Str.ofString "law") (fnScope 30) L fa fcd)) Q E { s with heap := h', toks := tk' }),
    wpAny (model PySem.Challenge.rw_no0077_01.row.prog w) (ktrTop dp un gd (Str.ofString "law") (fnScope 30) L fa fcd [] outer) (execs ((stAt (forBody (stAt (fnBody 30) 10)) 1) :: tl) (envOf (Str.ofString "law") (fnScope 30) L fa fcd)) Q E s := by
  k_fill
  intro w mean mg mb dp un fa fcd gd outer A₀ base h₀ L m s tl Q E rest fd sp as lo ofd osp oas ol bag b d now n tb td tn c sh ky bl a1 a2 a3 l1 l2 l3 aq oaq v v1 v2 v3 B F X N T hdp hu r1 r2 r3 r4 r5 r6 EI hb0 hb1 hd0 hd1 mq hq g1 g2 g3 hlq tv hret
  walk_at "zwi"
  have N0 : id (News h₀ L s.heap rest) := N
  obtain ⟨⟨tc, hdict⟩, -, ⟨w1, w2, w3, hoa, e1, e2, e3⟩, -, -, -, -, hz2, -⟩ := id EI.ok
  have N2 := News.sub N (l' := (fd, ofd) :: rest) (List.forall_mem_cons.mpr ⟨EI.mf, fun p hp => hp⟩)
  clear N
  k_steps
  (show wpAny _ _ (compareOp .NotEq (.ref aq) (.ref as)) _ _ _)
  refine kne_pairs (knd := strKind _ _) (r := true) N2 (.tail _ mq) (.tail _ EI.ma) hq hoa hlq hz2 rfl (by k_units) (tri_hits g1 g2 g3 e1 e2 e3) ?_
  simp only [Bool.not_true]
  (try dsimp only)
  k_steps
  have NQ : News h₀ L s.heap rest := N0
  (show wpAny _ _ (call (Value.ref 274) _) _ _ _)
  k_dflt ((refine' lawdue_call (N := ?N) ?B ?F ?X ?T ?k ?d ?u ?e1 ?e2 ?e3 ?e4 ?e5 ?e6 ?e7 ?e8 ?_; (case N => exact NQ); (case B => k_asm); (case F => k_asm); (case X => k_asm); (case T => k_asm); (case k => exact rfl); (case d => walk_at "zr"); (case u => walk_at "zu"); (case e1 => exact EI.ok); (case e2 => exact EI.mf); (case e3 => exact EI.ma); (case e4 => exact EI.ml); (case e5 => exact hb0); (case e6 => exact hb1); (case e7 => exact hd0); (case e8 => exact hd1); k_whole); intro y new h1 tk1 F1 N1 KK FR tvy; (try dsimp only); (try k_sweep))
  have NZ := news_app N1 (KK _ (held N0))
  (try clear N1)
  k_steps
  (show wpAny _ _ (compareOp .NotEq v y) _ _ _)
  rw [due_plain] at tvy
  refine ne_t3 NZ (tv.mono fun p hp => List.mem_append.mpr (.inr hp)) (tvy.mono fun p hp => List.mem_append.mpr (.inl hp)) (by k_units) ?_
  (try dsimp only)
  k_steps
  (try dsimp only)
  exact hret _ _ F1 (News.sub NZ (fun p hp => List.mem_append.mpr (.inr hp)))
local macro_rules | `(tactic| walk_at "compareOp IsNot") => `(tactic| (k_here; refine held ?_))
local macro_rules | `(tactic| walk_at "compareOp NotEq bool bool") => `(tactic| (k_here; refine held ?_))
set_option maxHeartbeats 8000000 in
theorem b_if2 : ∀ {w : World} {mean : ExcName → Option Value} {mg mb : Str → Option Value} {dp un : Nat} {fa : Addr} {fcd : Value} {gd : Option (List Code)} {outer : List Env} {A₀ : Around} {base h₀ : Heap} {L : Addr} {m : Str → Option Value} {s : Shared} {tl : List Stmt} {Q : Flow → Shared → Prop} {E : Value → Shared → Prop} {rest : List (Addr × Obj)} {fd sp as lo : Addr} {ofd osp oas ol : Obj} {bag : List (Addr × Obj)} {b d now n : Int} {tb td tn : Tok} {c sh ky bl : Bool} {a1 a2 a3 l1 l2 l3 : Option Int} {v : Value} {o : Option (Int × Str × Str)}
    (B : Below A₀ base outer h₀) (F : Fr h₀ L s.heap m) (X : (heapK w.params).In h₀) (N : News h₀ L s.heap (rest)) (T : Top vw (looseW vw []) mean mg mb h₀) (hdp : dp < 340) (hu : un < 340)
    (r1 : m (Str.ofString "end") = some (.ref fd)) (r6 : m (Str.ofString "told") = some (v)) (EI : EndIn w rest fd sp as lo ofd osp oas ol bag c sh ky bl a1 a2 a3 l1 l2 l3 n) (tv : T3 rest v o) (ho : bl = false → o.isSome = owedS c sh a1 a2 a3 l1 l2 l3)
    (hret : ∀ h' tk', Fr h₀ L h' m → News h₀ L h' rest → wpAny (model PySem.Challenge.rw_no0077_01.row.prog w) (ktrTop dp un gd (Str.ofString "law") (fnScope 30) L fa fcd [] outer) (execs tl (envOf (Str.ofString "law") (fnScope 30) L fa fcd)) Q E { s with heap := h', toks := tk' }),
    wpAny (model PySem.Challenge.rw_no0077_01.row.prog w) (ktrTop dp un gd (Str.ofString "law") (fnScope 30) L fa fcd [] outer) (execs ((stAt (forBody (stAt (fnBody 30) 10)) 2) :: tl) (envOf (Str.ofString "law") (fnScope 30) L fa fcd)) Q E s := by
  k_fill
  intro w mean mg mb dp un fa fcd gd outer A₀ base h₀ L m s tl Q E rest fd sp as lo ofd osp oas ol bag b d now n tb td tn c sh ky bl a1 a2 a3 l1 l2 l3 v o B F X N T hdp hu r1 r6 EI tv ho hret
  walk_at "zwi"
  have N0 : id (News h₀ L s.heap rest) := N
  obtain ⟨tc, hdict⟩ := EI.ok.dict
  have N2 := News.sub N (l' := (fd, ofd) :: rest) (List.forall_mem_cons.mpr ⟨EI.mf, fun p hp => hp⟩)
  clear N
  cases bl
  · have ho := ho rfl
    k_steps
    (show wpAny _ _ (compareOp .IsNot v .none) _ _ _)
    refine isnot_t3 tv ho ?_
    (try dsimp only)
    k_steps
    have NQ : News h₀ L s.heap rest := N0
    (show wpAny _ _ (call (Value.ref 279) _) _ _ _)
    k_dflt ((refine' owed_call (N := ?N) ?B ?F ?X ?T ?k ?d ?u ?e1 ?e2 ?e3 ?e4 ?_; (case N => exact NQ); (case B => k_asm); (case F => k_asm); (case X => k_asm); (case T => k_asm); (case k => exact rfl); (case d => walk_at "zr"); (case u => walk_at "zu"); (case e1 => exact EI.ok); (case e2 => exact EI.mf); (case e3 => exact EI.ma); (case e4 => exact EI.ml); k_whole); intro h1 tk1 F1 KK; (try dsimp only); (try k_sweep))
    have NZ := KK _ (held N0)
    k_steps
    (show wpAny _ _ (compareOp .NotEq (.bool (owedS c sh a1 a2 a3 l1 l2 l3)) (.bool (owedS c sh a1 a2 a3 l1 l2 l3))) _ _ _)
    refine EqBoolInt.of_rcne (SeqAt.RcNeAt.bool_bool _ _) ?_
    simp only [beq_self_eq_true, Bool.not_true]
    k_steps
    (try dsimp only)
    exact hret _ _ F1 NZ
  · k_steps
    (try dsimp only)
    exact hret _ _ F N0
set_option maxHeartbeats 8000000 in
theorem b_app : ∀ {w : World} {mean : ExcName → Option Value} {mg mb : Str → Option Value} {dp un : Nat} {fa : Addr} {fcd : Value} {gd : Option (List Code)} {outer : List Env} {A₀ : Around} {base h₀ : Heap} {L : Addr} {m : Str → Option Value} {s : Shared} {tl : List Stmt} {Q : Flow → Shared → Prop} {E : Value → Shared → Prop} {rest : List (Addr × Obj)} {tm : Addr} {vs : List Value} {k : Nat} {v : Value}
    (B : Below A₀ base outer h₀) (F : Fr h₀ L s.heap m) (X : (heapK w.params).In h₀) (N : News h₀ L s.heap ((tm, listOf vs.toArray k) :: rest)) (T : Top vw (looseW vw []) mean mg mb h₀) (hdp : dp < 340) (hu : un < 340)
    (r1 : m (Str.ofString "times") = some (.ref tm)) (r6 : m (Str.ofString "told") = some (v)) (hz : vs.length ≤ 10) (hoff : ∀ p ∈ rest, p.1 ≠ tm)
    (hret : ∀ k2 h' tk', Fr h₀ L h' m → News h₀ L h' ((tm, listOf (vs ++ [v]).toArray k2) :: rest) → wpAny (model PySem.Challenge.rw_no0077_01.row.prog w) (ktrTop dp un gd (Str.ofString "law") (fnScope 30) L fa fcd [] outer) (execs tl (envOf (Str.ofString "law") (fnScope 30) L fa fcd)) Q E { s with heap := h', toks := tk' }),
    wpAny (model PySem.Challenge.rw_no0077_01.row.prog w) (ktrTop dp un gd (Str.ofString "law") (fnScope 30) L fa fcd [] outer) (execs ((stAt (forBody (stAt (fnBody 30) 10)) 3) :: tl) (envOf (Str.ofString "law") (fnScope 30) L fa fcd)) Q E s := by
  k_fill
  intro w mean mg mb dp un fa fcd gd outer A₀ base h₀ L m s tl Q E rest tm vs k v B F X N T hdp hu r1 r6 hz hoff hret
  walk_at "zwe"
  have hz2 : vs.toArray.size ≤ 10 := by rw [List.size_toArray]; exact hz
  k_steps
  (try dsimp only); (rename Fr _ _ _ _ => kF); (rename News _ _ _ _ => kN)
  have e : (vs ++ [v]).toArray = vs.toArray.push v := by simp
  rw [← e] at kN
  exact hret _ _ _ kF kN
end
def LReads (m : Str → Option Value) (k1 : Bool) (cl sv tm : Addr) (b d now : Int) (tb td tn : Tok) : Prop := m (Str.ofString "is_known") = some (.bool k1) ∧ m (Str.ofString "base") = some (.int b tb) ∧ m (Str.ofString "delay") = some (.int d td) ∧ m (Str.ofString "now") = some (.int now tn) ∧ m (Str.ofString "client") = some (.ref cl) ∧ m (Str.ofString "server") = some (.ref sv) ∧ m (Str.ofString "times") = some (.ref tm)
theorem body31 : (forBody (stAt (fnBody 30) 10)) = [stAt (forBody (stAt (fnBody 30) 10)) 0, stAt (forBody (stAt (fnBody 30) 10)) 1, stAt (forBody (stAt (fnBody 30) 10)) 2, stAt (forBody (stAt (fnBody 30) 10)) 3] := by kernel_rfl
section
set_option maxHeartbeats 8000000 in
theorem l_times : ∀ {w : World} {mean : ExcName → Option Value} {mg mb : Str → Option Value} {dp un : Nat} {fa : Addr} {fcd : Value} {gd : Option (List Code)} {outer : List Env} {A₀ : Around} {base h₀ : Heap} {L : Addr} {m : Str → Option Value} {s : Shared} {tl : List Stmt} {Q : Flow → Shared → Prop} {E : Value → Shared → Prop} {rest : List (Addr × Obj)} 
    (B : Below A₀ base outer h₀) (F : Fr h₀ L s.heap m) (X : (heapK w.params).In h₀) (N : News h₀ L s.heap (rest)) (T : Top vw (looseW vw []) mean mg mb h₀) (hdp : dp < 340) (hu : un < 340)
    (hret : ∀ tm h' tk' m', Fr h₀ L h' m' → m' (Str.ofString "times") = some (.ref tm) → Off [Str.ofString "times"] m m' → News h₀ L h' ((tm, listOf #[] 0) :: rest) → AllLt tm rest → wpAny (model PySem.Challenge.rw_no0077_01.row.prog w) (ktrTop dp un gd (Str.ofString "law") (fnScope 30) L fa fcd [] outer) (execs tl (envOf (Str.ofString "law") (fnScope 30) L fa fcd)) Q E { s with heap := h', toks := tk' }),
    wpAny (model PySem.Challenge.rw_no0077_01.row.prog w) (ktrTop dp un gd (Str.ofString "law") (fnScope 30) L fa fcd [] outer) (execs ((stAt (fnBody 30) 9) :: tl) (envOf (Str.ofString "law") (fnScope 30) L fa fcd)) Q E s := by
  k_fill
  intro w mean mg mb dp un fa fcd gd outer A₀ base h₀ L m s tl Q E rest  B F X N T hdp hu  hret
  walk_at "zwa"
  k_steps
  try dsimp only
  (rename Fr _ _ _ _ => kF); (rename News _ _ _ _ => kN)
  refine' hret _ _ _ _ kF ?za ?zn kN (by assumption)
  case za => rfl
  case zn => exact (by intro y hy; simp only [List.mem_cons, List.not_mem_nil, or_false, not_or] at hy; simp only [hy, if_false])
set_option maxHeartbeats 8000000 in
theorem l_turn {w : World} {mean : ExcName → Option Value} {mg mb : Str → Option Value} {dp un : Nat} {fa : Addr} {fcd : Value} {gd : Option (List Code)} {outer : List Env} {A₀ : Around} {base h₀ : Heap} {L : Addr} {m : Str → Option Value} {s : Shared} {Q : Flow → Shared → Prop}
    {k1 : Bool} {cl sv tm : Addr} {b d now : Int} {tb td tn : Tok} {led led0 : List (Addr × Obj)} {vs : List Value} {k : Nat} {fd sp as lo : Addr} {ofd osp oas ol : Obj} {bag : List (Addr × Obj)} {c sh ky bl : Bool} {a1 a2 a3 l1 l2 l3 : Option Int} {n : Int} {I : Addr} {oI : Obj} {px : Pos} {J : (Str → Option Value) → List (Addr × Obj) → Prop}
    (B : Below A₀ base outer h₀) (F : Fr h₀ L s.heap m) (X : (heapK w.params).In h₀) (N : News h₀ L s.heap ((I, oI) :: (tm, listOf vs.toArray k) :: led)) (T : Top vw (looseW vw []) mean mg mb h₀) (hdp : dp < 340) (hu : un < 340)
    (EI : EndIn w led0 fd sp as lo ofd osp oas ol bag c sh ky bl a1 a2 a3 l1 l2 l3 n) (hb0 : 0 ≤ b) (hb1 : b < 1000) (hd0 : 0 ≤ d) (hd1 : d < 1000) (sub : ∀ p ∈ led0, p ∈ led) (hoff : ∀ p ∈ led, p.1 ≠ tm) (hz : vs.length ≤ 10) (hr : LReads m k1 cl sv tm b d now tb td tn) (hneT : tm ≠ I) (hne : ∀ p ∈ led, p.1 ≠ I)
    (hJ : ∀ m' led' k' v, LReads m' k1 cl sv tm b d now tb td tn → (∀ p ∈ led, p ∈ led') → (∀ p ∈ led', p.1 ≠ tm) → T3 led' v (nextS l1 l2 l3 (probeS b d n now c sh ky a1 a2 a3) bl) → J m' ((tm, listOf (vs ++ [v]).toArray k') :: led')) :
    wpAny (model PySem.Challenge.rw_no0077_01.row.prog w) (ktrTop dp un gd (Str.ofString "law") (fnScope 30) L fa fcd [] outer) (assign (.Name (Str.ofString "end") px) (envOf (Str.ofString "law") (fnScope 30) L fa fcd) (.ref fd)) (fun _ s₂ => wpAny (model PySem.Challenge.rw_no0077_01.row.prog w) (ktrTop dp un gd (Str.ofString "law") (fnScope 30) L fa fcd [] outer) (execs (forBody (stAt (fnBody 30) 10)) (envOf (Str.ofString "law") (fnScope 30) L fa fcd) ) (RgPost h₀ L J I oI s Q) NoE s₂) NoE s := by
  k_fill
  rw [body31]
  obtain ⟨r1, r2, r3, r4, r5, r6, r7⟩ := hr
  walk1
  walk1
  (rename Fr _ _ _ _ => F1); (rename News _ _ _ _ => N1)
  have off0 : Off [Str.ofString "end"] m (fun y => if y = Str.ofString "end" then some (.ref fd) else m y) := (by intro y hy; simp only [List.mem_cons, List.not_mem_nil, or_false, not_or] at hy; simp only [hy, if_false])
  have rs : (fun y => if y = Str.ofString "end" then some (Value.ref fd) else m y) (Str.ofString "end") = some (.ref fd) := rfl
  replace r1 := off0.get r1
  replace r2 := off0.get r2
  replace r3 := off0.get r3
  replace r4 := off0.get r4
  replace r5 := off0.get r5
  replace r6 := off0.get r6
  replace r7 := off0.get r7
  have E1 : EndIn w ((I, oI) :: (tm, listOf vs.toArray k) :: led) fd sp as lo ofd osp oas ol bag c sh ky bl a1 a2 a3 l1 l2 l3 n := EI.mono fun p hp => .tail _ (.tail _ (sub p hp))
  refine' b_told  B ?F1 X ?N1 T hdp hu ?z0_1 ?z1_1 ?z2_1 ?z3_1 ?z4_1 ?z5_1 ?z6_1 ?z7_1 ?z8_1 ?hr1
  case F1 => with_reducible assumption
  case z0_1 => exact rs
  case z1_1 => exact r2
  case z2_1 => exact r3
  case z3_1 => exact r4
  case z4_1 => exact E1
  case N1 => with_reducible assumption
  case z5_1 => exact hb0
  case z6_1 => exact hb1
  case z7_1 => exact hd0
  case z8_1 => exact hd1
  intro aq oaq v v1 v2 v3 new h5 tk5 m5 F5 ra rt off5 N5 ap5 mq hq g1 g2 g3 hlq tv
  try dsimp only
  replace rs := off5.get rs
  replace r1 := off5.get r1
  replace r2 := off5.get r2
  replace r3 := off5.get r3
  replace r4 := off5.get r4
  replace r5 := off5.get r5
  replace r6 := off5.get r6
  replace r7 := off5.get r7
  have E2 : EndIn w (new ++ (I, oI) :: (tm, listOf vs.toArray k) :: led) fd sp as lo ofd osp oas ol bag c sh ky bl a1 a2 a3 l1 l2 l3 n := E1.mono fun p hp => List.mem_append.mpr (.inr hp)
  have tv2 : T3 (new ++ (I, oI) :: (tm, listOf vs.toArray k) :: led) v (nextS l1 l2 l3 (probeS b d n now c sh ky a1 a2 a3) bl) := tv.mono fun p hp => List.mem_append.mpr (.inl hp)
  clear N1
  refine' b_if1  B ?F2 X ?N2 T hdp hu ?z0_2 ?z1_2 ?z2_2 ?z3_2 ?z4_2 ?z5_2 ?z6_2 ?z7_2 ?z8_2 ?z9_2 ?z10_2 ?z11_2 ?z12_2 ?z13_2 ?z14_2 ?z15_2 ?z16_2 ?z17_2 ?hr2
  case F2 => with_reducible assumption
  case z0_2 => exact rs
  case z1_2 => exact r2
  case z2_2 => exact r3
  case z3_2 => exact r4
  case z4_2 => exact ra
  case z5_2 => exact rt
  case z6_2 => exact E2
  case N2 => with_reducible assumption
  case z7_2 => exact hb0
  case z8_2 => exact hb1
  case z9_2 => exact hd0
  case z10_2 => exact hd1
  case z11_2 => exact List.mem_append.mpr (.inl mq)
  case z12_2 => exact hq
  case z13_2 => exact g1
  case z14_2 => exact g2
  case z15_2 => exact g3
  case z16_2 => exact hlq
  case z17_2 => exact tv2
  intro h6 tk6 F6 N6
  try dsimp only
  clear N5
  refine' b_if2 (b := b) (d := d) (now := now) (tb := tb) (td := td) (tn := tn) B ?F3 X ?N3 T hdp hu ?z0_3 ?z1_3 ?z2_3 ?z3_3 ?z4_3 ?hr3
  case F3 => with_reducible assumption
  case z0_3 => exact rs
  case z1_3 => exact rt
  case z2_3 => exact E2
  case z3_3 => exact tv2
  case N3 => with_reducible assumption
  case z4_3 => exact (fun e => by subst e; exact next_owed ..)
  intro h7 tk7 F7 N7
  try dsimp only
  clear N6
  have N8 := News.sub N7 (l' := (tm, listOf vs.toArray k) :: (I, oI) :: (new ++ led)) (by
    walk_at "zm")
  clear N7
  have o1 : ∀ p ∈ new ++ led, p.1 ≠ tm := all_ne_app (fun p hp => ap5 p hp _ (.tail _ (.head _))) hoff
  have o2 : ∀ p ∈ new ++ led, p.1 ≠ I := all_ne_app (fun p hp => ap5 p hp _ (.head _)) hne
  refine' b_app  B ?F4 X ?N4 T hdp hu ?z0_4 ?z1_4 ?z2_4 ?z3_4 ?hr4
  case F4 => with_reducible assumption
  case z0_4 => exact r7
  case z1_4 => exact rt
  case N4 => with_reducible assumption
  case z2_4 => exact hz
  case z3_4 => exact List.forall_mem_cons.mpr ⟨hneT.symm, o1⟩
  intro k9 h9 tk9 F9 N9
  try dsimp only
  refine wpAny_execs_nil ?_
  exact ⟨h9, tk9, m5, (tm, listOf (vs ++ [v]).toArray k9) :: (new ++ led), rfl, F9, News.sub N9 (by
    walk_at "zm"), List.forall_mem_cons.mpr ⟨hneT, o2⟩, hJ m5 (new ++ led) k9 v ⟨r1, r2, r3, r4, r5, r6, r7⟩ (fun p hp => List.mem_append.mpr (.inr hp)) o1 (tv.mono fun p hp => List.mem_append.mpr (.inl hp))⟩
end
def JLoop (k1 : Bool) (cl sv tm : Addr) (b d now : Int) (tb td tn : Tok) (led0 : List (Addr × Obj)) (o1 o2 : Option (Int × Str × Str)) (i : Nat) (m : Str → Option Value) (nx : List (Addr × Obj)) : Prop :=
  ∃ vs k led, nx = (tm, listOf (List.toArray vs) k) :: led ∧ (∀ p ∈ led0, p ∈ led) ∧ (∀ p ∈ led, p.1 ≠ tm) ∧ LReads m k1 cl sv tm b d now tb td tn ∧ (i = 0 → vs = []) ∧ (i = 1 → ∃ v1, vs = [v1] ∧ T3 led v1 o1) ∧ (i = 2 → ∃ v1 v2, vs = [v1, v2] ∧ T3 led v1 o1 ∧ T3 led v2 o2)
section
local macro_rules | `(tactic| walk_at "exec For Name Tuple cons nil") => `(tactic| (k_here; (rename Fr _ _ _ _ => F9); (with_unfolding_all refine' for_tup F9 (by rfl) ?_)))
set_option maxHeartbeats 8000000 in
theorem l_for : ∀ {w : World} {mean : ExcName → Option Value} {mg mb : Str → Option Value} {dp un : Nat} {fa : Addr} {fcd : Value} {gd : Option (List Code)} {outer : List Env} {A₀ : Around} {base h₀ : Heap} {L : Addr} {m : Str → Option Value} {s : Shared} {tl : List Stmt} {Q : Flow → Shared → Prop} {E : Value → Shared → Prop} {rest : List (Addr × Obj)} {cl sv tm : Addr} {k : Nat} {k1 : Bool} {b d now : Int} {tb td tn : Tok} {sp as lo spS asS loS : Addr} {ofd osp oas ol ofdS ospS oasS olS : Obj} {bag bagS : List (Addr × Obj)} {c sh ky bl cS shS kyS blS : Bool} {a1 a2 a3 l1 l2 l3 b1 b2 b3 j1 j2 j3 : Option Int} {n nS : Int}
    (B : Below A₀ base outer h₀) (F : Fr h₀ L s.heap m) (X : (heapK w.params).In h₀) (N : News h₀ L s.heap ((tm, listOf #[] k) :: rest)) (T : Top vw (looseW vw []) mean mg mb h₀) (hdp : dp < 340) (hu : un < 340)
    (hr : LReads m k1 cl sv tm b d now tb td tn) (EI : EndIn w rest cl sp as lo ofd osp oas ol bag c sh ky bl a1 a2 a3 l1 l2 l3 n) (ES : EndIn w rest sv spS asS loS ofdS ospS oasS olS bagS cS shS kyS blS b1 b2 b3 j1 j2 j3 nS) (hb0 : 0 ≤ b) (hb1 : b < 1000) (hd0 : 0 ≤ d) (hd1 : d < 1000) (hoff : ∀ p ∈ rest, p.1 ≠ tm)
    (hret : ∀ v1 v2 led k' h' tk' m', Fr h₀ L h' m' → LReads m' k1 cl sv tm b d now tb td tn → News h₀ L h' ((tm, listOf #[v1, v2] k') :: led) → (∀ p ∈ rest, p ∈ led) → T3 led v1 (nextS l1 l2 l3 (probeS b d n now c sh ky a1 a2 a3) bl) → T3 led v2 (nextS j1 j2 j3 (probeS b d nS now cS shS kyS b1 b2 b3) blS) → wpAny (model PySem.Challenge.rw_no0077_01.row.prog w) (ktrTop dp un gd (Str.ofString "law") (fnScope 30) L fa fcd [] outer) (execs tl (envOf (Str.ofString "law") (fnScope 30) L fa fcd)) Q E { s with heap := h', toks := tk' }),
    wpAny (model PySem.Challenge.rw_no0077_01.row.prog w) (ktrTop dp un gd (Str.ofString "law") (fnScope 30) L fa fcd [] outer) (execs ((stAt (fnBody 30) 10) :: tl) (envOf (Str.ofString "law") (fnScope 30) L fa fcd)) Q E s := by
  k_fill
  intro w mean mg mb dp un fa fcd gd outer A₀ base h₀ L m s tl Q E rest cl sv tm k k1 b d now tb td tn sp as lo spS asS loS ofd osp oas ol ofdS ospS oasS olS bag bagS c sh ky bl cS shS kyS blS a1 a2 a3 l1 l2 l3 b1 b2 b3 j1 j2 j3 n nS B F X N T hdp hu hr EI ES hb0 hb1 hd0 hd1 hoff hret
  walk_at "zwf"
  obtain ⟨r1, r2, r3, r4, r5, r6, r7⟩ := id hr
  k_steps
  (rename Fr _ _ _ _ => F); (rename News _ _ _ _ => N); (rename AllLt _ rest => hA)
  rename Addr => ax
  have htm : @LT.lt Nat _ tm ax := by assumption
  generalize hT : (ax, ({ cls := .type "tuple", data := .seq #[.ref cl, .ref sv] } : Obj)) = TUP at N
  have e0 : TUP.1 = ax := by rw [← hT]
  have E1 := EI.mono (led' := TUP :: rest) fun p hp => .tail _ hp
  have E2 := ES.mono (led' := TUP :: rest) fun p hp => .tail _ hp
  refine' ⟨ax, [.ref cl, .ref sv], m, (tm, listOf #[] k) :: TUP :: rest, JLoop k1 cl sv tm b d now tb td tn (TUP :: rest) (nextS l1 l2 l3 (probeS b d n now c sh ky a1 a2 a3) bl) (nextS j1 j2 j3 (probeS b d nS now cS shS kyS b1 b2 b3) blS), rfl, F, News.sub N ?sb, ⟨[], k, TUP :: rest, rfl, fun p hp => hp, List.forall_mem_cons.mpr ⟨e0 ▸ Nat.ne_of_gt htm, hoff⟩, hr, fun _ => rfl, nofun, nofun⟩, ?mem, ?turn, ?done⟩
  case sb =>
    intro p hp
    simp only [List.mem_cons] at hp ⊢
    rcases hp with h | h | h <;> simp only [h, true_or, or_true]
  case mem =>
    intro i m nx h hJ F1 N1
    obtain ⟨vs, k, led, rfl, sub, -⟩ := hJ
    exact News.isTup N1 (.tail _ (sub _ (by rw [hT]; exact .head _)))
  case turn =>
    intro i v m₁ nx h tk I oI hv hne hJ F1 N1
    obtain ⟨vs, k, led, rfl, sub, ho, hr, j0, j1, j2⟩ := hJ
    obtain ⟨hneT, hne2⟩ := List.forall_mem_cons.mp hne
    match i, hv with
    | 0, hv =>
      simp at hv; subst hv
      obtain rfl := j0 rfl
      exact l_turn B F1 X N1 T hdp hu E1 hb0 hb1 hd0 hd1 sub ho (Nat.le_of_ble_eq_true rfl) hr hneT hne2 fun m' led' k' v hr' sub' ho' tv => ⟨[v], k', led', rfl, fun p hp => sub' _ (sub _ hp), ho', hr', nofun, fun _ => ⟨v, rfl, tv⟩, nofun⟩
    | 1, hv =>
      simp at hv; subst hv
      obtain ⟨v1, rfl, tv1⟩ := j1 rfl
      exact l_turn B F1 X N1 T hdp hu E2 hb0 hb1 hd0 hd1 sub ho (Nat.le_of_ble_eq_true rfl) hr hneT hne2 fun m' led' k' v hr' sub' ho' tv => ⟨[v1, v], k', led', rfl, fun p hp => sub' _ (sub _ hp), ho', hr', nofun, nofun, fun _ => ⟨v1, v, rfl, tv1.mono sub', tv⟩⟩
    | i + 2, hv => simp at hv
  case done =>
    intro m₁ nx h tk hJ F1 N1
    obtain ⟨vs, k, led, rfl, sub, ho, hr, j0, j1, j2⟩ := hJ
    obtain ⟨v1, v2, rfl, tv1, tv2⟩ := j2 rfl
    exact hret v1 v2 led k _ _ _ F1 hr N1 (fun p hp => sub _ (.tail _ hp)) tv1 tv2
end
section
local macro_rules | `(tactic| walk_at "call ref") => `(tactic| (k_here; refine held ?_))
local macro_rules | `(tactic| walk_at "compareOp Is") => `(tactic| (k_here; refine held ?_))
local macro_rules | `(tactic| walk_at "compareOp NotEq ref ref") => `(tactic| (k_here; refine held ?_))
set_option maxHeartbeats 8000000 in
theorem l_first : ∀ {w : World} {mean : ExcName → Option Value} {mg mb : Str → Option Value} {dp un : Nat} {fa : Addr} {fcd : Value} {gd : Option (List Code)} {outer : List Env} {A₀ : Around} {base h₀ : Heap} {L : Addr} {m : Str → Option Value} {s : Shared} {tl : List Stmt} {Q : Flow → Shared → Prop} {E : Value → Shared → Prop} {rest : List (Addr × Obj)} {tm : Addr} {k : Nat} {v1 v2 : Value} {k1 : Bool} {o1 : Option (Int × Str × Str)}
    (B : Below A₀ base outer h₀) (F : Fr h₀ L s.heap m) (X : (heapK w.params).In h₀) (N : News h₀ L s.heap ((tm, listOf #[v1, v2] k) :: rest)) (T : Top vw (looseW vw []) mean mg mb h₀) (hdp : dp < 340) (hu : un < 340)
    (r1 : m (Str.ofString "is_known") = some (.bool k1)) (r2 : m (Str.ofString "times") = some (.ref tm)) (tv : T3 rest v1 o1) (ho : k1 = false → o1.isSome = true)
    (hret : ∀ h' tk', Fr h₀ L h' m → News h₀ L h' ((tm, listOf #[v1, v2] k) :: rest) → wpAny (model PySem.Challenge.rw_no0077_01.row.prog w) (ktrTop dp un gd (Str.ofString "law") (fnScope 30) L fa fcd [] outer) (execs tl (envOf (Str.ofString "law") (fnScope 30) L fa fcd)) Q E { s with heap := h', toks := tk' }),
    wpAny (model PySem.Challenge.rw_no0077_01.row.prog w) (ktrTop dp un gd (Str.ofString "law") (fnScope 30) L fa fcd [] outer) (execs ((stAt (fnBody 30) 11) :: tl) (envOf (Str.ofString "law") (fnScope 30) L fa fcd)) Q E s := by
  k_fill
  intro w mean mg mb dp un fa fcd gd outer A₀ base h₀ L m s tl Q E rest tm k v1 v2 k1 o1 B F X N T hdp hu r1 r2 tv ho hret
  walk_at "zwi"
  have N0 : id (News h₀ L s.heap ((tm, listOf #[v1, v2] k) :: rest)) := N
  cases k1
  · have ho := ho rfl
    k_steps
    (show wpAny _ _ (compareOp .Is v1 .none) _ _ _)
    refine is_t3 tv ho ?_
    (try dsimp only)
    k_steps
    (try dsimp only)
    exact hret _ _ F N0
  · k_steps
    (try dsimp only)
    exact hret _ _ F N0
set_option maxHeartbeats 8000000 in
theorem l_ret : ∀ {w : World} {mean : ExcName → Option Value} {mg mb : Str → Option Value} {dp un : Nat} {fa : Addr} {fcd : Value} {gd : Option (List Code)} {outer : List Env} {A₀ : Around} {base h₀ : Heap} {L : Addr} {m : Str → Option Value} {s : Shared} {tl : List Stmt} {Q : Flow → Shared → Prop} {E : Value → Shared → Prop} {rest : List (Addr × Obj)} {cl sv tm : Addr} {k : Nat} {v1 v2 : Value} {o1 o2 : Option (Int × Str × Str)} {sp as lo spS asS loS : Addr} {ofd osp oas ol ofdS ospS oasS olS : Obj} {bag bagS : List (Addr × Obj)} {c sh ky bl cS shS kyS blS p1 p2 : Bool} {a1 a2 a3 l1 l2 l3 b1 b2 b3 j1 j2 j3 : Option Int} {n nS : Int}
    (B : Below A₀ base outer h₀) (F : Fr h₀ L s.heap m) (X : (heapK w.params).In h₀) (N : News h₀ L s.heap ((tm, listOf #[v1, v2] k) :: rest)) (T : Top vw (looseW vw []) mean mg mb h₀) (hdp : dp < 340) (hu : un < 340)
    (rc : m (Str.ofString "client") = some (.ref cl)) (rs : m (Str.ofString "server") = some (.ref sv)) (rt : m (Str.ofString "times") = some (.ref tm)) (EI : EndIn w rest cl sp as lo ofd osp oas ol bag c sh ky bl a1 a2 a3 l1 l2 l3 n) (ES : EndIn w rest sv spS asS loS ofdS ospS oasS olS bagS cS shS kyS blS b1 b2 b3 j1 j2 j3 nS) (tv1 : T3 rest v1 o1) (tv2 : T3 rest v2 o2) (q1 : owedS c sh a1 a2 a3 l1 l2 l3 = p1) (q2 : owedS cS shS b1 b2 b3 j1 j2 j3 = p2) (ho : p1 = true ∨ p2 = true → (o1.isSome || o2.isSome) = true)
    (hret : ∀ h' tk', Fr h₀ L h' m → Q (.ret (.bool true)) { s with heap := h', toks := tk' }),
    wpAny (model PySem.Challenge.rw_no0077_01.row.prog w) (ktrTop dp un gd (Str.ofString "law") (fnScope 30) L fa fcd [] outer) (execs ((stAt (fnBody 30) 12) :: tl) (envOf (Str.ofString "law") (fnScope 30) L fa fcd)) Q E s := by
  k_fill
  intro w mean mg mb dp un fa fcd gd outer A₀ base h₀ L m s tl Q E rest cl sv tm k v1 v2 o1 o2 sp as lo spS asS loS ofd osp oas ol ofdS ospS oasS olS bag bagS c sh ky bl cS shS kyS blS p1 p2 a1 a2 a3 l1 l2 l3 b1 b2 b3 j1 j2 j3 n nS B F X N T hdp hu rc rs rt EI ES tv1 tv2 q1 q2 ho hret
  walk_at "zwr"
  have NN := N
  k_steps
  have NI1 : id (News h₀ L s.heap ((tm, listOf #[v1, v2] k) :: rest)) := NN
  have NQ : News h₀ L s.heap ((tm, listOf #[v1, v2] k) :: rest) := NN
  (show wpAny _ _ (call (Value.ref 279) _) _ _ _)
  k_dflt ((refine' owed_call (N := ?N) ?B ?F ?X ?T ?k ?d ?u ?e1 ?e2 ?e3 ?e4 ?_; (case N => exact NQ); (case B => k_asm); (case F => k_asm); (case X => k_asm); (case T => k_asm); (case k => exact rfl); (case d => walk_at "zr"); (case u => walk_at "zu"); (case e1 => exact EI.ok); (case e2 => exact .tail _ EI.mf); (case e3 => exact .tail _ EI.ma); (case e4 => exact .tail _ EI.ml); k_whole); intro h1 tk1 F1 KK1; (try dsimp only); (try k_sweep))
  rw [q1]
  have NN := KK1 _ (held NI1)
  (try clear NQ)
  cases p1
  · k_steps
    have NI2 : id (News h₀ L h1 ((tm, listOf #[v1, v2] k) :: rest)) := NN
    have NQ : News h₀ L h1 ((tm, listOf #[v1, v2] k) :: rest) := NN
    (show wpAny _ _ (call (Value.ref 279) _) _ _ _)
    k_dflt ((refine' owed_call (N := ?N) ?B ?F ?X ?T ?k ?d ?u ?e1 ?e2 ?e3 ?e4 ?_; (case N => exact NQ); (case B => k_asm); (case F => k_asm); (case X => k_asm); (case T => k_asm); (case k => exact rfl); (case d => walk_at "zr"); (case u => walk_at "zu"); (case e1 => exact ES.ok); (case e2 => exact .tail _ ES.mf); (case e3 => exact .tail _ ES.ma); (case e4 => exact .tail _ ES.ml); k_whole); intro h2 tk2 F2 KK2; (try dsimp only); (try k_sweep))
    rw [q2]
    have NN := KK2 _ (held NI2)
    (try clear NQ)
    cases p2
    · k_steps
      (try dsimp only)
      exact hret _ _ F2
    · k_steps
      (show wpAny _ _ (compareOp .NotEq (.ref tm) _) _ _ _)
      (rename News _ _ _ _ => NZ)
      refine ne_nones (v := v1) (y := v2) NZ (by k_mem) (by k_mem) (tv1.mono (fun p hp => .tail _ (.tail _ hp))) (tv2.mono (fun p hp => .tail _ (.tail _ hp))) (by k_units) ?_
      rw [ho (.inr rfl)]
      (try dsimp only)
      k_steps
      (try dsimp only)
      (rename Fr _ _ _ _ => kF)
      exact hret _ _ kF
  · k_steps
    (show wpAny _ _ (compareOp .NotEq (.ref tm) _) _ _ _)
    (rename News _ _ _ _ => NZ)
    refine ne_nones (v := v1) (y := v2) NZ (by k_mem) (by k_mem) (tv1.mono (fun p hp => .tail _ (.tail _ hp))) (tv2.mono (fun p hp => .tail _ (.tail _ hp))) (by k_units) ?_
    rw [ho (.inl rfl)]
    (try dsimp only)
    k_steps
    (try dsimp only)
    (rename Fr _ _ _ _ => kF)
    exact hret _ _ kF
end
theorem body_law : fnBody 30 = [stAt (fnBody 30) 0, stAt (fnBody 30) 1, stAt (fnBody 30) 2, stAt (fnBody 30) 3, stAt (fnBody 30) 4, stAt (fnBody 30) 5, stAt (fnBody 30) 6, stAt (fnBody 30) 7, stAt (fnBody 30) 8, stAt (fnBody 30) 9, stAt (fnBody 30) 10, stAt (fnBody 30) 11, stAt (fnBody 30) 12] := by kernel_rfl
section
set_option maxHeartbeats 8000000 in
theorem law_walk {w : World} {mean : ExcName → Option Value} {mg mb : Str → Option Value} {dp un : Nat} {fa : Addr} {fcd : Value} {gd : Option (List Code)} {outer : List Env} {A₀ : Around} {base h₀ : Heap} {L : Addr} {m : Str → Option Value} {s : Shared} {Q : Flow → Shared → Prop} {E : Value → Shared → Prop}
    {x : Addr} {vs : List Value} {ns : List Int} {p1 p2 : List Addr}
    (B : Below A₀ base outer h₀) (F : Fr h₀ L s.heap m) (X : (heapK w.params).In h₀) (N : News h₀ L s.heap ([] : List (Addr × Obj))) (T : Top vw (looseW vw []) mean mg mb h₀) (hdp : dp < 330) (hu : un < 330) (r1 : m (Str.ofString "script") = some (.ref x)) (hs : Spec.Shape.int.list.has (PyData.list (List.map PyData.int ns)) = true) (hL1 : (PyData.list (List.map PyData.int ns)).layable0 = true) (hL : h₀.IsList x vs.toArray) (ra : ReadsAll h₀ vs (List.map PyData.int ns) p1) (w1 : Well w.params h₀ (Value.ref x) (ofPy (PyData.list (List.map PyData.int ns)))) (r0 : Reads h₀ (Value.ref x) (PyData.list (List.map PyData.int ns)) p2) (hI : IntsAre vs ns) (hlen : ¬ ((63 : Nat) : Int) < (ns.length : Int))
    (hret : ∀ h' tk' m', Fr h₀ L h' m' → Q (.ret (.bool true)) { s with heap := h', toks := tk' }) :
    wpAny (model PySem.Challenge.rw_no0077_01.row.prog w) (ktrTop dp un gd (Str.ofString "law") (fnScope 30) L fa fcd [] outer) (execs (fnBody 30) (envOf (Str.ofString "law") (fnScope 30) L fa fcd)) Q E s := by
  k_fill
  rw [body_law]
  have hdp4 : dp < 340 := Nat.lt_of_lt_of_le hdp (by decide)
  have hu4 : un < 340 := Nat.lt_of_lt_of_le hu (by decide)
  refine' l_draws  B ?F1 X ?N1 T hdp4 hu4 ?z0_1 ?z1_1 ?z2_1 ?z3_1 ?z4_1 ?z5_1 ?z6_1 ?z7_1 ?z8_1 ?hr1
  case F1 => with_reducible assumption
  case N1 => with_reducible assumption
  case z0_1 => exact r1
  case z1_1 => exact hs
  case z2_1 => exact hL1
  case z3_1 => exact hL
  case z4_1 => exact ra
  case z5_1 => exact w1
  case z6_1 => exact r0
  case z7_1 => exact hI
  case z8_1 => exact hlen
  intro d od h1 tk1 m1 F1 rd off1 N1 hdr hlo
  try dsimp only
  refine' l_known  B ?F2 X ?N2 T hdp4 hu4 ?z0_2 ?z1_2 ?z2_2 ?z3_2 ?hr2
  case F2 => with_reducible assumption
  case N2 => with_reducible assumption
  case z0_2 => exact rd
  case z1_2 => exact List.forall_mem_nil _
  case z2_2 => exact hlo
  case z3_2 => exact hdr
  intro k1 k2 od2 h2 tk2 m2 F2 rk rf off2 N2 hdr2
  try dsimp only
  replace rd := off2.get rd
  refine' l_base  B ?F3 X ?N3 T hdp4 hu4 ?z0_3 ?z1_3 ?z2_3 ?z3_3 ?hr3
  case F3 => with_reducible assumption
  case N3 => with_reducible assumption
  case z0_3 => exact rd
  case z1_3 => exact List.forall_mem_nil _
  case z2_3 => exact hlo
  case z3_3 => exact hdr2
  intro b dl tb td tn od3 h3 tk3 m3 F3 rb rl rn off3 N3 hdr3 hb0 hb1 hd0 hd1
  try dsimp only
  replace rd := off3.get rd
  replace rk := off3.get rk
  replace rf := off3.get rf
  refine' l_conf  B ?F4 X ?N4 T hdp4 hu4 ?z0_4 ?z1_4 ?hr4
  case F4 => with_reducible assumption
  case N4 => with_reducible assumption
  case z0_4 => exact rk
  case z1_4 => exact rf
  intro h4 tk4 m4 F4 rc off4 N4
  try dsimp only
  replace rd := off4.get rd
  replace rk := off4.get rk
  replace rb := off4.get rb
  replace rl := off4.get rl
  replace rn := off4.get rn
  generalize (k2 && k1) = c at rc
  refine' l_client  B ?F5 X ?N5 T hdp4 hu4 ?z0_5 ?z1_5 ?z2_5 ?z3_5 ?z4_5 ?z5_5 ?hr5
  case F5 => with_reducible assumption
  case N5 => with_reducible assumption
  case z0_5 => exact rk
  case z1_5 => exact rc
  case z2_5 => exact rd
  case z3_5 => exact List.forall_mem_nil _
  case z4_5 => exact hlo
  case z5_5 => exact hdr3
  intro cl ocl ky od5 h5 tk5 m5 F5 rcl off5 N5 hdr5 hcl hlc aC
  try dsimp only
  replace rd := off5.get rd
  replace rk := off5.get rk
  replace rb := off5.get rb
  replace rl := off5.get rl
  replace rn := off5.get rn
  replace rc := off5.get rc
  have lcd : @LT.lt Nat _ d cl := aC.1
  have ncd : cl ≠ d := Nat.ne_of_gt lcd
  refine' l_blocked  B ?F6 X ?N6 T hdp4 hu4 ?z0_6 ?z1_6 ?z2_6 ?z3_6 ?z4_6 ?hr6
  case F6 => with_reducible assumption
  case N6 => with_reducible assumption
  case z0_6 => exact rk
  case z1_6 => exact rd
  case z2_6 => exact List.forall_mem_cons.mpr ⟨ncd, List.forall_mem_nil _⟩
  case z3_6 => exact hlo
  case z4_6 => exact hdr5
  intro bl od6 h6 tk6 m6 F6 rbl off6 N6 hdr6 hkb
  try dsimp only
  replace rd := off6.get rd
  replace rk := off6.get rk
  replace rb := off6.get rb
  replace rl := off6.get rl
  replace rn := off6.get rn
  replace rc := off6.get rc
  replace rcl := off6.get rcl
  refine' l_server  B ?F7 X ?N7 T hdp4 hu4 ?z0_7 ?z1_7 ?hr7
  case F7 => with_reducible assumption
  case N7 => with_reducible assumption
  case z0_7 => exact rc
  case z1_7 => exact rbl
  intro sv osv h7 tk7 m7 F7 rsv off7 N7 hsv hls aS
  try dsimp only
  replace rd := off7.get rd
  replace rk := off7.get rk
  replace rb := off7.get rb
  replace rl := off7.get rl
  replace rn := off7.get rn
  replace rcl := off7.get rcl
  have lsd : @LT.lt Nat _ d sv := aS.1
  have lsc : @LT.lt Nat _ cl sv := aS.2.1
  have N7b := News.sub N7 (l' := [(d, od6), (cl, ocl), (sv, osv)]) (by
    intro p hp; simp only [List.mem_cons, List.not_mem_nil, or_false] at hp ⊢; rcases hp with h | h | h <;> simp only [h, true_or, or_true])
  clear N7 N6 N5 N4 N3 N2 N1 N
  refine' l_ends  B ?F8 X ?N8 T hdp hu ?z0_8 ?z1_8 ?z2_8 ?z3_8 ?z4_8 ?z5_8 ?z6_8 ?z7_8 ?z8_8 ?z9_8 ?z10_8 ?z11_8 ?hr8
  case F8 => with_reducible assumption
  case N8 => with_reducible assumption
  case z0_8 => exact rd
  case z1_8 => exact rcl
  case z2_8 => exact rsv
  case z3_8 => exact hlo
  case z4_8 => exact hlc
  case z5_8 => exact hls
  case z6_8 => exact hdr6
  case z7_8 => exact ncd
  case z8_8 => exact Nat.ne_of_gt lsd
  case z9_8 => exact Nat.ne_of_gt lsc
  case z10_8 => exact hcl
  case z11_8 => exact hsv
  intro od8 ofd1 sp1 as1 lo1 osp1 oas1 ol1 bag1 a1 a2 a3 l1 l2 l3 n1 ofd2 sp2 as2 lo2 osp2 oas2 ol2 bag2 b1 b2 b3 j1 j2 j3 n2 h8 tk8 m8 F8 rcl rsv off8 N8 EO1 EO2 EN1 EN2 AP2 ap1
  try dsimp only
  replace rk := off8.get rk
  replace rb := off8.get rb
  replace rl := off8.get rl
  replace rn := off8.get rn
  have N8b := News.sub N8 (fun p hp => .tail _ hp)
  clear N8 N7b
  refine' l_if  B ?F9 X ?N9 T hdp4 hu4 ?z0_9 ?z1_9 ?z2_9 ?z3_9 ?z4_9 ?z5_9 ?z6_9 ?z7_9 ?z8_9 ?hr9
  case F9 => with_reducible assumption
  case z0_9 => exact rk
  case z1_9 => exact rcl
  case z2_9 => exact rsv
  case N9 => with_reducible assumption
  case z3_9 => exact EO1
  case z4_9 => exact EO2
  case z5_9 => exact EN1
  case z6_9 => exact EN2
  case z7_9 => exact AP2
  case z8_9 => exact ap1
  intro led sp as lo ofd osp oas ol bag spS asS loS ofdS ospS oasS olS bagS e3 i1 i2 i3 h9 tk9 F9 N9 EI ES he3
  try dsimp only
  clear N8b
  refine' l_times  B ?F10 X ?N10 T hdp4 hu4  ?hr10
  case F10 => with_reducible assumption
  case N10 => with_reducible assumption
  intro tm hA tkA mA FA rtm offA NA aT
  try dsimp only
  replace rk := offA.get rk
  replace rb := offA.get rb
  replace rl := offA.get rl
  replace rn := offA.get rn
  replace rcl := offA.get rcl
  replace rsv := offA.get rsv
  have oT : ∀ p ∈ led, p.1 ≠ tm := all_ne_of_lt aT
  refine' l_for  B ?F11 X ?N11 T hdp4 hu4 ?z0_11 ?z1_11 ?z2_11 ?z3_11 ?z4_11 ?z5_11 ?z6_11 ?z7_11 ?hr11
  case F11 => with_reducible assumption
  case z0_11 => exact ⟨rk, rb, rl, rn, rcl, rsv, rtm⟩
  case N11 => with_reducible assumption
  case z1_11 => exact EI
  case z2_11 => exact ES
  case z3_11 => exact hb0
  case z4_11 => exact hb1
  case z5_11 => exact hd0
  case z6_11 => exact hd1
  case z7_11 => exact oT
  intro v1 v2 led2 kB hB tkB mB FB hrB NB sub tv1 tv2
  try dsimp only
  obtain ⟨rk, rb, rl, rn, rcl, rsv, rtm⟩ := hrB
  clear NA N9
  have ho1 : k1 = false → (nextS l1 l2 l3 (probeS b dl n1 1000 c k1 ky a1 a2 e3) false).isSome = true := by
    intro e
    rw [he3 e, e]
    exact next_client ..
  refine' l_first  B ?F12 X ?N12 T hdp4 hu4 ?z0_12 ?z1_12 ?z2_12 ?z3_12 ?hr12
  case F12 => with_reducible assumption
  case z0_12 => exact rk
  case z1_12 => exact rtm
  case z2_12 => exact tv1
  case N12 => with_reducible assumption
  case z3_12 => exact ho1
  intro hC tkC FC NC
  try dsimp only
  clear NB
  have hoB : owedS c k1 a1 a2 e3 l1 l2 l3 = true ∨ owedS c true b1 b2 b3 i1 i2 i3 = true → ((nextS l1 l2 l3 (probeS b dl n1 1000 c k1 ky a1 a2 e3) false).isSome || (nextS i1 i2 i3 (probeS b dl n2 1000 c true true b1 b2 b3) bl).isSome) = true := by
    intro hq
    cases k1 with
    | false => rw [ho1 rfl]; rfl
    | true =>
      obtain rfl := hkb rfl
      rw [next_owed, next_owed]
      rcases hq with h | h
      · rw [h]; rfl
      · rw [h]; exact Bool.or_true _
  refine' l_ret  B ?F13 X ?N13 T hdp4 hu4 ?z0_13 ?z1_13 ?z2_13 ?z3_13 ?z4_13 ?z5_13 ?z6_13 ?z7_13 ?z8_13 ?z9_13 ?hr13
  case F13 => with_reducible assumption
  case z0_13 => exact rcl
  case z1_13 => exact rsv
  case z2_13 => exact rtm
  case z3_13 => exact EI.mono sub
  case z4_13 => exact ES.mono sub
  case z5_13 => exact tv1
  case z6_13 => exact tv2
  case N13 => with_reducible assumption
  case z7_13 => exact rfl
  case z8_13 => exact rfl
  case z9_13 => exact hoB
  intro hD tkD FD
  try dsimp only
  exact hret _ _ _ FD
end
end Mine
end
section
open PySem PySem.W PySem.W.X PyProof.Rows
namespace Mine
set_option maxHeartbeats 0 in
theorem fin : PySem.Challenge.rw_no0077_01.Holds := by
  refine holds_law s_law fun _ => ?_
  refine holds_open (r := rw1.row) (q := vw) (loose := []) (Xt := Xt1) (XP := XL vw []) (Yf := (kHook heapK addrsK h_addrs).obs) (Ya := (kHook heapK addrsK h_addrs).val) (YP := (kHook heapK addrsK h_addrs).says) (N := 3380) ?hl (Hook.of (kHook heapK addrsK h_addrs)) (Hook.keeps (kHook heapK addrsK h_addrs)) (fun s e => xl_of s (Bool.and_eq_true_iff.mp e).1) XL.keeps (by rfl) (by rfl) (by rfl) (fun s e => recFacts_of (Bool.and_eq_true_iff.mp e).2) (by rfl) s_row (by decide +kernel) ⟨rfl, rfl, rfl, rfl, rfl, by decide +kernel⟩ ?hw ?hc
  case hw => w_witness2
  case hl => exact h_left
  case hc =>
    -- the head's own steps, but for the look at all globals (it would lay a twin of the whole program beside this text)
    k_fill
    intro w s₀ s₁ mg mb G Y fa o pm cd doc dV kV ho hd hcd hD hmg hg args vals as hpre hlay hrd hwl hlo
    have KX := kIn_of Y
    have X := (Ground.X G).1
    have V := (Ground.X G).2
    refine Ground.open G ?_
    intro T B D TE TW
    try (refine guard_noD D (by decide +kernel) ?_; clear D)
    obtain ⟨_, _, M⟩ := bmod_of_top T
    have TA := at_of_top T
    try (obtain ⟨_, _, he, B0⟩ := based_of_top T rfl hmg ho hd; have he' : cd = _ := he; subst he'; clear he)
    clear hmg
    wrow_args hpre hlay hrd hwl hlo
    all_goals (
      first | refine callC_kw (enter_call ?_) | refine enter_call ?_
      w_top on
      try refine codeAny_mono ?_ (fun _ _ g => GoodW.toG g)
      have K0 := below_caller (Top.heap T)
      w_call any ho hd hcd hD T F
      clear hd TA
      k_drop
      skip)
    all_goals try k_fold
    (rename IntsAre _ _ => hI); (rename ReadsAll _ _ _ _ => ra); (rename Reads _ _ _ _ => r0); (rename Well _ _ _ _ => w1); (rename Spec.Shape.has _ _ = true => hs); (rename PyData.layable0 _ = true => hL1); (rename Heap.IsList _ _ _ => hL); (rename ¬ _ => hlen)
    (rename Heap.CodeRec _ _ _ => hcd); (rename Dflts _ _ _ _ _ _ => hD); clear hcd hD
    (rename Top _ _ _ _ _ _ => T); (rename Below _ _ _ _ => B); (rename News _ _ _ _ => N); (rename Fr _ _ _ _ => F); (rename _ = #[] => hg)
    change wpAny (model PySem.Challenge.rw_no0077_01.row.prog _) (ktrTop (1 + claimMargin + 1) 7 (some []) (Str.ofString "law") (fnScope 30) _ _ _ [] []) (execs (fnBody 30) (envOf (Str.ofString "law") (fnScope 30) _ _ _)) _ _ _
    refine law_walk B F KX N T (by decide) (by decide) ?r1 hs hL1 hL ra w1 r0 hI hlen ?hret
    case r1 => rfl
    case hret =>
      intro h' tk' m' F'
      refine ⟨.inl ⟨.bool true, _, [], rfl, fun _ => rfl, .bool true, ?post, fun _ => ⟨List.nodup_nil, nofun⟩⟩, F'.keep, rfl, hg⟩
      first | kernel_rfl | exact postW_of (X := true) (by rfl) (by kernel_rfl) rfl | exact postW_of (X := true) (by rfl) (by simp [OpenLaw.row]; done) rfl
end Mine
end
theorem PySem.Challenge.cw_no0077_01_holds : PySem.Challenge.rw_no0077_01.Holds := by
  exact Mine.fin
