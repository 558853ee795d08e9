import PyProof.Rows.All
import Wide.All
import OpenK.AllK
import Wide.FinOn
import Lean
import PySem.Challenge.RW_sz0113_01
open PySem PySem.W PySem.Calls PyProof.Rows
set_option Elab.async false
set_option maxRecDepth 100000
set_option maxHeartbeats 8000000
namespace Mine

noncomputable abbrev pw : Program := PySem.Challenge.pw_sz0113_01
noncomputable def nth : List Stmt → Nat → Stmt
  | [], _ => .Pass ⟨0, 0, 0, 0⟩
  | s :: _, 0 => s
  | _ :: r, n + 1 => nth r n
noncomputable def st (i : Nat) : Stmt := nth PySem.Challenge.pw_sz0113_01.main.body i
noncomputable def me (i : Nat) : Stmt := match st 17 with
  | .ClassDef _ _ _ b .. => nth b i
  | s => s
noncomputable def fnObj (s : Stmt) (qual : Str) (dV : Value) (pm : Value) (cd : Addr) : Obj := match s with
  | .FunctionDef n a b _ _ _ sc _ _ _ => ⟨.type "function", none, .func ⟨n, qual, a, .stmts b, sc, 3, [], dV, .none, .none, pm, none, .ref cd, .none, 0⟩, #[]⟩
  | _ => default
noncomputable def o29x : {o : Obj // fnObj (st 6) (Str.ofString "newer_of") (.ref 22) (.str (Str.ofString "routeloom.seqs") 194) 28 = o} := ⟨_, by dsimp only [fnObj, me, st, nth, PySem.Challenge.pw_sz0113_01]⟩
noncomputable def o29 : Obj := o29x.1
noncomputable def o37x : {o : Obj // fnObj (st 7) (Str.ofString "aged_head") (.ref 30) (.str (Str.ofString "routeloom.seqs") 194) 36 = o} := ⟨_, by dsimp only [fnObj, me, st, nth, PySem.Challenge.pw_sz0113_01]⟩
noncomputable def o37 : Obj := o37x.1
noncomputable def o44x : {o : Obj // fnObj (st 8) (Str.ofString "key_of") (.none) (.str (Str.ofString "routeloom.seqs") 194) 43 = o} := ⟨_, by dsimp only [fnObj, me, st, nth, PySem.Challenge.pw_sz0113_01]⟩
noncomputable def o44 : Obj := o44x.1
noncomputable def o51x : {o : Obj // fnObj (st 12) (Str.ofString "barred") (.none) (.str (Str.ofString "routeloom.receive") 230) 50 = o} := ⟨_, by dsimp only [fnObj, me, st, nth, PySem.Challenge.pw_sz0113_01]⟩
noncomputable def o51 : Obj := o51x.1
noncomputable def o58x : {o : Obj // fnObj (st 13) (Str.ofString "verdict") (.none) (.str (Str.ofString "routeloom.receive") 230) 57 = o} := ⟨_, by dsimp only [fnObj, me, st, nth, PySem.Challenge.pw_sz0113_01]⟩
noncomputable def o58 : Obj := o58x.1
noncomputable def o65x : {o : Obj // fnObj (st 15) (Str.ofString "aged") (.none) (.str (Str.ofString "routeloom.lsdb") 256) 64 = o} := ⟨_, by dsimp only [fnObj, me, st, nth, PySem.Challenge.pw_sz0113_01]⟩
noncomputable def o65 : Obj := o65x.1
noncomputable def o72x : {o : Obj // fnObj (st 16) (Str.ofString "is_changed") (.none) (.str (Str.ofString "routeloom.lsdb") 256) 71 = o} := ⟨_, by dsimp only [fnObj, me, st, nth, PySem.Challenge.pw_sz0113_01]⟩
noncomputable def o72 : Obj := o72x.1
noncomputable def o86x : {o : Obj // fnObj (me 0) (Str.ofString "Database.__init__") (.none) (.str (Str.ofString "routeloom.lsdb") 256) 85 = o} := ⟨_, by dsimp only [fnObj, me, st, nth, PySem.Challenge.pw_sz0113_01]⟩
noncomputable def o86 : Obj := o86x.1
noncomputable def o93x : {o : Obj // fnObj (me 1) (Str.ofString "Database.put") (.none) (.str (Str.ofString "routeloom.lsdb") 256) 92 = o} := ⟨_, by dsimp only [fnObj, me, st, nth, PySem.Challenge.pw_sz0113_01]⟩
noncomputable def o93 : Obj := o93x.1
noncomputable def o100x : {o : Obj // fnObj (me 2) (Str.ofString "Database.look") (.none) (.str (Str.ofString "routeloom.lsdb") 256) 99 = o} := ⟨_, by dsimp only [fnObj, me, st, nth, PySem.Challenge.pw_sz0113_01]⟩
noncomputable def o100 : Obj := o100x.1
noncomputable def o107x : {o : Obj // fnObj (me 3) (Str.ofString "Database.since") (.none) (.str (Str.ofString "routeloom.lsdb") 256) 106 = o} := ⟨_, by dsimp only [fnObj, me, st, nth, PySem.Challenge.pw_sz0113_01]⟩
noncomputable def o107 : Obj := o107x.1
noncomputable def o121x : {o : Obj // fnObj (me 5) (Str.ofString "Database.keys") (.none) (.str (Str.ofString "routeloom.lsdb") 256) 120 = o} := ⟨_, by dsimp only [fnObj, me, st, nth, PySem.Challenge.pw_sz0113_01]⟩
noncomputable def o121 : Obj := o121x.1
noncomputable def o126x : {o : Obj // fnObj (me 6) (Str.ofString "Database.all_rows") (.none) (.str (Str.ofString "routeloom.lsdb") 256) 125 = o} := ⟨_, by dsimp only [fnObj, me, st, nth, PySem.Challenge.pw_sz0113_01]⟩
noncomputable def o126 : Obj := o126x.1
noncomputable def o183x : {o : Obj // fnObj (st 19) (Str.ofString "_law_draw") (.none) (.str (Str.ofString "law_sz0113_01") 408) 182 = o} := ⟨_, by dsimp only [fnObj, me, st, nth, PySem.Challenge.pw_sz0113_01]⟩
noncomputable def o183 : Obj := o183x.1
noncomputable def o190x : {o : Obj // fnObj (st 20) (Str.ofString "_law_row") (.none) (.str (Str.ofString "law_sz0113_01") 408) 189 = o} := ⟨_, by dsimp only [fnObj, me, st, nth, PySem.Challenge.pw_sz0113_01]⟩
noncomputable def o190 : Obj := o190x.1
noncomputable def o197x : {o : Obj // fnObj (st 21) (Str.ofString "_law_told") (.none) (.str (Str.ofString "law_sz0113_01") 408) 196 = o} := ⟨_, by dsimp only [fnObj, me, st, nth, PySem.Challenge.pw_sz0113_01]⟩
noncomputable def o197 : Obj := o197x.1
noncomputable def o204x : {o : Obj // fnObj (st 22) (Str.ofString "_law_made") (.none) (.str (Str.ofString "law_sz0113_01") 408) 203 = o} := ⟨_, by dsimp only [fnObj, me, st, nth, PySem.Challenge.pw_sz0113_01]⟩
noncomputable def o204 : Obj := o204x.1
noncomputable def o211x : {o : Obj // fnObj (st 23) (Str.ofString "_law_sent_back") (.none) (.str (Str.ofString "law_sz0113_01") 408) 210 = o} := ⟨_, by dsimp only [fnObj, me, st, nth, PySem.Challenge.pw_sz0113_01]⟩
noncomputable def o211 : Obj := o211x.1
noncomputable def o218x : {o : Obj // fnObj (st 24) (Str.ofString "_law_come_right") (.none) (.str (Str.ofString "law_sz0113_01") 408) 217 = o} := ⟨_, by dsimp only [fnObj, me, st, nth, PySem.Challenge.pw_sz0113_01]⟩
noncomputable def o218 : Obj := o218x.1
noncomputable def o225x : {o : Obj // fnObj (st 25) (Str.ofString "_law_all_right") (.none) (.str (Str.ofString "law_sz0113_01") 408) 224 = o} := ⟨_, by dsimp only [fnObj, me, st, nth, PySem.Challenge.pw_sz0113_01]⟩
noncomputable def o225 : Obj := o225x.1
noncomputable def o230x : {o : Obj // fnObj (st 26) (Str.ofString "law") (.none) (.str (Str.ofString "law_sz0113_01") 408) 229 = o} := ⟨_, by dsimp only [fnObj, me, st, nth, PySem.Challenge.pw_sz0113_01]⟩
noncomputable def o230 : Obj := o230x.1
noncomputable def hd.heap_39 : Params → Frag := fun P => (nat_lit 2, Obj.mk Value.none Option.none (Data.dict #[]) #[]) ::
  (nat_lit 3, Obj.mk (Value.type "dict") Option.none (Data.dict #[DictEntry.mk (PyData.keyHash P (Str.ofString "__name__")) (Value.str (Str.ofString "__name__") 165) (Value.str (Str.ofString "law_sz0113_01") 408), DictEntry.mk (PyData.keyHash P (Str.ofString "__doc__")) (Value.str (Str.ofString "__doc__") 166) Value.none, DictEntry.mk (PyData.keyHash P (Str.ofString "__package__")) (Value.str (Str.ofString "__package__") 167) Value.none, DictEntry.mk (PyData.keyHash P (Str.ofString "__loader__")) (Value.str (Str.ofString "__loader__") 168) (Value.builtin "__main__.__loader__#opaque"), DictEntry.mk (PyData.keyHash P (Str.ofString "__spec__")) (Value.str (Str.ofString "__spec__") 169) Value.none, DictEntry.mk (PyData.keyHash P (Str.ofString "__annotations__")) (Value.str (Str.ofString "__annotations__") 170) (Value.ref 6), DictEntry.mk (PyData.keyHash P (Str.ofString "__builtins__")) (Value.str (Str.ofString "__builtins__") 171) (Value.ref 4), DictEntry.mk (PyData.keyHash P (Str.ofString "__file__")) (Value.str (Str.ofString "__file__") 173) (Value.str (Str.ofString "/claim/cut.py") 172), DictEntry.mk (PyData.keyHash P (Str.ofString "__cached__")) (Value.str (Str.ofString "__cached__") 174) Value.none, DictEntry.mk (PyData.keyHash P (Str.ofString "_wall")) (Value.str (Str.ofString "_wall") 193) (Value.ref 21), DictEntry.mk (PyData.keyHash P (Str.ofString "LAST_SEQ")) (Value.str (Str.ofString "LAST_SEQ") 197) (Value.int 2147483647 196), DictEntry.mk (PyData.keyHash P (Str.ofString "MAX_AGE")) (Value.str (Str.ofString "MAX_AGE") 199) (Value.int 3600 198), DictEntry.mk (PyData.keyHash P (Str.ofString "MAX_AGE_DIFF")) (Value.str (Str.ofString "MAX_AGE_DIFF") 201) (Value.int 900 200), DictEntry.mk (PyData.keyHash P (Str.ofString "MIN_ARRIVAL")) (Value.str (Str.ofString "MIN_ARRIVAL") 203) (Value.int 1 202), DictEntry.mk (PyData.keyHash P (Str.ofString "newer_of")) (Value.str (Str.ofString "newer_of") 213) (Value.ref 29), DictEntry.mk (PyData.keyHash P (Str.ofString "aged_head")) (Value.str (Str.ofString "aged_head") 222) (Value.ref 37), DictEntry.mk (PyData.keyHash P (Str.ofString "key_of")) (Value.str (Str.ofString "key_of") 229) (Value.ref 44), DictEntry.mk (PyData.keyHash P (Str.ofString "EXTERNAL")) (Value.str (Str.ofString "EXTERNAL") 233) (Value.int 5 232), DictEntry.mk (PyData.keyHash P (Str.ofString "GREATEST_KIND")) (Value.str (Str.ofString "GREATEST_KIND") 235) (Value.int 5 234), DictEntry.mk (PyData.keyHash P (Str.ofString "barred")) (Value.str (Str.ofString "barred") 243) (Value.ref 51), DictEntry.mk (PyData.keyHash P (Str.ofString "verdict")) (Value.str (Str.ofString "verdict") 255) (Value.ref 58), DictEntry.mk (PyData.keyHash P (Str.ofString "aged")) (Value.str (Str.ofString "aged") 265) (Value.ref 65), DictEntry.mk (PyData.keyHash P (Str.ofString "is_changed")) (Value.str (Str.ofString "is_changed") 273) (Value.ref 72), DictEntry.mk (PyData.keyHash P (Str.ofString "Database")) (Value.str (Str.ofString "Database") 407) (Value.ref 172), DictEntry.mk (PyData.keyHash P (Str.ofString "_law_draw")) (Value.str (Str.ofString "_law_draw") 418) (Value.ref 183), DictEntry.mk (PyData.keyHash P (Str.ofString "_law_row")) (Value.str (Str.ofString "_law_row") 427) (Value.ref 190), DictEntry.mk (PyData.keyHash P (Str.ofString "_law_told")) (Value.str (Str.ofString "_law_told") 443) (Value.ref 197), DictEntry.mk (PyData.keyHash P (Str.ofString "_law_made")) (Value.str (Str.ofString "_law_made") 454) (Value.ref 204), DictEntry.mk (PyData.keyHash P (Str.ofString "_law_sent_back")) (Value.str (Str.ofString "_law_sent_back") 472) (Value.ref 211), DictEntry.mk (PyData.keyHash P (Str.ofString "_law_come_right")) (Value.str (Str.ofString "_law_come_right") 490) (Value.ref 218), DictEntry.mk (PyData.keyHash P (Str.ofString "_law_all_right")) (Value.str (Str.ofString "_law_all_right") 506) (Value.ref 225), DictEntry.mk (PyData.keyHash P (Str.ofString "law")) (Value.str (Str.ofString "law") 512) (Value.ref 230)] 32) #[]) ::
  (nat_lit 22, Obj.mk (Value.type "tuple") Option.none (Data.seq #[Value.int 3600 198, Value.int 900 200]) #[]) ::
  (nat_lit 28, Obj.mk (Value.type "code") Option.none (Data.fields #[Value.str (Str.ofString "newer_of") 204, Value.str (Str.ofString "newer_of") 205, Value.str (Str.ofString "/claim/cut.py") 206, Value.int 9 0, Value.int 4 0, Value.int 0 0, Value.int 0 0, Value.int 3 0, Value.ref 23, Value.bool Bool.true, Value.int 181 0, Value.ref 24, Value.none, Value.ref 25, Value.ref 26, Value.ref 27, Value.int 211 0, Value.int 9 0, Value.str (Str.ofString "/claim/cut.py") 212]) #[]) ::
  (nat_lit 29, o29) ::
  (nat_lit 30, Obj.mk (Value.type "tuple") Option.none (Data.seq #[Value.int 3600 198]) #[]) ::
  (nat_lit 36, Obj.mk (Value.type "code") Option.none (Data.fields #[Value.str (Str.ofString "aged_head") 214, Value.str (Str.ofString "aged_head") 215, Value.str (Str.ofString "/claim/cut.py") 216, Value.int 19 0, Value.int 3 0, Value.int 0 0, Value.int 0 0, Value.int 3 0, Value.ref 31, Value.bool Bool.true, Value.int 181 0, Value.ref 32, Value.none, Value.ref 33, Value.ref 34, Value.ref 35, Value.int 220 0, Value.int 19 0, Value.str (Str.ofString "/claim/cut.py") 221]) #[]) ::
  (nat_lit 37, o37) ::
  (nat_lit 43, Obj.mk (Value.type "code") Option.none (Data.fields #[Value.str (Str.ofString "key_of") 223, Value.str (Str.ofString "key_of") 224, Value.str (Str.ofString "/claim/cut.py") 225, Value.int 21 0, Value.int 1 0, Value.int 0 0, Value.int 0 0, Value.int 3 0, Value.ref 38, Value.bool Bool.true, Value.int 181 0, Value.ref 39, Value.none, Value.ref 40, Value.ref 41, Value.ref 42, Value.int 227 0, Value.int 21 0, Value.str (Str.ofString "/claim/cut.py") 228]) #[]) ::
  (nat_lit 44, o44) ::
  (nat_lit 50, Obj.mk (Value.type "code") Option.none (Data.fields #[Value.str (Str.ofString "barred") 236, Value.str (Str.ofString "barred") 237, Value.str (Str.ofString "/claim/cut.py") 238, Value.int 26 0, Value.int 2 0, Value.int 0 0, Value.int 0 0, Value.int 3 0, Value.ref 45, Value.bool Bool.true, Value.int 181 0, Value.ref 46, Value.none, Value.ref 47, Value.ref 48, Value.ref 49, Value.int 241 0, Value.int 26 0, Value.str (Str.ofString "/claim/cut.py") 242]) #[]) ::
  (nat_lit 51, o51) ::
  (nat_lit 57, Obj.mk (Value.type "code") Option.none (Data.fields #[Value.str (Str.ofString "verdict") 244, Value.str (Str.ofString "verdict") 245, Value.str (Str.ofString "/claim/cut.py") 246, Value.int 30 0, Value.int 4 0, Value.int 0 0, Value.int 0 0, Value.int 3 0, Value.ref 52, Value.bool Bool.true, Value.int 181 0, Value.ref 53, Value.none, Value.ref 54, Value.ref 55, Value.ref 56, Value.int 253 0, Value.int 30 0, Value.str (Str.ofString "/claim/cut.py") 254]) #[]) ::
  (nat_lit 58, o58) ::
  (nat_lit 64, Obj.mk (Value.type "code") Option.none (Data.fields #[Value.str (Str.ofString "aged") 258, Value.str (Str.ofString "aged") 259, Value.str (Str.ofString "/claim/cut.py") 260, Value.int 49 0, Value.int 2 0, Value.int 0 0, Value.int 0 0, Value.int 3 0, Value.ref 59, Value.bool Bool.true, Value.int 181 0, Value.ref 60, Value.none, Value.ref 61, Value.ref 62, Value.ref 63, Value.int 263 0, Value.int 49 0, Value.str (Str.ofString "/claim/cut.py") 264]) #[]) ::
  (nat_lit 65, o65) ::
  (nat_lit 71, Obj.mk (Value.type "code") Option.none (Data.fields #[Value.str (Str.ofString "is_changed") 266, Value.str (Str.ofString "is_changed") 267, Value.str (Str.ofString "/claim/cut.py") 268, Value.int 51 0, Value.int 2 0, Value.int 0 0, Value.int 0 0, Value.int 3 0, Value.ref 66, Value.bool Bool.true, Value.int 181 0, Value.ref 67, Value.none, Value.ref 68, Value.ref 69, Value.ref 70, Value.int 271 0, Value.int 51 0, Value.str (Str.ofString "/claim/cut.py") 272]) #[]) ::
  (nat_lit 72, o72) ::
  (nat_lit 85, Obj.mk (Value.type "code") Option.none (Data.fields #[Value.str (Str.ofString "__init__") 286, Value.str (Str.ofString "Database.__init__") 287, Value.str (Str.ofString "/claim/cut.py") 288, Value.int 59 0, Value.int 1 0, Value.int 0 0, Value.int 0 0, Value.int 3 0, Value.ref 80, Value.bool Bool.true, Value.int 181 0, Value.ref 81, Value.none, Value.ref 82, Value.ref 83, Value.ref 84, Value.int 290 0, Value.int 59 0, Value.str (Str.ofString "/claim/cut.py") 291]) #[]) ::
  (nat_lit 86, o86) ::
  (nat_lit 92, Obj.mk (Value.type "code") Option.none (Data.fields #[Value.str (Str.ofString "put") 293, Value.str (Str.ofString "Database.put") 294, Value.str (Str.ofString "/claim/cut.py") 295, Value.int 62 0, Value.int 3 0, Value.int 0 0, Value.int 0 0, Value.int 3 0, Value.ref 87, Value.bool Bool.true, Value.int 181 0, Value.ref 88, Value.none, Value.ref 89, Value.ref 90, Value.ref 91, Value.int 301 0, Value.int 62 0, Value.str (Str.ofString "/claim/cut.py") 302]) #[]) ::
  (nat_lit 93, o93) ::
  (nat_lit 99, Obj.mk (Value.type "code") Option.none (Data.fields #[Value.str (Str.ofString "look") 304, Value.str (Str.ofString "Database.look") 305, Value.str (Str.ofString "/claim/cut.py") 306, Value.int 68 0, Value.int 3 0, Value.int 0 0, Value.int 0 0, Value.int 3 0, Value.ref 94, Value.bool Bool.true, Value.int 181 0, Value.ref 95, Value.none, Value.ref 96, Value.ref 97, Value.ref 98, Value.int 312 0, Value.int 68 0, Value.str (Str.ofString "/claim/cut.py") 313]) #[]) ::
  (nat_lit 100, o100) ::
  (nat_lit 106, Obj.mk (Value.type "code") Option.none (Data.fields #[Value.str (Str.ofString "since") 315, Value.str (Str.ofString "Database.since") 316, Value.str (Str.ofString "/claim/cut.py") 317, Value.int 74 0, Value.int 2 0, Value.int 0 0, Value.int 0 0, Value.int 3 0, Value.ref 101, Value.bool Bool.true, Value.int 181 0, Value.ref 102, Value.none, Value.ref 103, Value.ref 104, Value.ref 105, Value.int 320 0, Value.int 74 0, Value.str (Str.ofString "/claim/cut.py") 321]) #[]) ::
  (nat_lit 107, o107) ::
  (nat_lit 120, Obj.mk (Value.type "code") Option.none (Data.fields #[Value.str (Str.ofString "keys") 331, Value.str (Str.ofString "Database.keys") 332, Value.str (Str.ofString "/claim/cut.py") 333, Value.int 80 0, Value.int 1 0, Value.int 0 0, Value.int 0 0, Value.int 3 0, Value.ref 115, Value.bool Bool.true, Value.int 181 0, Value.ref 116, Value.none, Value.ref 117, Value.ref 118, Value.ref 119, Value.int 335 0, Value.int 80 0, Value.str (Str.ofString "/claim/cut.py") 336]) #[]) ::
  (nat_lit 121, o121) ::
  (nat_lit 125, Obj.mk (Value.type "code") Option.none (Data.fields #[Value.str (Str.ofString "all_rows") 338, Value.str (Str.ofString "Database.all_rows") 339, Value.str (Str.ofString "/claim/cut.py") 340, Value.int 83 0, Value.int 2 0, Value.int 0 0, Value.int 0 0, Value.int 3 0, Value.ref 122, Value.bool Bool.true, Value.int 181 0, Value.ref 123, Value.none, Value.none, Value.none, Value.ref 124, Value.int 341 0, Value.int 83 0, Value.str (Str.ofString "/claim/cut.py") 342]) #[]) ::
  (nat_lit 126, o126) ::
  (nat_lit 171, Obj.mk (Value.type "dict") Option.none (Data.dict #[DictEntry.mk (PyData.keyHash P (Str.ofString "__module__")) (Value.str (Str.ofString "__module__") 281) (Value.str (Str.ofString "routeloom.lsdb") 256), DictEntry.mk (PyData.keyHash P (Str.ofString "__firstlineno__")) (Value.str (Str.ofString "__firstlineno__") 285) (Value.int 57 284), DictEntry.mk (PyData.keyHash P (Str.ofString "__init__")) (Value.str (Str.ofString "__init__") 292) (Value.ref 86), DictEntry.mk (PyData.keyHash P (Str.ofString "put")) (Value.str (Str.ofString "put") 303) (Value.ref 93), DictEntry.mk (PyData.keyHash P (Str.ofString "look")) (Value.str (Str.ofString "look") 314) (Value.ref 100), DictEntry.mk (PyData.keyHash P (Str.ofString "since")) (Value.str (Str.ofString "since") 322) (Value.ref 107), DictEntry.mk (PyData.keyHash P (Str.ofString "drop")) (Value.str (Str.ofString "drop") 330) (Value.ref 114), DictEntry.mk (PyData.keyHash P (Str.ofString "keys")) (Value.str (Str.ofString "keys") 337) (Value.ref 121), DictEntry.mk (PyData.keyHash P (Str.ofString "all_rows")) (Value.str (Str.ofString "all_rows") 343) (Value.ref 126), DictEntry.mk (PyData.keyHash P (Str.ofString "summary")) (Value.str (Str.ofString "summary") 351) (Value.ref 133), DictEntry.mk (PyData.keyHash P (Str.ofString "ended")) (Value.str (Str.ofString "ended") 359) (Value.ref 140), DictEntry.mk (PyData.keyHash P (Str.ofString "to_refresh")) (Value.str (Str.ofString "to_refresh") 368) (Value.ref 147), DictEntry.mk (PyData.keyHash P (Str.ofString "end")) (Value.str (Str.ofString "end") 379) (Value.ref 154), DictEntry.mk (PyData.keyHash P (Str.ofString "swept")) (Value.str (Str.ofString "swept") 389) (Value.ref 161), DictEntry.mk (PyData.keyHash P (Str.ofString "next_time")) (Value.str (Str.ofString "next_time") 398) (Value.ref 169), DictEntry.mk (PyData.keyHash P (Str.ofString "__static_attributes__")) (Value.str (Str.ofString "__static_attributes__") 400) (Value.ref 170), DictEntry.mk (PyData.keyHash P (Str.ofString "__dict__")) (Value.str (Str.ofString "__dict__") 402) (Value.ref 173), DictEntry.mk (PyData.keyHash P (Str.ofString "__weakref__")) (Value.str (Str.ofString "__weakref__") 404) (Value.ref 174), DictEntry.mk (PyData.keyHash P (Str.ofString "__doc__")) (Value.str (Str.ofString "__doc__") 405) Value.none] 4) #[]) ::
  (nat_lit 172, Obj.mk (Value.type "type") Option.none (Data.cls (ClassData.mk (Str.ofString "Database") [Value.type "object"] [Value.ref 172, Value.type "object"] 171 (Str.ofString "Database") Bool.true [] [] Bool.false Option.none Bool.false)) #[Option.none, Option.none, Option.some (Value.str (Str.ofString "Database") 274), Option.some (Value.str (Str.ofString "Database") 282), Option.some (Value.builtin "object.__new__"), Option.some (Value.bool Bool.true)]) ::
  (nat_lit 173, Obj.mk (Value.type "getset_descriptor") Option.none (Data.fields #[Value.str (Str.ofString "__dict__") 401, Value.ref 172, Value.builtin "function.__dict__", Value.builtin "function.__dict__#set"]) #[]) ::
  (nat_lit 174, Obj.mk (Value.type "getset_descriptor") Option.none (Data.fields #[Value.str (Str.ofString "__weakref__") 403, Value.ref 172, Value.builtin "ExceptionGroup.__weakref__", Value.none]) #[]) ::
  (nat_lit 182, Obj.mk (Value.type "code") Option.none (Data.fields #[Value.str (Str.ofString "_law_draw") 410, Value.str (Str.ofString "_law_draw") 411, Value.str (Str.ofString "/claim/cut.py") 412, Value.int 109 0, Value.int 2 0, Value.int 0 0, Value.int 0 0, Value.int 3 0, Value.ref 177, Value.bool Bool.true, Value.int 181 0, Value.ref 178, Value.none, Value.ref 179, Value.ref 180, Value.ref 181, Value.int 416 0, Value.int 109 0, Value.str (Str.ofString "/claim/cut.py") 417]) #[]) ::
  (nat_lit 183, o183) ::
  (nat_lit 189, Obj.mk (Value.type "code") Option.none (Data.fields #[Value.str (Str.ofString "_law_row") 419, Value.str (Str.ofString "_law_row") 420, Value.str (Str.ofString "/claim/cut.py") 421, Value.int 115 0, Value.int 3 0, Value.int 0 0, Value.int 0 0, Value.int 3 0, Value.ref 184, Value.bool Bool.true, Value.int 181 0, Value.ref 185, Value.none, Value.ref 186, Value.ref 187, Value.ref 188, Value.int 425 0, Value.int 115 0, Value.str (Str.ofString "/claim/cut.py") 426]) #[]) ::
  (nat_lit 190, o190) ::
  (nat_lit 196, Obj.mk (Value.type "code") Option.none (Data.fields #[Value.str (Str.ofString "_law_told") 428, Value.str (Str.ofString "_law_told") 429, Value.str (Str.ofString "/claim/cut.py") 430, Value.int 117 0, Value.int 5 0, Value.int 0 0, Value.int 0 0, Value.int 3 0, Value.ref 191, Value.bool Bool.true, Value.int 181 0, Value.ref 192, Value.none, Value.ref 193, Value.ref 194, Value.ref 195, Value.int 441 0, Value.int 117 0, Value.str (Str.ofString "/claim/cut.py") 442]) #[]) ::
  (nat_lit 197, o197) ::
  (nat_lit 203, Obj.mk (Value.type "code") Option.none (Data.fields #[Value.str (Str.ofString "_law_made") 444, Value.str (Str.ofString "_law_made") 445, Value.str (Str.ofString "/claim/cut.py") 446, Value.int 127 0, Value.int 2 0, Value.int 0 0, Value.int 0 0, Value.int 3 0, Value.ref 198, Value.bool Bool.true, Value.int 181 0, Value.ref 199, Value.none, Value.ref 200, Value.ref 201, Value.ref 202, Value.int 452 0, Value.int 127 0, Value.str (Str.ofString "/claim/cut.py") 453]) #[]) ::
  (nat_lit 204, o204) ::
  (nat_lit 210, Obj.mk (Value.type "code") Option.none (Data.fields #[Value.str (Str.ofString "_law_sent_back") 455, Value.str (Str.ofString "_law_sent_back") 456, Value.str (Str.ofString "/claim/cut.py") 457, Value.int 133 0, Value.int 4 0, Value.int 0 0, Value.int 0 0, Value.int 3 0, Value.ref 205, Value.bool Bool.true, Value.int 181 0, Value.ref 206, Value.none, Value.ref 207, Value.ref 208, Value.ref 209, Value.int 470 0, Value.int 133 0, Value.str (Str.ofString "/claim/cut.py") 471]) #[]) ::
  (nat_lit 211, o211) ::
  (nat_lit 217, Obj.mk (Value.type "code") Option.none (Data.fields #[Value.str (Str.ofString "_law_come_right") 473, Value.str (Str.ofString "_law_come_right") 474, Value.str (Str.ofString "/claim/cut.py") 475, Value.int 150 0, Value.int 5 0, Value.int 0 0, Value.int 0 0, Value.int 3 0, Value.ref 212, Value.bool Bool.true, Value.int 181 0, Value.ref 213, Value.none, Value.ref 214, Value.ref 215, Value.ref 216, Value.int 488 0, Value.int 150 0, Value.str (Str.ofString "/claim/cut.py") 489]) #[]) ::
  (nat_lit 218, o218) ::
  (nat_lit 224, Obj.mk (Value.type "code") Option.none (Data.fields #[Value.str (Str.ofString "_law_all_right") 491, Value.str (Str.ofString "_law_all_right") 492, Value.str (Str.ofString "/claim/cut.py") 493, Value.int 165 0, Value.int 3 0, Value.int 0 0, Value.int 0 0, Value.int 3 0, Value.ref 219, Value.bool Bool.true, Value.int 181 0, Value.ref 220, Value.none, Value.ref 221, Value.ref 222, Value.ref 223, Value.int 504 0, Value.int 165 0, Value.str (Str.ofString "/claim/cut.py") 505]) #[]) ::
  (nat_lit 225, o225) ::
  (nat_lit 229, Obj.mk (Value.type "code") Option.none (Data.fields #[Value.str (Str.ofString "law") 507, Value.str (Str.ofString "law") 508, Value.str (Str.ofString "/claim/cut.py") 509, Value.int 174 0, Value.int 1 0, Value.int 0 0, Value.int 0 0, Value.int 3 0, Value.ref 226, Value.bool Bool.true, Value.int 181 0, Value.ref 227, Value.none, Value.none, Value.none, Value.ref 228, Value.int 510 0, Value.int 174 0, Value.str (Str.ofString "/claim/cut.py") 511]) #[]) ::
  (nat_lit 230, o230) :: []
noncomputable def hd.view_39 : Program := { pw with main := { pw.main with body := [st 0, st 2, st 3, st 4, st 5, st 8, st 10, st 11, st 12, st 13, st 15, st 16, st 17, st 19, st 20, st 21, st 22, st 23, st 24, st 25, st 26] } }
noncomputable abbrev hd.as : List Addr := [2, 3, 22, 28, 29, 30, 36, 37, 43, 44, 50, 51, 57, 58, 64, 65, 71, 72, 85, 86, 92, 93, 99, 100, 106, 107, 120, 121, 125, 126, 171, 172, 173, 174, 182, 183, 189, 190, 196, 197, 203, 204, 210, 211, 217, 218, 224, 225, 229, 230]
theorem left_once {p q : Program} {loose : List Str} {Xt : Shared → Bool} {α : Type} {Yf : Shared → α} {Ya : World → α} {N : Nat} {g0 : Bool} {H : Params → Heap} {gs : Array GenState} {d : Drawn} {k m₀ : Nat} {ann : Option Value}
    (hb : ∀ w : World, (fencedOpening treeTable p w N).map (fun s => (s.heap, s.gens, s.drawn, s.toks)) = some (H w.params, gs, d, k))
    (hs : ∀ w : World, ((H w.params).isNs mainGlobals && gs.size == 0, (H w.params).objs.size, (H w.params).nsMap mainGlobals (Str.ofString "__annotations__")) = (true, m₀, ann))
    (hr : ∀ (w : World) (os : OsState), (topRun treeTable p w m₀ ann N ⟨H w.params, gs, d, k, os⟩ (topStub p)).map (fun s =>
      ((staticsOk (importedModules p.main.body) (H w.params) s.heap && namesBound p s.heap && gensDone s && laidKept (H w.params) s.heap), openSeen q loose (importedModules p.main.body) Xt g0 s, Yf s)) = some (true, openGood q loose, Ya w)) :
    LeftO p q loose Xt Yf Ya N g0 := by
  intro w
  obtain ⟨s0, e, e'⟩ := Option.map_eq_some_iff.mp (hb w)
  have hs0 : s0 = ⟨H w.params, gs, d, k, s0.os⟩ := by
    cases s0
    simp only [Prod.mk.injEq] at e'
    obtain ⟨a, b, c, d⟩ := e'
    subst a b c d
    rfl
  obtain ⟨s1, r, l⟩ := Option.map_eq_some_iff.mp (hr w s0.os)
  rw [← hs0] at r
  have z := hs w
  simp only [Prod.mk.injEq] at z l
  obtain ⟨z1, z2, z3⟩ := z
  obtain ⟨l1, l2, l3⟩ := l
  have y0 : s0.heap = H w.params := by rw [hs0]
  have y1 : s0.gens = gs := by rw [hs0]
  have t : topFrom treeTable p w N s0 = some s1 := by
    unfold topFrom
    rw [y0, y1, z1, z2, z3]
    show (topRun treeTable p w m₀ ann N s0 (topStub p)).bind _ = _
    rw [r]
    show (match staticsOk (importedModules p.main.body) (H w.params) s1.heap && namesBound p s1.heap && gensDone s1 && laidKept (H w.params) s1.heap with | true => some s1 | false => none) = _
    rw [l1]
  unfold openEnds
  rw [e]
  show (topFrom treeTable p w N s0).map _ = _
  rw [t]
  exact congrArg some (Prod.ext l2 l3)
noncomputable abbrev loose : List Str := [Str.ofString "newer_of", Str.ofString "aged_head"]
noncomputable abbrev hook : Hook := kHook hd.heap_39 hd.as (fun _ => by kernel_rfl)
theorem ws : PySem.Challenge.rw_sz0113_01.wellSaid = true := by
  rw [Fast.te9446332074065402090]
  kernel_rfl
theorem boot : ∀ w : World, (fencedOpening treeTable PySem.Challenge.rw_sz0113_01.row.prog w 2594).map (fun s => (s.heap, s.gens, s.drawn, s.toks)) = some (boot_heap w.params, #[], boot_drawn, boot_toks) :=
  boot_open (by kernel_rfl) rfl (fun s => by kernel_rfl)
theorem left : LeftO PySem.Challenge.rw_sz0113_01.row.prog hd.view_39 loose (fun s => xlAt hd.view_39 [] s && recOk PySem.Challenge.rw_sz0113_01.row.records s) hook.obs hook.val 2594 := by
  refine left_once (m₀ := 11) (ann := some (.ref 6)) boot (fun w => by kernel_rfl) fun w os => ?_
  rw [Fast.te14082659384304107361, Fast.te14364793385576792824, Fast.te4187177175401517315]
  kernel_rfl

theorem enter {prog : Program} {w : World} {A : Around} {s : Shared} {K : Frag} {h₀ : Heap} {L : Addr} {m mg mb : Str → Option Value} {news : List (Addr × Obj)} {p : Program} {loose : List Str} {mean : ExcName → Option Value}
    {R : Result → Shared → Prop} {name qual : Str} {params : Arguments} {body : List Stmt} {scope : Scope} {dV kV doc pm cdv ct oc : Value} {an od : Option Addr} {osl : Array (Option Value)} {f : Addr} {args : Args} {binds : List (Str × Value)}
    (F : Fr h₀ L s.heap m) (X₀ : K.In h₀) (N : News h₀ L s.heap news) (T : Top p loose mean mg mb h₀)
    (ho : K.lookup f = some ⟨oc, od, .func (fnOf name qual params body scope dV kV doc pm an cdv ct), osl⟩) (hcd : codeIn K cdv qual = true) (hroom : A.depth < recursionLimit)
    (hbind : BindsTo s (fnOf name qual params body scope dV kV doc pm an cdv ct) args binds) (hloc : ∀ y ∈ binds, scope.names.lookup y.1 = some .local)
    (h : ∀ g L' h₁, Fr g L' h₁ (fun y => binds.reverse.lookup y) → News g L' h₁ news → K.In g → Top p loose mean mg mb g → s.heap.objs.size = L' →
      wpAny (model prog w) (A.deeper (envOf qual scope L' f cdv)) (execs body (envOf qual scope L' f cdv))
        (fun fl s' => LeaveK h₀ L m g R (match fl with | .ret v => v | _ => .none) s')
        (fun _ _ => False)
        { s with heap := h₁, toks := s.toks + binds.length })
    (hco : scope.isCoroutine = false) (hgen : scope.isGenerator = false) (hk : scope.kind = .function)
    (hcell : ∀ x ∈ scope.names, x.2 ≠ .cell) : codeAny (model prog w) A (.call (.ref f) args) R s := by
  refine codeAny_call_def (fd := fnOf name qual params body scope dV kV doc pm an cdv ct) (body := body) (binds := binds) hroom ((X₀.keeps F.keep) _ _ ho) rfl (T.nolimit.keeps F.keep) (codeRec_of (X₀.keeps F.keep) hcd) rfl hbind hcell hloc (fun h₁ hns hk₁ => ?_) hco hgen hk
  have nm : ∀ b o, h₀.get? b = some o → b ∉ news.map (·.1) := fun b o e q => by
    obtain ⟨p, hp, rfl⟩ := List.mem_map.mp q
    rw [(N p hp).2.2] at e; cases e
  have st : h₀.StaysIn (hideAll s.heap (news.map (·.1))) := fun b o e => hideAll_get _ (F.keep b o e) (nm b o e)
  obtain ⟨oL, es, ep, hL, hLd, hLk, hLf⟩ := F.ns
  have nL : L ∉ news.map (·.1) := fun q => by
    obtain ⟨p, hp, e⟩ := List.mem_map.mp q
    exact (N p hp).2.1 e
  have hLg := hideAll_get (news.map (·.1)) hL nL
  refine wpAny_mono (h _ s.heap.objs.size h₁ ⟨hns, fun b o e => hk₁ b o (of_hideAll _ e), Nat.le_of_eq (hideAll_size _ _)⟩
    (fun p hp => ⟨hk₁ _ _ (N p hp).1, Nat.ne_of_lt (Heap.lt_size (N p hp).1), hideAll_none _ (List.mem_map_of_mem hp)⟩) (X₀.keeps st) (T.keeps st) rfl) (fun fl s' hl => ?_) fun _ _ y => y.elim
  obtain ⟨L', m', news', F', N', k⟩ := hl
  refine k ⟨⟨oL, es, ep, F'.keep L oL hLg, hLd, hLk, hLf⟩, fun b o e => F'.keep b o (st b o e), F.above⟩ fun p hp => ⟨(N' p hp).1, fun q => ?_, ?_⟩
  · have := (N' p hp).2.2; rw [q, hLg] at this; cases this
  · cases q : h₀.get? p.1 with
    | none => rfl
    | some o => have := (N' p hp).2.2; rw [st _ _ q] at this; cases this


def Back (h₀ : Heap) (L : Addr) (m : Str → Option Value) (g : Heap) (Q : Value → Shared → Prop) (v : Value) (s' : Shared) : Prop :=
  LeaveK h₀ L m g (fun r s' => match r with | .ok (.ret v) => Q v s' | _ => False) v s'
theorem back_ {h₀ g : Heap} {L L' : Addr} {m m' : Str → Option Value} {news' : List (Addr × Obj)} {Q : Value → Shared → Prop} {v : Value} {s' : Shared} (F' : Fr g L' s'.heap m') (N' : News g L' s'.heap news')
    (k : Fr h₀ L s'.heap m → News h₀ L s'.heap news' → Q v s') : Back h₀ L m g Q v s' := ⟨L', m', news', F', N', k⟩

def retOf : Flow → Value
  | .ret v => v
  | _ => .none

structure Room (A : Around) (n : Nat) : Prop where
  d : A.depth + n < recursionLimit
  u : A.units + 10 * n < cLine
  h : A.handled = none
theorem Room.deep {A : Around} {n : Nat} (r : Room A n) : A.depth < recursionLimit := Nat.lt_of_le_of_lt (Nat.le_add_right _ _) r.d
theorem Room.u_lt {A : Around} {n : Nat} (r : Room A n) : A.units < cLine := Nat.lt_of_le_of_lt (Nat.le_add_right _ _) r.u
theorem Room.deeper {A : Around} {n : Nat} {env : Env} (r : Room A (n + 1)) : Room (A.deeper env) n := by
  refine ⟨?_, ?_, r.h⟩
  · have := r.d; show A.depth + 1 + n < _; omega
  · have := r.u; show A.units + 3 + 10 * n < _; omega
theorem Room.in1 {A : Around} {n : Nat} (r : Room A (n + 1)) : Room A.in1 n := by
  refine ⟨?_, ?_, r.h⟩
  · have := r.d; show A.depth + n < _; omega
  · have := r.u; show A.units + 1 + 10 * n < _; omega
theorem Room.less {A : Around} {n k : Nat} (r : Room A n) (h : k ≤ n) : Room A k := by
  refine ⟨?_, ?_, r.h⟩
  · have := r.d; omega
  · have := r.u; omega

theorem callFn {prog : Program} {w : World} {A : Around} {s : Shared} {K : Frag} {h₀ : Heap} {L : Addr} {m mg mb : Str → Option Value} {news : List (Addr × Obj)} {p : Program} {loose : List Str} {mean : ExcName → Option Value}
    {Q E : Value → Shared → Prop} {name qual : Str} {params : Arguments} {body : List Stmt} {scope : Scope} {dV kV doc pm cdv ct oc : Value} {an od : Option Addr} {osl : Array (Option Value)} {f : Addr} {args : List Value} (binds : List (Str × Value))
    (F : Fr h₀ L s.heap m) (X₀ : K.In h₀) (N : News h₀ L s.heap news) (T : Top p loose mean mg mb h₀)
    (ho : K.lookup f = some ⟨oc, od, .func (fnOf name qual params body scope dV kV doc pm an cdv ct), osl⟩) (hcd : codeIn K cdv qual = true) {rn : Nat} (hroom : Room A (rn + 1))
    (hbind : BindsTo s (fnOf name qual params body scope dV kV doc pm an cdv ct) ⟨args, []⟩ binds) (hloc : ∀ y ∈ binds, scope.names.lookup y.1 = some .local)
    (h : ∀ g L' h₁, Fr g L' h₁ (fun y => binds.reverse.lookup y) → News g L' h₁ news → K.In g → Top p loose mean mg mb g → s.heap.objs.size = L' → Room (A.deeper (envOf qual scope L' f cdv)) rn →
      wpAny (model prog w) (A.deeper (envOf qual scope L' f cdv)) (execs body (envOf qual scope L' f cdv))
        (fun fl s' => Back h₀ L m g Q (retOf fl) s')
        (fun _ _ => False)
        { s with heap := h₁, toks := s.toks + binds.length })
    (hco : scope.isCoroutine = false) (hgen : scope.isGenerator = false) (hk : scope.kind = .function)
    (hcell : ∀ x ∈ scope.names, x.2 ≠ .cell) : wpAny (model prog w) A (call (.ref f) args) Q E s := by
  refine wpAny_call (enter F X₀ N T ho hcd hroom.deep hbind hloc (fun g L' h₁ F' N' X' T' hz => wpAny_mono (h g L' h₁ F' N' X' T' hz hroom.deeper) (fun fl s' hb => ?_) fun _ _ y => y) hco hgen hk hcell)
  obtain ⟨L'', m', news', F'', N'', k⟩ := hb
  cases fl <;> exact ⟨L'', m', news', F'', N'', k⟩


abbrev tupO (vs : List Value) : Obj := { cls := .type "tuple", data := .seq vs.toArray }
abbrev headO (g n u v : Int) (t : Fin 7 → Tok) : Obj := tupO [.int g (t 0), .int 2 (t 1), .int 1 (t 2), .int 0 (t 3), .int n (t 4), .int u (t 5), .int v (t 6)]


section
variable {prog : Program} {w : World} {A : Around} {E : Value → Shared → Prop} {s : Shared} {h₀ : Heap} {L : Addr} {m : Str → Option Value} {news : List (Addr × Obj)}
theorem sliceTup1 {value slice : Expr} {t : Addr} {x : Value} {items : List Value} {u : Tok} {Q : Value → Shared → Prop} {hp : Heap} {gs : Array GenState} {dr : Drawn} {tk : Nat} {os : OsState}
    (F : Fr h₀ L hp m) (N : News h₀ L hp news) (ht : (t, tupO (x :: items)) ∈ news)
    (h : ∀ D h', Fr h₀ L h' m → News h₀ L h' ((D, tupO items) :: news) → (∀ p ∈ news, p.1 < D) → Q (.ref D) ⟨h', gs, dr, tk, os⟩)
    (hs : subscripted slice false (.ref t) (.ref hp.objs.size) = operate [.ref hp.objs.size, .ref t] (getItem (.ref t) (.ref hp.objs.size)))
    (hg : ∀ r, letTemporaryGo value (.ref t) r = pure ())
    (hsz : items.length ≤ 100) :
    wpAny (model prog w) A (subscriptTail value slice (.ref t) (.ref hp.objs.size)) Q E ⟨hp.push { cls := .type "slice", data := .fields #[.int 1 u, .none, .none] }, gs, dr, tk, os⟩ :=
  slice_tuple_from (s := ⟨hp, gs, dr, tk, os⟩) (a := 1) (items := (x :: items).toArray) F N ⟨_, (N _ ht).1, rfl, 0, rfl⟩ (Nat.le_refl _) (by simp) (fun h' F' N' => h _ h' F' (by simpa using N') fun p hp => Nat.lt_succ_of_lt (Heap.lt_size (N p hp).1)) hs hg (by simp [sizeLine_eq]; omega)
theorem addTup {a b : Addr} {xs ys : List Value} {Q : Value → Shared → Prop} (F : Fr h₀ L s.heap m) (N : News h₀ L s.heap news) (ha : (a, tupO xs) ∈ news) (hb : (b, tupO ys) ∈ news)
    (h1 : xs ≠ []) (h2 : ys ≠ []) (hz : xs.length + ys.length ≤ 100)
    (h : ∀ D h', Fr h₀ L h' m → News h₀ L h' ((D, tupO (xs ++ ys)) :: news) → (∀ p ∈ news, p.1 < D) → Q (.ref D) { s with heap := h' }) :
    wpAny (model prog w) A (binaryOp .Add (.ref a) (.ref b)) Q E s := by
  refine PySem.P.add_tuple (N _ ha).1 (N _ hb).1 (by simpa using h1) (by simpa using h2) ?_ (by simp [sizeLine_eq]; omega)
  have := h s.heap.objs.size (s.heap.push (tupO (xs ++ ys))) (F.push _) (N.push F _) (fun p hp => Heap.lt_size (N p hp).1)
  simpa using this
end

abbrev Led := List (Addr × Obj)
def Sub (l l' : Led) : Prop := ∀ p ∈ l, p ∈ l'
theorem Sub.refl (l : Led) : Sub l l := fun _ h => h
theorem Sub.app {l n : Led} : Sub l (n ++ l) := fun _ h => List.mem_append_right _ h
theorem Sub.cons {l l' : Led} {x} (h : Sub l l') : Sub l (x :: l') := fun _ m => .tail _ (h _ m)
theorem Sub.apps {l l' n : Led} (h : Sub l l') : Sub l (n ++ l') := fun _ m => List.mem_append_right _ (h _ m)
theorem Sub.inl {a b : Led} : Sub a (a ++ b) := fun _ m => List.mem_append_left _ m
theorem Sub.both {a b l : Led} (h : Sub a l) (k : Sub b l) : Sub (a ++ b) l := fun _ m => (List.mem_append.mp m).elim (h _) (k _)
theorem Sub.consl {x : Addr × Obj} {a l : Led} (h : x ∈ l) (k : Sub a l) : Sub (x :: a) l := fun _ m => by
  cases m with
  | head => exact h
  | tail _ m => exact k _ m
theorem Sub.nil {l : Led} : Sub [] l := fun _ m => nomatch m
theorem Sub.trans {a b c : Led} (h : Sub a b) (k : Sub b c) : Sub a c := fun _ m => k _ (h _ m)
theorem Sub.apply {l l' : Led} {x : Addr × Obj} (s : Sub l l') (m : x ∈ l) : x ∈ l' := s x m
def Above (l n : Led) : Prop := ∀ q ∈ n, ∀ p ∈ l, p.1 < q.1

theorem Above.nil {l : Led} : Above l [] := fun _ h => nomatch h
theorem Above.cons {l n : Led} {x : Addr × Obj} (h : ∀ p ∈ l, p.1 < x.1) (k : Above l n) : Above l (x :: n) := fun q hq => by
  cases hq with
  | head => exact h
  | tail _ hq => exact k q hq
theorem Above.app {l n n' : Led} (h : Above l n) (k : Above l n') : Above l (n ++ n') := fun q hq => (List.mem_append.mp hq).elim (h q) (k q)
theorem Above.less {l l' n : Led} (s : Sub l l') (h : Above l' n) : Above l n := fun q hq p hp => h q hq p (s p hp)
theorem Above.lt {l l' : Led} {x : Addr × Obj} (s : Sub l l') (h : ∀ p ∈ l', p.1 < x.1) : ∀ p ∈ l, p.1 < x.1 := fun p hp => h p (s p hp)

def Off (rp : Addr) (l : Led) : Prop := ∀ p ∈ l, p.1 ≠ rp
theorem Off.nil {rp : Addr} : Off rp [] := fun _ h => nomatch h
theorem Off.cons {rp : Addr} {l l' : Led} {x : Addr × Obj} {o : Obj} (m : (rp, o) ∈ l') (h : ∀ p ∈ l', p.1 < x.1) (k : Off rp l) : Off rp (x :: l) := fun q hq => by
  cases hq with
  | head => exact Nat.ne_of_gt (h _ m)
  | tail _ hq => exact k q hq
theorem Off.cons' {rp : Addr} {l : Led} {x : Addr × Obj} (h : x.1 ≠ rp) (k : Off rp l) : Off rp (x :: l) := fun q hq => by
  cases hq with
  | head => exact h
  | tail _ hq => exact k q hq
theorem Off.app {rp : Addr} {n l l' : Led} {o : Obj} (m : (rp, o) ∈ l') (h : Above l' n) (k : Off rp l) : Off rp (n ++ l) := fun q hq =>
  (List.mem_append.mp hq).elim (fun z => Nat.ne_of_gt (h q z _ m)) (k q)
theorem Off.of {rp : Addr} {n l' : Led} {o : Obj} (h : Above l' n) (m : (rp, o) ∈ l') : Off rp n := fun q z => Nat.ne_of_gt (h q z _ m)
theorem Off.of' {rp : Addr} {n l' : Led} {o : Obj} (h : Above l' n) (m : (rp, o) ∈ l') : Off rp n := fun q z => Nat.ne_of_gt (h q z _ m)
theorem Off.both {rp : Addr} {n l : Led} (h : Off rp n) (k : Off rp l) : Off rp (n ++ l) := fun q hq => (List.mem_append.mp hq).elim (h q) (k q)
theorem News.sub {h₀ h : Heap} {L : Addr} {l l' : Led} (N : News h₀ L h l') (s : Sub l l') : News h₀ L h l := fun p hp => N p (s p hp)

inductive UpF (a : Addr) (o : Obj) : Led → (Obj → Led) → Prop
  | head {l : Led} : Off a l → UpF a o ((a, o) :: l) (fun o' => (a, o') :: l)
  | tail {x : Addr × Obj} {l : Led} {g : Obj → Led} : x.1 ≠ a → UpF a o l g → UpF a o (x :: l) (fun o' => x :: g o')
  | app {n l : Led} {g : Obj → Led} : Off a n → UpF a o l g → UpF a o (n ++ l) (fun o' => n ++ g o')
theorem UpF.mem {a : Addr} {o : Obj} {l : Led} {g : Obj → Led} (U : UpF a o l g) : (a, o) ∈ l := by
  induction U with
  | head _ => exact .head _
  | tail _ _ ih => exact .tail _ ih
  | app _ _ ih => exact List.mem_append_right _ ih
theorem UpF.mem' {a : Addr} {o : Obj} {l : Led} {g : Obj → Led} (U : UpF a o l g) (o' : Obj) : (a, o') ∈ g o' := by
  induction U with
  | head _ => exact .head _
  | tail _ _ ih => exact .tail _ ih
  | app _ _ ih => exact List.mem_append_right _ ih
theorem UpF.news {a : Addr} {o : Obj} {l : Led} {g : Obj → Led} (U : UpF a o l g) {h₀ h h' : Heap} {L : Addr} {o' : Obj} (N : News h₀ L h l) (sb : Heap.SameBut a h h') (ho : h'.get? a = some o') : News h₀ L h' (g o') := by
  have P := N _ U.mem
  have key : ∀ p ∈ l, p.1 ≠ a → h'.get? p.1 = some p.2 ∧ p.1 ≠ L ∧ h₀.get? p.1 = none := fun p hp q => ⟨(sb.2 _ q).trans (N p hp).1, (N p hp).2⟩
  clear N
  induction U with
  | head off =>
    intro p hp
    cases hp with
    | head => exact ⟨ho, P.2⟩
    | tail _ hp => exact key p (.tail _ hp) (off p hp)
  | tail ne U ih =>
    intro p hp
    cases hp with
    | head => exact key _ (.head _) ne
    | tail _ hp => exact ih (fun q hq => key q (.tail _ hq)) p hp
  | app off U ih =>
    intro p hp
    rcases List.mem_append.mp hp with hp | hp
    · exact key p (List.mem_append_left _ hp) (off p hp)
    · exact ih (fun q hq => key q (List.mem_append_right _ hq)) p hp
theorem UpF.fr {a : Addr} {o : Obj} {l : Led} {g : Obj → Led} (U : UpF a o l g) {h₀ h h' : Heap} {L : Addr} {m : Str → Option Value} (F : Fr h₀ L h m) (N : News h₀ L h l) (sb : Heap.SameBut a h h') : Fr h₀ L h' m := by
  have P := N _ U.mem
  exact ⟨F.ns.sameBut sb (Ne.symm P.2.1), fun b ob e => (sb.2 b (fun q => by subst q; rw [P.2.2] at e; cases e)).trans (F.keep b ob e), F.above⟩
theorem ne_above {a : Addr} {o : Obj} {D : Addr} {l : Led} (h : ∀ p ∈ l, p.1 < D) (m : (a, o) ∈ l) : D ≠ a := Nat.ne_of_gt (h _ m)

inductive All2 {α β : Type} (R : α → β → Prop) : List α → List β → Prop
  | nil : All2 R [] []
  | cons {a b as bs} : R a b → All2 R as bs → All2 R (a :: as) (b :: bs)
theorem All2.mono {α β : Type} {R S : α → β → Prop} (h : ∀ a b, R a b → S a b) {as bs} (x : All2 R as bs) : All2 S as bs := by
  induction x with
  | nil => exact .nil
  | cons r _ ih => exact .cons (h _ _ r) ih
theorem All2.length {α β : Type} {R : α → β → Prop} {as bs} (x : All2 R as bs) : as.length = bs.length := by
  induction x with
  | nil => rfl
  | cons _ _ ih => simp [ih]
theorem All2.append {α β : Type} {R : α → β → Prop} {as bs as' bs'} (x : All2 R as bs) (y : All2 R as' bs') : All2 R (as ++ as') (bs ++ bs') := by
  induction x with
  | nil => exact y
  | cons r _ ih => exact .cons r ih
theorem All2.snoc {α β : Type} {R : α → β → Prop} {as bs a b} (x : All2 R as bs) (y : R a b) : All2 R (as ++ [a]) (bs ++ [b]) := x.append (.cons y .nil)
theorem All2.get {α β : Type} {R : α → β → Prop} {as bs} (x : All2 R as bs) : ∀ {i : Nat} {b : β}, bs[i]? = some b → ∃ a, as[i]? = some a ∧ R a b := by
  induction x with
  | nil => intro i b h; simp at h
  | cons r _ ih =>
    intro i b h
    cases i with
    | zero => simp at h; subst h; exact ⟨_, rfl, r⟩
    | succ i => simpa using ih (by simpa using h)
theorem All2.reverse {α β : Type} {R : α → β → Prop} {as bs} (x : All2 R as bs) : All2 R as.reverse bs.reverse := by
  induction x with
  | nil => exact .nil
  | cons r _ ih => rw [List.reverse_cons, List.reverse_cons]; exact ih.snoc r

def PlaceAt (led : Led) (p : Addr) (u v : Int) (f : Bool) : Prop := ∃ t1 t2, (p, tupO [.int u t1, .int v t2, .bool f]) ∈ led
def BodyAt (led : Led) (b : Addr) (u v : Int) (f : Bool) : Prop := ∃ pp t1 t2, (b, tupO [.str (Str.ofString "router") t1, .int 0 t2, .ref pp]) ∈ led ∧ PlaceAt led pp u v f
def HeadAt (led : Led) (a : Addr) (g n u v : Int) : Prop := ∃ t0 t1 t2 t3 t4 t5 t6, (a, tupO [.int g t0, .int 2 t1, .int 1 t2, .int 0 t3, .int n t4, .int u t5, .int v t6]) ∈ led
def KeyAt (led : Led) (k : Addr) (n : Int) : Prop := ∃ t0 t1 t2, (k, tupO [.int 1 t0, .int 0 t1, .int n t2]) ∈ led

structure Row where
  age : Int
  name : Int
  num : Int
  tot : Int
  fin : Bool
  deriving DecidableEq
structure Ent where
  row : Row
  since : Int
  deriving DecidableEq
def RowAt (led : Led) (a : Addr) (r : Row) : Prop := ∃ hp bp, (a, tupO [.ref hp, .ref bp]) ∈ led ∧ HeadAt led hp r.age r.name r.num r.tot ∧ BodyAt led bp r.num r.tot r.fin
def RowV (led : Led) (v : Value) (r : Row) : Prop := ∃ a, v = .ref a ∧ RowAt led a r
def ValAt (led : Led) (v : Value) (e : Ent) : Prop := ∃ vp lp t, v = .ref vp ∧ (vp, tupO [.ref lp, .int e.since t]) ∈ led ∧ RowAt led lp e.row
def KValAt (led : Led) (v : Value) (e : Ent) : Prop := ∃ vp pp t1 t2, v = .ref vp ∧ (vp, tupO [.ref pp, .int e.row.age t1, .int e.since t2]) ∈ led ∧ PlaceAt led pp e.row.num e.row.tot e.row.fin
def EntAt (led : Led) (x : List Int × Addr × Value) (e : Ent) : Prop := x.1 = [1, 0, e.row.name] ∧ KeyAt led x.2.1 e.row.name ∧ ValAt led x.2.2 e

section
variable {led led' : Led} (h : Sub led led')
include h
theorem PlaceAt.mono {p u v f} : PlaceAt led p u v f → PlaceAt led' p u v f := fun ⟨a, b, m⟩ => ⟨a, b, h _ m⟩
theorem BodyAt.mono {p u v f} : BodyAt led p u v f → BodyAt led' p u v f := fun ⟨a, b, c, m, x⟩ => ⟨a, b, c, h _ m, x.mono h⟩
theorem HeadAt.mono {p g n u v} : HeadAt led p g n u v → HeadAt led' p g n u v := fun ⟨a, b, c, d, e, f, g, m⟩ => ⟨a, b, c, d, e, f, g, h _ m⟩
theorem KeyAt.mono {p n} : KeyAt led p n → KeyAt led' p n := fun ⟨a, b, c, m⟩ => ⟨a, b, c, h _ m⟩
theorem RowAt.mono {p r} : RowAt led p r → RowAt led' p r := fun ⟨a, b, m, x, y⟩ => ⟨a, b, h _ m, x.mono h, y.mono h⟩
theorem RowV.mono {p r} : RowV led p r → RowV led' p r := fun ⟨a, e, x⟩ => ⟨a, e, x.mono h⟩
theorem ValAt.mono {p r} : ValAt led p r → ValAt led' p r := fun ⟨a, b, c, e, m, x⟩ => ⟨a, b, c, e, h _ m, x.mono h⟩
theorem KValAt.mono {p r} : KValAt led p r → KValAt led' p r := fun ⟨a, b, c, d, e, m, x⟩ => ⟨a, b, c, d, e, h _ m, x.mono h⟩
theorem EntAt.mono {p r} : EntAt led p r → EntAt led' p r := fun ⟨a, b, c⟩ => ⟨a, b.mono h, c.mono h⟩
end

theorem isSome_some {α : Type} {x : Option α} {e : α} (h : x = some e) : x.isSome = true := by rw [h]; rfl
theorem isSome_none {α : Type} {x : Option α} (h : x = none) : x.isSome = false := by rw [h]; rfl
def findE (es : List Ent) (n : Int) : Option Ent := es.find? (fun e => decide (e.row.name = n))
def putE (es : List Ent) (e : Ent) : List Ent :=
  if (findE es e.row.name).isSome then es.map (fun x => if x.row.name = e.row.name then e else x) else es ++ [e]
def names (es : List Ent) : List Int := es.map (·.row.name)

theorem findE_name {es : List Ent} {n : Int} {e : Ent} (h : findE es n = some e) : e.row.name = n := by
  have := List.find?_some h
  exact of_decide_eq_true this
theorem findE_mem {es : List Ent} {n : Int} {e : Ent} (h : findE es n = some e) : e ∈ es := List.mem_of_find?_eq_some h
theorem names_put_old {es : List Ent} {e : Ent} : names (es.map (fun x => if x.row.name = e.row.name then e else x)) = names es := by
  induction es with
  | nil => rfl
  | cons x r ih =>
    simp only [names, List.map_cons] at *
    rw [ih]
    by_cases q : x.row.name = e.row.name <;> simp [q]
theorem findE_none {es : List Ent} {n : Int} (h : findE es n = none) : n ∉ names es := by
  intro hm
  obtain ⟨x, hx, rfl⟩ := List.mem_map.mp hm
  have := List.find?_eq_none.mp h x hx
  simp at this
theorem nodup_put {es : List Ent} {e : Ent} (h : (names es).Nodup) : (names (putE es e)).Nodup := by
  unfold putE
  split
  · rw [names_put_old]; exact h
  · rename_i q
    have q' : findE es e.row.name = none := by simpa using q
    have := findE_none q'
    show (List.map _ (es ++ [e])).Nodup
    rw [List.map_append, List.nodup_append]
    refine ⟨h, by simp, ?_⟩
    intro a ha b hb
    simp at hb
    subst hb
    rintro rfl
    exact this ha

section
variable (prog : Program) (w : World)
def Rows (led : Led) (o : Obj) (es : List Ent) : Prop :=
  o.ExactDict ∧ (names es).Nodup ∧ ∃ xs des ep, o.data = .dict des ep ∧ des.toList = xs.map (entryOfKey (tupleKind (intKind prog w))) ∧ All2 (EntAt led) xs es
def Known (led : Led) (o : Obj) (es : List Ent) : Prop :=
  ∃ kvs, o.IsDictOf (intKind prog w) kvs ∧ All2 (fun kv e => kv.1 = e.row.name ∧ KValAt led kv.2 e) kvs es
variable {prog w}
theorem Rows.mono {led led' : Led} {o es} (h : Sub led led') : Rows prog w led o es → Rows prog w led' o es := fun ⟨a, n, b, c, d, e, f, g⟩ => ⟨a, n, b, c, d, e, f, g.mono fun _ _ x => x.mono h⟩
theorem Known.mono {led led' : Led} {o es} (h : Sub led led') : Known prog w led o es → Known prog w led' o es := fun ⟨a, n, g⟩ => ⟨a, n, g.mono fun _ _ x => ⟨x.1, x.2.mono h⟩⟩

theorem key_is {hp : Heap} {h₀ : Heap} {L : Addr} {news : Led} (N : News h₀ L hp news) {k n} (h : KeyAt news k n) : (tupleKind (intKind prog w)).is hp [1, 0, n] k := by
  obtain ⟨t0, t1, t2, m⟩ := h
  exact ⟨_, _, 0, (N _ m).1, rfl, rfl, .cons (by simp [intKind, Value.isInt]) (.cons (by simp [intKind, Value.isInt]) (.cons (by simp [intKind, Value.isInt]) .nil))⟩
theorem xs_names {led : Led} {xs es} (h : All2 (EntAt led) xs es) : xs.map (·.1) = (names es).map fun n => [1, 0, n] := by
  induction h with
  | nil => rfl
  | cons r _ ih => simp only [List.map_cons, names] at *; rw [ih, r.1]
theorem nodup_map {l : List Int} (h : l.Nodup) : (l.map fun n => [1, 0, n]).Nodup := by
  induction l with
  | nil => simp
  | cons a r ih =>
    rw [List.nodup_cons] at h
    rw [List.map_cons, List.nodup_cons]
    refine ⟨fun hm => ?_, ih h.2⟩
    obtain ⟨b, hb, e⟩ := List.mem_map.mp hm
    simp at e
    exact h.1 (e ▸ hb)
theorem Rows.dict {hp h₀ : Heap} {L rp : Addr} {news led : Led} {o es} (N : News h₀ L hp news) (hm : (rp, o) ∈ news) (hs : Sub led news) (R : Rows prog w led o es) :
    ∃ xs, hp.DictOfH (tupleKind (intKind prog w)) rp xs ∧ All2 (EntAt led) xs es := by
  obtain ⟨ex, nd, xs, des, ep, e1, e2, a⟩ := R
  refine ⟨xs, ⟨o, des, ep, (N _ hm).1, ex, e1, e2, ?_, by rw [xs_names a]; exact nodup_map nd⟩, a⟩
  intro x hx
  have : ∀ {xs : List (List Int × Addr × Value)} {es : List Ent}, All2 (EntAt led) xs es → ∀ x ∈ xs, ∃ e, EntAt led x e := by
    intro xs es h
    induction h with
    | nil => intro x hx; cases hx
    | cons r _ ih =>
      intro x hx
      cases hx with
      | head => exact ⟨_, r⟩
      | tail _ hx => exact ih x hx
  obtain ⟨e, h1, h2, _⟩ := this a x hx
  rw [h1]
  exact key_is N (h2.mono hs)

theorem atKey_find {led : Led} {xs es} (h : All2 (EntAt led) xs es) (n : Int) :
    (findE es n = none ∧ atKey xs [1, 0, n] = none) ∨ ∃ e a v, findE es n = some e ∧ atKey xs [1, 0, n] = some (a, v) ∧ ValAt led v e := by
  induction h with
  | nil => exact .inl ⟨rfl, rfl⟩
  | @cons x e xs es r _ ih =>
    by_cases q : e.row.name = n
    · refine .inr ⟨e, x.2.1, x.2.2, by simp [findE, q], ?_, r.2.2⟩
      simp [atKey, r.1, q]
    · rcases ih with ⟨a, b⟩ | ⟨e', a, v, h1, h2, h3⟩
      · exact .inl ⟨by simpa [findE, q] using a, by simpa [atKey, r.1, q] using b⟩
      · exact .inr ⟨e', a, v, by simpa [findE, q] using h1, by simpa [atKey, r.1, q] using h2, h3⟩

theorem storedH_put {led : Led} {xs es} {k : Addr} {v : Value} {e : Ent} (h : All2 (EntAt led) xs es) (hk : KeyAt led k e.row.name) (hv : ValAt led v e) : All2 (EntAt led) (storedH xs [1, 0, e.row.name] k v) (putE es e) := by
  have hmap : All2 (EntAt led) (xs.map (putAt [1, 0, e.row.name] v)) (es.map (fun x => if x.row.name = e.row.name then e else x)) := by
    induction h with
    | nil => exact .nil
    | @cons x e' xs es r _ ih =>
      refine .cons ?_ ih
      unfold putAt
      dsimp only
      by_cases q : e'.row.name = e.row.name
      · rw [if_pos (by rw [r.1, q]), if_pos q]
        exact ⟨by rw [r.1, q], by rw [← q]; exact r.2.1, hv⟩
      · rw [if_neg (by rw [r.1]; simpa using q), if_neg q]
        exact r
  unfold putE storedH
  rcases atKey_find h e.row.name with ⟨a, b⟩ | ⟨e', a, v', h1, h2, _⟩
  · rw [a, b]
    exact h.snoc ⟨rfl, hk, hv⟩
  · rw [h1, h2]
    exact hmap

variable {A : Around} {E : Value → Shared → Prop} {s : Shared} {h₀ : Heap} {L : Addr} {m : Str → Option Value} {news led : Led} {rp k : Addr} {o : Obj} {es : List Ent} {n : Int}

theorem rows_in {Q : Value → Shared → Prop} {rn : Nat} (hR : Room A (rn + 2)) (N : News h₀ L s.heap news) (hm : (rp, o) ∈ news) (hs : Sub led news) (R : Rows prog w led o es) (hk : KeyAt news k n) (h1 : 1 < rp) {b : Bool} (hb : (findE es n).isSome = b)
    (h : ∀ tk, Q (.bool b) { s with toks := tk }) : wpAny (model prog w) A (compareOp .In (.ref k) (.ref rp)) Q E s := by
  subst hb
  obtain ⟨xs, D, a⟩ := R.dict N hm hs
  refine wpAny_in_heap (knd := tupleKind (intKind prog w)) hR.in1.u_lt (key_is N hk) (beq_eq_false_iff_ne.mpr (Nat.ne_of_gt h1)) D ?_
  rcases atKey_find a n with ⟨b, c⟩ | ⟨e, p, v, b, c, _⟩
  · rw [c]; rw [b] at h; exact h _
  · rw [c]; rw [b] at h; exact h _

theorem rows_item {Q : Value → Shared → Prop} {rn : Nat} {e : Ent} (hR : Room A (rn + 2)) (N : News h₀ L s.heap news) (hm : (rp, o) ∈ news) (hs : Sub led news) (R : Rows prog w led o es) (hk : KeyAt news k n) (he : findE es n = some e)
    (h : ∀ v tk, ValAt led v e → Q v { s with toks := tk }) : wpAny (model prog w) A (getItem (.ref rp) (.ref k)) Q E s := by
  obtain ⟨xs, D, a⟩ := R.dict N hm hs
  rcases atKey_find a n with ⟨b, c⟩ | ⟨e', p, v, b, c, d⟩
  · rw [he] at b; cases b
  · rw [he] at b; cases b
    exact wpAny_getItem_heap (knd := tupleKind (intKind prog w)) hR.in1.u_lt (key_is N hk) D c (h v _ d)

theorem rows_set {Q : Unit → Shared → Prop} {rn : Nat} {e : Ent} {v : Value} {g : Obj → Led} (led' : Led) (hR : Room A (rn + 2)) (F : Fr h₀ L s.heap m) (N : News h₀ L s.heap news) (U : UpF rp o news g) (hs : Sub led led') (hs' : Sub led' news) (R : Rows prog w led o es) (hk : KeyAt led' k e.row.name) (hv : ValAt led' v e) (hz : es.length ≤ 1000)
    (h : ∀ h' o' tk, Fr h₀ L h' m → News h₀ L h' (g o') → Rows prog w led' o' (putE es e) → Q () { s with heap := h', toks := tk }) : wpAny (model prog w) A (setItem (.ref rp) (.ref k) v) Q E s := by
  have nd := nodup_put (e := e) R.2.1
  obtain ⟨xs, D, a⟩ := R.dict N U.mem (hs.trans hs')
  refine wpAny_setItem_heap (knd := tupleKind (intKind prog w)) hR.in1.u_lt (key_is N (hk.mono hs')) D (fun h' D' sb => ?_) (by rw [a.length, sizeLine_eq]; omega)
  obtain ⟨o', des, ep, ho, ex, hd, he, _, _⟩ := D'
  exact h h' o' _ (U.fr F N sb) (U.news N sb ho) ⟨ex, nd, _, des, ep, hd, he, storedH_put (a.mono fun _ _ x => x.mono hs) hk hv⟩

theorem Known.dict {hp : Heap} {news : Led} {es} (N : News h₀ L hp news) (hm : (rp, o) ∈ news) (R : Known prog w led o es) :
    ∃ kvs, hp.DictOf (intKind prog w) rp kvs ∧ All2 (fun kv e => kv.1 = e.row.name ∧ KValAt led kv.2 e) kvs es := by
  obtain ⟨kvs, d, a⟩ := R
  exact ⟨kvs, Heap.dictOf_iff.mpr ⟨o, (N _ hm).1, d⟩, a⟩
theorem valueAt_find {kvs : List (Int × Value)} {es} (h : All2 (fun kv e => kv.1 = e.row.name ∧ KValAt led kv.2 e) kvs es) (n : Int) :
    (findE es n = none ∧ valueAt kvs n = none) ∨ ∃ e v, findE es n = some e ∧ valueAt kvs n = some v ∧ KValAt led v e := by
  induction h with
  | nil => exact .inl ⟨rfl, rfl⟩
  | @cons x e xs es r _ ih =>
    by_cases q : e.row.name = n
    · refine .inr ⟨e, x.2, by simp [findE, q], ?_, r.2⟩
      simp [valueAt, r.1, q]
    · rcases ih with ⟨a, b⟩ | ⟨e', v, h1, h2, h3⟩
      · exact .inl ⟨by simpa [findE, q] using a, by simpa [valueAt, r.1, q] using b⟩
      · exact .inr ⟨e', v, by simpa [findE, q] using h1, by simpa [valueAt, r.1, q] using h2, h3⟩
theorem stored_put {kvs : List (Int × Value)} {es} {v : Value} {e : Ent} (h : All2 (fun kv e => kv.1 = e.row.name ∧ KValAt led kv.2 e) kvs es) (hv : KValAt led v e) :
    All2 (fun kv e => kv.1 = e.row.name ∧ KValAt led kv.2 e) (stored kvs e.row.name v) (putE es e) := by
  have hmap : All2 (fun kv e => kv.1 = e.row.name ∧ KValAt led kv.2 e) (kvs.map fun kv => if kv.1 = e.row.name then (kv.1, v) else kv) (es.map (fun x => if x.row.name = e.row.name then e else x)) := by
    induction h with
    | nil => exact .nil
    | @cons x e' xs es r _ ih =>
      refine .cons ?_ ih
      dsimp only
      by_cases q : e'.row.name = e.row.name
      · rw [if_pos (by rw [r.1, q]), if_pos q]
        exact ⟨by rw [r.1, q], hv⟩
      · rw [if_neg (by rw [r.1]; simpa using q), if_neg q]
        exact r
  have hany : (kvs.any fun kv => decide (kv.1 = e.row.name)) = (findE es e.row.name).isSome := by
    clear hmap
    induction h with
    | nil => rfl
    | @cons x e' xs es r _ ih =>
      by_cases q : e'.row.name = e.row.name
      · simp [findE, r.1, q]
      · simp only [findE] at ih
        simp [findE, r.1, q, ih]
  unfold putE stored
  rw [hany]
  split
  · exact hmap
  · exact h.snoc ⟨rfl, hv⟩

theorem known_in {Q : Value → Shared → Prop} {t : Tok} (N : News h₀ L s.heap news) (hm : (rp, o) ∈ news) (R : Known prog w led o es) (h1 : 1 < rp) {b : Bool} (hb : (findE es n).isSome = b)
    (h : ∀ tk, Q (.bool b) { s with toks := tk }) : wpAny (model prog w) A (compareOp .In (.int n t) (.ref rp)) Q E s := by
  subst hb
  obtain ⟨kvs, D, a⟩ := R.dict N hm
  refine wpAny_in_of (knd := intKind prog w) (k := n) (by simp [intKind, Value.isInt]) (beq_eq_false_iff_ne.mpr (Nat.ne_of_gt h1)) D.mapOf ?_
  rcases valueAt_find a n with ⟨b, c⟩ | ⟨e, v, b, c, _⟩
  · rw [c]; rw [b] at h; exact h _
  · rw [c]; rw [b] at h; exact h _
theorem known_item {Q : Value → Shared → Prop} {t : Tok} {e : Ent} (N : News h₀ L s.heap news) (hm : (rp, o) ∈ news) (R : Known prog w led o es) (he : findE es n = some e)
    (h : ∀ v tk, KValAt led v e → Q v { s with toks := tk }) : wpAny (model prog w) A (getItem (.ref rp) (.int n t)) Q E s := by
  obtain ⟨kvs, D, a⟩ := R.dict N hm
  rcases valueAt_find a n with ⟨b, c⟩ | ⟨e', v, b, c, d⟩
  · rw [he] at b; cases b
  · rw [he] at b; cases b
    exact wpAny_getItem_of (knd := intKind prog w) (k := n) (by simp [intKind, Value.isInt]) D.mapOf c (h v _ d)
theorem known_set {Q : Unit → Shared → Prop} {e : Ent} {v : Value} {t : Tok} {g : Obj → Led} (led' : Led) (F : Fr h₀ L s.heap m) (N : News h₀ L s.heap news) (U : UpF rp o news g) (hs : Sub led led') (R : Known prog w led o es) (hv : KValAt led' v e) (hz : es.length ≤ 1000)
    (h : ∀ h' o' tk, Fr h₀ L h' m → News h₀ L h' (g o') → Known prog w led' o' (putE es e) → Q () { s with heap := h', toks := tk }) : wpAny (model prog w) A (setItem (.ref rp) (.int e.row.name t) v) Q E s := by
  obtain ⟨kvs, D, a⟩ := R.dict N U.mem
  refine wpAny_setItem_pairs (knd := intKind prog w) (k := e.row.name) (by simp [intKind, Value.isInt]) D (fun h' D' sb => ?_) (by rw [a.length, sizeLine_eq]; omega)
  obtain ⟨o', ho, hd⟩ := Heap.dictOf_iff.mp D'
  exact h h' o' _ (U.fr F N sb) (U.news N sb ho) ⟨_, hd, stored_put (a.mono fun _ _ x => ⟨x.1, x.2.mono hs⟩) hv⟩



theorem rows_notin {Q : Value → Shared → Prop} {rn : Nat} (hR : Room A (rn + 2)) (N : News h₀ L s.heap news) (hm : (rp, o) ∈ news) (hs : Sub led news) (R : Rows prog w led o es) (hk : KeyAt news k n) (h1 : 1 < rp) {b : Bool} (hb : (findE es n).isSome = b)
    (h : ∀ tk, Q (.bool (!b)) { s with toks := tk }) : wpAny (model prog w) A (compareOp .NotIn (.ref k) (.ref rp)) Q E s := by
  subst hb
  obtain ⟨xs, D, a⟩ := R.dict N hm hs
  refine wpAny_notIn_heap (knd := tupleKind (intKind prog w)) hR.in1.u_lt (key_is N hk) (beq_eq_false_iff_ne.mpr (Nat.ne_of_gt h1)) D ?_
  rcases atKey_find a n with ⟨b, c⟩ | ⟨e, p, v, b, c, _⟩
  · rw [c]; rw [b] at h; exact h _
  · rw [c]; rw [b] at h; exact h _
theorem rows_tail {value slice : Expr} {Q : Value → Shared → Prop} {rn : Nat} {e : Ent} (hR : Room A (rn + 2)) (N : News h₀ L s.heap news) (hm : (rp, o) ∈ news) (hs : Sub led news) (R : Rows prog w led o es) (hk : KeyAt news k n) (he : findE es n = some e)
    (h : ∀ vp lp t tk, (vp, tupO [.ref lp, .int e.since t]) ∈ news → RowAt led lp e.row → Q (.ref vp) { s with toks := tk })
    (hu : subscripted slice false (.ref rp) (.ref k) = operate [.ref rp, .ref k] (getItem (.ref rp) (.ref k))) : wpAny (model prog w) A (subscriptTail value slice (.ref rp) (.ref k)) Q E s := by
  obtain ⟨xs, D, a⟩ := R.dict N hm hs
  refine tail_any D.typeIs slot_dict_getitem.lookup (rows_item hR N hm hs R hk he ?_) hu
  rintro v tk ⟨vp, lp, t, rfl, m1, m2⟩
  exact h _ _ _ _ (hs _ m1) m2
theorem known_tail {value slice : Expr} {Q : Value → Shared → Prop} {t : Tok} {e : Ent} (N : News h₀ L s.heap news) (hm : (rp, o) ∈ news) (hs : Sub led news) (R : Known prog w led o es) (he : findE es n = some e)
    (h : ∀ vp pp t1 t2 tk, (vp, tupO [.ref pp, .int e.row.age t1, .int e.since t2]) ∈ news → PlaceAt led pp e.row.num e.row.tot e.row.fin → Q (.ref vp) { s with toks := tk })
    (hu : subscripted slice false (.ref rp) (.int n t) = operate [.ref rp, .int n t] (getItem (.ref rp) (.int n t))) : wpAny (model prog w) A (subscriptTail value slice (.ref rp) (.int n t)) Q E s := by
  obtain ⟨xs, D, a⟩ := R.dict N hm
  refine tail_any D.typeIs slot_dict_getitem.lookup (known_item N hm R he ?_) hu
  rintro v tk ⟨vp, lp, t1, t2, rfl, m1, m2⟩
  exact h _ _ _ _ _ (hs _ m1) m2
theorem findE_put (es : List Ent) (e : Ent) : findE (putE es e) e.row.name = some e := by
  unfold putE
  split
  · rename_i h
    unfold findE at *
    rw [List.find?_map]
    obtain ⟨x, hx⟩ := Option.isSome_iff_exists.mp h
    have : es.find? ((fun e' : Ent => decide (e'.row.name = e.row.name)) ∘ fun x => if x.row.name = e.row.name then e else x) = some x := by
      rw [← hx]
      congr 1
      funext y
      simp only [Function.comp_apply]
      by_cases q : y.row.name = e.row.name <;> simp [q]
    rw [this]
    have q : x.row.name = e.row.name := findE_name (es := es) hx
    simp [q]
  · rename_i h
    unfold findE at *
    rw [List.find?_append]
    simp only [Bool.not_eq_true, Option.isSome_eq_false_iff, Option.isNone_iff_eq_none] at h
    rw [h]
    simp
end
def FactsAt (prog : Program) (w : World) (led : Led) (fd : Addr) : Prop := ∃ o kvs, (fd, o) ∈ led ∧ (fd == sysModules) = false ∧ o.IsDictOf (strKind prog w) kvs ∧
  PyProof.V.FlatPairs PyData.str kvs [(.str (Str.ofString "stub"), .bool false), (.str (Str.ofString "talking"), .bool true), (.str (Str.ofString "asked"), .bool false), (.str (Str.ofString "owed"), .bool false), (.str (Str.ofString "flooded"), .bool false), (.str (Str.ofString "told"), .none)]
theorem FactsAt.mono {prog : Program} {w : World} {led led' : Led} (h : Sub led led') {fd} : FactsAt prog w led fd → FactsAt prog w led' fd := fun ⟨a, b, c, d⟩ => ⟨a, b, h _ c, d⟩
def DbAt (led : Led) (d rp : Addr) : Prop := ∃ dx hs t n, (d, instObj 172 dx) ∈ led ∧ (dx, dictOf [⟨hs, .str (Str.ofString "rows") t, .ref rp⟩] n) ∈ led
theorem DbAt.mono {led led' : Led} (h : Sub led led') {a v} : DbAt led a v → DbAt led' a v := fun ⟨dx, hs, t, n, m1, m2⟩ => ⟨dx, hs, t, n, h _ m1, h _ m2⟩

def DatAt (led : Led) (v : Value) (d : PyData) : Prop := ∀ (h₀ h : Heap) (L : Addr), News h₀ L h led → ∃ as, Reads h v d as
theorem DatAt.mono {led led' : Led} {v d} (s : Sub led led') (x : DatAt led v d) : DatAt led' v d := fun h₀ h L N => x h₀ h L (News.sub N s)
theorem DatAt.int {led : Led} {i t} : DatAt led (.int i t) (.int i) := fun _ _ _ _ => ⟨_, .int i t⟩
theorem DatAt.bool {led : Led} {b} : DatAt led (.bool b) (.bool b) := fun _ _ _ _ => ⟨_, .bool b⟩
theorem DatAt.str {led : Led} {i t} : DatAt led (.str i t) (.str i) := fun _ _ _ _ => ⟨_, .str i t⟩
theorem dats_read {led : Led} {vs ds} (x : All2 (DatAt led) vs ds) {h₀ h : Heap} {L : Addr} (N : News h₀ L h led) : ∃ as, ReadsAll h vs ds as := by
  induction x with
  | nil => exact ⟨_, .nil⟩
  | cons r _ ih =>
    obtain ⟨as, a⟩ := r _ _ _ N
    obtain ⟨bs, b⟩ := ih
    exact ⟨_, .cons a b⟩
theorem DatAt.tup {led : Led} {a vs ds} (m : (a, tupO vs) ∈ led) (x : All2 (DatAt led) vs ds) : DatAt led (.ref a) (.tuple ds) := fun _ _ _ N => by
  obtain ⟨as, h⟩ := dats_read x N
  exact ⟨_, .tuple (N _ m).1 rfl rfl (by simpa using h)⟩
theorem DatAt.lst {led : Led} {a vs ds n} (m : (a, listOf vs n) ∈ led) (x : All2 (DatAt led) vs.toList ds) : DatAt led (.ref a) (.list ds) := fun _ _ _ N => by
  obtain ⟨as, h⟩ := dats_read x N
  exact ⟨_, .list (N _ m).1 rfl rfl h⟩
abbrev placeD (u v : Int) (f : Bool) : PyData := .tuple [.int u, .int v, .bool f]
abbrev bodyD (u v : Int) (f : Bool) : PyData := .tuple [.str (Str.ofString "router"), .int 0, placeD u v f]
abbrev rowD (r : Row) : PyData := .tuple [.tuple [.int r.age, .int 2, .int 1, .int 0, .int r.name, .int r.num, .int r.tot], bodyD r.num r.tot r.fin]
theorem PlaceAt.dat {led a u v f} (x : PlaceAt led a u v f) : DatAt led (.ref a) (placeD u v f) := by
  obtain ⟨_, _, m⟩ := x
  exact .tup m (.cons .int (.cons .int (.cons .bool .nil)))
theorem BodyAt.dat {led a u v f} (x : BodyAt led a u v f) : DatAt led (.ref a) (bodyD u v f) := by
  obtain ⟨_, _, _, m, y⟩ := x
  exact .tup m (.cons .str (.cons .int (.cons y.dat .nil)))
theorem RowAt.dat {led a r} (x : RowAt led a r) : DatAt led (.ref a) (rowD r) := by
  obtain ⟨_, _, m, ⟨_, _, _, _, _, _, _, y⟩, z⟩ := x
  exact .tup m (.cons (.tup y (.cons .int (.cons .int (.cons .int (.cons .int (.cons .int (.cons .int (.cons .int .nil)))))))) (.cons z.dat .nil))

section
variable {prog : Program} {w : World} {A : Around} {E : Value → Shared → Prop} {s : Shared} {h₀ : Heap} {L : Addr} {news : Led} {v v' : Value} {d d' : PyData} {Q : Value → Shared → Prop} {rn : Nat}
theorem room_dat (hR : Room A (rn + 1)) (hd : d.depth ≤ 8) : A.units + min d.depth d'.depth < cLine := by
  have := hR.u
  have : min d.depth d'.depth ≤ d.depth := Nat.min_le_left _ _
  omega
theorem eq_dat (hR : Room A (rn + 1)) (N : News h₀ L s.heap news) (h1 : DatAt news v d) (h2 : DatAt news v' d') (c1 : d.canLay0 = true) (c2 : d'.canLay0 = true) (hd : d.depth ≤ 8) {b : Bool} (hb : PyData.eqv d d' = b) (h : Q (.bool b) s) :
    wpAny (model prog w) A (compareOp .Eq v v') Q E s := by
  subst hb
  obtain ⟨_, r1⟩ := h1 _ _ _ N
  obtain ⟨_, r2⟩ := h2 _ _ _ N
  exact SeqAt.compareEq_reads r1 r2 c1 c2 (room_dat hR hd) h
theorem ne_dat (hR : Room A (rn + 1)) (N : News h₀ L s.heap news) (h1 : DatAt news v d) (h2 : DatAt news v' d') (c1 : d.canLay0 = true) (c2 : d'.canLay0 = true) (hd : d.depth ≤ 8) {b : Bool} (hb : PyData.eqv d d' = b) (h : Q (.bool (!b)) s) :
    wpAny (model prog w) A (compareOp .NotEq v v') Q E s := by
  subst hb
  obtain ⟨_, r1⟩ := h1 _ _ _ N
  obtain ⟨_, r2⟩ := h2 _ _ _ N
  exact SeqAt.compareNe_reads r1 r2 c1 c2 (room_dat hR hd) h
end

def LstO (o : Obj) (vs : List Value) : Prop := o.cls = .type "list" ∧ ∃ n, o.data = .seq vs.toArray n
theorem LstO.of {vs : List Value} {n} : LstO (listOf vs.toArray n) vs := ⟨rfl, n, rfl⟩
section
variable {prog : Program} {w : World} {A : Around} {E : Value → Shared → Prop} {s : Shared} {h₀ : Heap} {L : Addr} {news : Led} {rn : Nat} {l : Addr} {o : Obj} {vs : List Value} {m : Str → Option Value}
theorem LstO.is {h : Heap} (N : News h₀ L h news) (hm : (l, o) ∈ news) (x : LstO o vs) : h.IsList l vs.toArray := ⟨o, (N _ hm).1, x.1, x.2⟩
theorem lst_tail {value slice : Expr} {Q : Value → Shared → Prop} {k : Int} {u : Tok} {v : Value} (N : News h₀ L s.heap news) (hm : (l, o) ∈ news) (x : LstO o vs) (h0 : 0 ≤ k) (h1 : k < 1000000) (hx : vs[k.toNat]? = some v) (h : Q v s)
    (hs : subscripted slice false (.ref l) (.int k u) = operate [.ref l, .int k u] (getItem (.ref l) (.int k u))) : wpAny (model prog w) A (subscriptTail value slice (.ref l) (.int k u)) Q E s :=
  have hL := x.is N hm
  tail_any hL.typeIs slot_list_getitem.lookup (wpAny_getItem_list hL h0 (by omega) (by simpa using hx) h) hs
theorem lst_len {Q : Value → Shared → Prop} (N : News h₀ L s.heap news) (hm : (l, o) ∈ news) (x : LstO o vs) (hz : vs.length ≤ 1000000) (h : ∀ t tk, Q (.int vs.length t) { s with toks := tk }) : wpAny (model prog w) A (call (.builtin "len") [.ref l]) Q E s :=
  len_list (x.is N hm) (by simp; omega) (by simpa using h _ _)
theorem lst_set {Q : Unit → Shared → Prop} {k : Int} {u : Tok} {v : Value} {g : Obj → Led} (F : Fr h₀ L s.heap m) (N : News h₀ L s.heap news) (U : UpF l o news g) (x : LstO o vs) (h0 : 0 ≤ k) (h1 : k < vs.length) (hz : vs.length ≤ 1000000)
    (h : ∀ h' o', Fr h₀ L h' m → News h₀ L h' (g o') → LstO o' (vs.set k.toNat v) → Q () { s with heap := h' }) : wpAny (model prog w) A (setItem (.ref l) (.int k u) v) Q E s := by
  refine wpAny_setItem_list (x.is N U.mem) h0 (by omega) (by simpa using h1) (fun h' hl' sb => ?_)
  obtain ⟨o', ho, hc, n, hd⟩ := hl'
  exact h h' o' (U.fr F N sb) (U.news N sb ho) ⟨hc, n, by rw [hd]; simp⟩
theorem ints_get {vs : List Value} {ns : List Int} (h : IntsAre vs ns) : ∀ {i : Nat}, i < vs.length → ∃ x t, vs[i]? = some (.int x t) := by
  induction h with
  | nil => intro i hi; simp at hi
  | cons n t _ ih =>
    intro i hi
    cases i with
    | zero => exact ⟨n, t, rfl⟩
    | succ i => simpa using ih (by simpa using hi)
theorem int_tail {value slice : Expr} {Q : Value → Shared → Prop} {k : Int} {u : Tok} {ns : List Int} (N : News h₀ L s.heap news) (hm : (l, o) ∈ news) (x : LstO o vs) (hi : IntsAre vs ns) (h0 : 0 ≤ k) (h1 : k < vs.length) (hz : vs.length ≤ 1000000) (h : ∀ x t, Q (.int x t) s)
    (hs : subscripted slice false (.ref l) (.int k u) = operate [.ref l, .int k u] (getItem (.ref l) (.int k u))) : wpAny (model prog w) A (subscriptTail value slice (.ref l) (.int k u)) Q E s := by
  obtain ⟨z, t, e⟩ := ints_get hi (i := k.toNat) (by omega)
  exact lst_tail N hm x h0 (by omega) e (h _ _) hs
end
def Hold (P : Prop) : Prop := P
theorem Hold.of {P : Prop} (h : P) : Hold P := h
def thenDo (ys : List Stmt) (env : Env) (f : Flow) : Sem Flow := match f with
  | .next => execs ys env
  | f => pure f
theorem execs_app {env : Env} : ∀ (xs ys : List Stmt), execs (xs ++ ys) env = (execs xs env) >>= thenDo ys env
  | [], ys => rfl
  | st :: xs, ys => by
    rw [List.cons_append, execs_cons, execs_cons, execs_app xs ys]
    show Sem.bind _ _ = Sem.bind (Sem.bind _ _) _
    rw [Sem.bind_assoc]
    congr 1
    funext f
    cases f <;> rfl
theorem execs_cut {M : Model} {A : Around} {env : Env} {Q : Flow → Shared → Prop} {E : Value → Shared → Prop} {s : Shared} {body : List Stmt} (n : Nat) (I : Shared → Prop)
    (h1 : ∀ zIQ : Shared → Prop, (∀ s', I s' → zIQ s') → wpAny M A (execs (body.take n) env) (fun f s' => match f with | .next => zIQ s' | f => Q f s') E s)
    (h2 : ∀ s', I s' → wpAny M A (execs (body.drop n) env) Q E s') : wpAny M A (execs body env) Q E s := by
  rw [← List.take_append_drop n body, execs_app]
  refine wpAny_bind (wpAny_mono (h1 I fun _ x => x) (fun f s' hf => ?_) fun _ _ y => y)
  cases f with
  | next => exact h2 s' hf
  | _ => exact wpAny_pure hf

theorem router_ok : PyData.strOk (Str.ofString "router") = true := by decide +kernel
theorem place_can {u v f} : (placeD u v f).canLay0 = true := by simp [PyData.canLay0, PyData.canLayAll0]
theorem body_can {u v f} : (bodyD u v f).canLay0 = true := by simp [PyData.canLay0, PyData.canLayAll0, router_ok]
theorem row_can {r} : (rowD r).canLay0 = true := by simp [PyData.canLay0, PyData.canLayAll0, router_ok]
theorem place_depth {u v f} : (placeD u v f).depth ≤ 8 := by simp [PyData.depth, PyData.depthAll]
theorem body_depth {u v f} : (bodyD u v f).depth ≤ 8 := by simp [PyData.depth, PyData.depthAll]
theorem row_depth {r} : (rowD r).depth ≤ 8 := by simp [PyData.depth, PyData.depthAll]
theorem place_eqv {u v f u' v' f'} : PyData.eqv (placeD u v f) (placeD u' v' f') = decide (u = u' ∧ v = v' ∧ f = f') := by
  rw [Bool.eq_iff_iff]; simp [PyData.eqv, PyData.eqvAll]
theorem body_eqv {u v f u' v' f'} : PyData.eqv (bodyD u v f) (bodyD u' v' f') = decide (u = u' ∧ v = v' ∧ f = f') := by
  have := place_eqv (u := u) (v := v) (f := f) (u' := u') (v' := v') (f' := f')
  simp only [PyData.eqv, PyData.eqvAll] at *
  simpa using this

theorem Sub.appl {a b c : Led} (h : Sub a b) : Sub a (b ++ c) := fun _ m => List.mem_append_left _ (h _ m)
def SubA (l l' : Led) : Prop := ∀ p ∈ l, ∃ q ∈ l', q.1 = p.1
theorem SubA.of {l l' : Led} (h : Sub l l') : SubA l l' := fun p hp => ⟨p, h p hp, rfl⟩
theorem SubA.consl {a : Addr} {o o' : Obj} {l l' : Led} (h : (a, o') ∈ l') (k : SubA l l') : SubA ((a, o) :: l) l' := fun p hp => by
  cases hp with
  | head => exact ⟨_, h, rfl⟩
  | tail _ hp => exact k p hp
theorem Above.lessA {l l' n : Led} (s : SubA l l') (h : Above l' n) : Above l n := fun q hq p hp => by
  obtain ⟨p', h1, h2⟩ := s p hp
  exact h2 ▸ h q hq p' h1
theorem Above.ltA {l l' : Led} {x : Addr × Obj} (s : SubA l l') (h : ∀ p ∈ l', p.1 < x.1) : ∀ p ∈ l, p.1 < x.1 := fun p hp => by
  obtain ⟨p', h1, h2⟩ := s p hp
  exact h2 ▸ h p' h1
theorem known_tail2 {prog : Program} {w : World} {A : Around} {E : Value → Shared → Prop} {s : Shared} {h₀ : Heap} {L rp : Addr} {news led : Led} {o : Obj} {es : List Ent} {n : Int} {value slice : Expr} {Q : Value → Shared → Prop} {t : Tok} {e : Ent} (N : News h₀ L s.heap news) (hm : (rp, o) ∈ news) (hs : Sub led news) (R : Known prog w led o es) (he : findE es n = some e)
    (h : ∀ vp pp t1 t2 t3 t4 tk, (vp, tupO [.ref pp, .int e.row.age t1, .int e.since t2]) ∈ news → (pp, tupO [.int e.row.num t3, .int e.row.tot t4, .bool e.row.fin]) ∈ news → PlaceAt led pp e.row.num e.row.tot e.row.fin → Q (.ref vp) { s with toks := tk })
    (hu : subscripted slice false (.ref rp) (.int n t) = operate [.ref rp, .int n t] (getItem (.ref rp) (.int n t))) : wpAny (model prog w) A (subscriptTail value slice (.ref rp) (.int n t)) Q E s :=
  known_tail N hm hs R he (fun vp pp t1 t2 tk m1 m2 => by
    have m3 := m2
    obtain ⟨t3, t4, m4⟩ := m3
    exact h vp pp t1 t2 t3 t4 tk m1 (hs _ m4) m2) hu

def RawD (h : Heap) (d : Addr) (es : Array DictEntry) (ep : Nat) : Prop := ∃ o, h.get? d = some o ∧ o.cls = .type "dict" ∧ o.data = .dict es ep
theorem RawD.lt {h : Heap} {d es ep} (x : RawD h d es ep) : d < h.objs.size := let ⟨_, e, _⟩ := x; Heap.lt_size e
theorem RawD.at {h h' : Heap} {d es ep} (x : RawD h d es ep) (e : ∀ o, h.get? d = some o → h'.get? d = some o) : RawD h' d es ep := let ⟨o, ho, r⟩ := x; ⟨o, e _ ho, r⟩
theorem RawD.type {s : Shared} {d es ep} (x : RawD s.heap d es ep) : s.TypeIs (.ref d) "dict" := let ⟨o, ho, hc, _⟩ := x; ⟨o, ho, hc⟩

section
variable {prog : Program} {w : World} {A : Around} {E : Value → Shared → Prop} {s : Shared} {d it : Addr} {es : Array DictEntry} {ep i : Nat}
theorem raw_iter {Q : Value → Shared → Prop} (hd : (d == sysModules) = false) (hm : RawD s.heap d es ep)
    (hQ : Q (.ref s.heap.objs.size) { s with heap := s.heap.push { cls := .type "dict_keyiterator", data := .fields #[.ref d, .int 0 0, .int es.size 0, .int ep 0] } }) :
    wpAny (model prog w) A (pyIter (.ref d)) Q E s := by
  have hT := hm.type
  obtain ⟨o, ho, hc, hdat⟩ := hm
  refine wpAny_pyIter_slot hT PySem.F.slot_dict_iter (wpAny_call_entry PySem.F.slot_dict_iter hT PySem.F.entry_dict_iter ?_ (PySem.F.args_dict_iter_1 _))
  unfold Builtin.«dict.__iter__»
  refine wpAny_bind ?_
  unfold Builtin.Dict.dictSlotNone
  refine wpAny_bind (wpAny_notOrdered_dict hT ?_)
  show wpAny _ _ (pure (Value.ref d)) _ _ s
  refine wpAny_pure ?_
  show wpAny _ _ (Builtin.Dict.showsAll d >>= _) _ _ s
  unfold Builtin.Dict.showsAll
  rw [if_neg (by rw [hd]; exact Bool.false_ne_true)]
  refine wpAny_bind (wpAny_pure ?_)
  refine wpAny_bind (wpAny_dictEntries ho hdat ?_)
  refine wpAny_bind (wpAny_dictEpoch ho hdat ?_)
  refine wpAny_bind (wpAny_newObj_type (wpAny_pure ⟨_, rfl, "dict_keyiterator", _, ⟨_, Heap.get?_push_size _ rfl, rfl⟩, PySem.F.slot_dict_keyiterator_next.lookup, ?_⟩))
  simpa [rawInt] using hQ

theorem raw_next {e : DictEntry} {Q : Option Value → Shared → Prop} (hit : s.heap.IsKeyIter it d i es.size ep) (hm : RawD s.heap d es ep) (hx : es[i]? = some e)
    (hQ : ∀ h', h'.IsKeyIter it d (i + 1) es.size ep → Heap.SameBut it s.heap h' → Q (some e.key) { s with heap := h' }) :
    wpAny (model prog w) A (pyNext (.ref it)) Q E s := by
  obtain ⟨o, ho, hc, hd⟩ := id hit
  obtain ⟨od, hod, hcd, hdd⟩ := id hm
  unfold pyNext
  refine wpAny_bind (wpAny_attempt (wpAny_callSpecial?_slot (name := Str.ofString "__next__") hit.typeIs PySem.F.slot_dict_keyiterator_next
    (wpAny_call_entry PySem.F.slot_dict_keyiterator_next hit.typeIs PySem.F.entry_dict_keyiterator_next ?_ (PySem.F.args_dict_keyiterator_next_1 _))))
  refine wpAny_bind (wpAny_pure ?_)
  refine wpAny_bind ?_
  refine wpAny_bind ?_
  first | refine wpAny_bind (wpAny_typeNameOfWhole_keyiter hit.typeIs (wpAny_pure ?_)) | refine wpAny_bind (wpAny_typeNameOf_keyiter hit.typeIs (wpAny_pure ?_))
  refine wpAny_bind (wpAny_fieldsOf ho hd ?_)
  have hown : Builtin.Dict_items.ownsTuple "dict_keyiterator" = false := by decide
  simp only [hown, Bool.false_eq_true, if_false]
  show wpAny _ _ (if (Value.ref d == Value.none) = true then _ else _) _ _ s
  rw [if_neg (show ¬ ((Value.ref d == Value.none) = true) from Bool.false_ne_true)]
  refine wpAny_bind (wpAny_pure ?_)
  refine wpAny_bind (wpAny_dictEntries hod hdd ?_)
  rw [if_neg (by simp)]
  refine wpAny_bind (wpAny_pure ?_)
  refine wpAny_bind (wpAny_dictEpoch hod hdd ?_)
  rw [if_neg (by simp)]
  refine wpAny_pure ?_
  simp only [show ¬ ((i : Int) < 0) from by omega, if_false, Int.toNat_natCast, hx]
  refine wpAny_bind ?_
  first | refine wpAny_bind (wpAny_typeNameOfWhole_keyiter hit.typeIs (wpAny_pure ?_)) | refine wpAny_bind (wpAny_typeNameOf_keyiter hit.typeIs (wpAny_pure ?_))
  refine wpAny_bind (wpAny_isOneOf_keyiter hit.typeIs ?_)
  show wpAny _ _ (setField (.ref it) 1 (rawInt ((i : Int) + 1)) >>= _) _ _ s
  refine wpAny_bind (wpAny_setField ho hd (by simp) ?_)
  have hit' : (s.heap.update it (Obj.mapFields (·.setIfInBounds 1 (rawInt ((i : Int) + 1))))).IsKeyIter it d (i + 1) es.size ep :=
    ⟨_, Heap.get?_update_self _ ho (Obj.isFreed_of_fields (Obj.data_mapFields hd _)), (Obj.cls_mapFields ..).trans hc, by rw [Obj.data_mapFields hd]; simp [rawInt]⟩
  refine wpAny_bind (wpAny_holding ?_)
  refine wpAny_bind (wpAny_isOneOf_keyiter (s := { s with heap := s.heap.update it (Obj.mapFields (·.setIfInBounds 1 (rawInt ((i : Int) + 1)))) }) hit'.typeIs ?_)
  show wpAny _ _ (pure e.key) _ _ _
  exact wpAny_pure (wpAny_pure ⟨_, rfl, wpAny_pure (hQ _ hit' (Heap.SameBut.update ..))⟩)

theorem raw_stop {Q : Option Value → Shared → Prop} (hh : A.handled = none) (hit : s.heap.IsKeyIter it d i es.size ep) (hm : RawD s.heap d es ep) (hx : es[i]? = none)
    (hQ : ∀ h', Heap.ExtBut it s.heap h' → Q none { s with heap := h' }) : wpAny (model prog w) A (pyNext (.ref it)) Q E s := by
  obtain ⟨o, ho, hc, hd⟩ := id hit
  obtain ⟨od, hod, hcd, hdd⟩ := id hm
  unfold pyNext
  refine wpAny_bind (wpAny_attempt (wpAny_callSpecial?_slot (name := Str.ofString "__next__") hit.typeIs PySem.F.slot_dict_keyiterator_next
    (wpAny_call_entry PySem.F.slot_dict_keyiterator_next hit.typeIs PySem.F.entry_dict_keyiterator_next ?_ (PySem.F.args_dict_keyiterator_next_1 _))))
  refine wpAny_bind (wpAny_pure ?_)
  refine wpAny_bind ?_
  refine wpAny_bind ?_
  first | refine wpAny_bind (wpAny_typeNameOfWhole_keyiter hit.typeIs (wpAny_pure ?_)) | refine wpAny_bind (wpAny_typeNameOf_keyiter hit.typeIs (wpAny_pure ?_))
  refine wpAny_bind (wpAny_fieldsOf ho hd ?_)
  have hown : Builtin.Dict_items.ownsTuple "dict_keyiterator" = false := by decide
  simp only [hown, Bool.false_eq_true, if_false]
  show wpAny _ _ (if (Value.ref d == Value.none) = true then _ else _) _ _ s
  rw [if_neg (show ¬ ((Value.ref d == Value.none) = true) from Bool.false_ne_true)]
  refine wpAny_bind (wpAny_pure ?_)
  refine wpAny_bind (wpAny_dictEntries hod hdd ?_)
  rw [if_neg (by simp)]
  refine wpAny_bind (wpAny_pure ?_)
  refine wpAny_bind (wpAny_dictEpoch hod hdd ?_)
  rw [if_neg (by simp)]
  refine wpAny_pure ?_
  simp only [show ¬ ((i : Int) < 0) from by omega, if_false, Int.toNat_natCast, hx]
  refine wpAny_bind ?_
  first | refine wpAny_bind (wpAny_typeNameOfWhole_keyiter hit.typeIs (wpAny_pure ?_)) | refine wpAny_bind (wpAny_typeNameOf_keyiter hit.typeIs (wpAny_pure ?_))
  show wpAny _ _ (setField (.ref it) 0 .none >>= _) _ _ s
  refine wpAny_bind (wpAny_setField ho hd (by simp) ?_)
  show wpAny _ _ (newExc (.type "StopIteration") [] >>= _) _ _ _
  refine wpAny_bind ?_
  simp only [newExc, newTuple]
  refine wpAny_bind (wpAny_newObj_type ?_ (by size_fits))
  refine wpAny_bind (m := firstArgMember _ _) (wpAny_of_eq (a := Value.none) (by first | rfl | (simp only [firstArgMember]; rfl)) ?_)
  refine wpAny_newObj_type ?_ (by size_fits)
  simp only [raiseNew]
  refine wpAny_bind (wpAny_handled ?_)
  rw [show A.in1.handled = none from hh]
  refine wpAny_bind (wpAny_pure (wpAny_throw ?_))
  refine wpAny_bind (wpAny_isInstance (T := "StopIteration") (b := true) ⟨_, Heap.get?_push_size _ rfl, rfl⟩ isSubtype_stop ?_)
  exact wpAny_pure (hQ _ (((Heap.SameBut.update ..).extBut.push _).push _))

theorem rawWalks (hh : A.handled = none) (I d : Addr) (hne : d ≠ I) (es : Array DictEntry) (ep : Nat) :
    Walks prog w A I [I, d] [I] es.size (fun i v => ∃ e, es[i]? = some e ∧ v = e.key) (fun i h => h.IsKeyIter I d i es.size ep ∧ RawD h d es ep) where
  sub := fun b hb => by simp at hb; simp [hb]
  frame := fun _ _ _ st hk => ⟨let ⟨o, ho, r⟩ := st.1; ⟨o, hk I (by simp) o ho, r⟩, st.2.at fun o e => hk d (by simp) o e⟩
  item := fun i s Q E hi st hQ => by
    refine raw_next st.1 st.2 (e := es[i]) (by simp [hi]) fun h' hit' hs' => ?_
    exact hQ _ h' s.toks ⟨es[i], by simp [hi], rfl⟩ ⟨hit', st.2.at fun o e => (hs'.2 d hne).trans e⟩ fun b o hb e => hs'.extBut b o (fun h => hb (by simp [h])) e
  done := fun s Q E st hQ => raw_stop hh st.1 st.2 (by simp) fun h' he' => hQ h' s.toks fun b o hb e => he' b o (fun h => hb (by simp [h])) e
  self := fun _ _ _ _ st hQ => wpAny_pyIter_keyiter st.1 hQ

theorem rawSrc (lo : (d == sysModules) = false) : KdlSrc prog w "dict" d d es.size (fun i v => ∃ e, es[i]? = some e ∧ v = e.key) (fun h => RawD h d es ep) where
  type := fun _ hm => hm.type
  there := fun _ hm => ⟨hm.lt, hm.lt⟩
  keep := fun _ _ hm hk => hm.at fun o e => hk d (.inl rfl) o e
  notList := by decide
  notTuple := by decide
  hint := fun _ _ _ _ hm hq => kdl_hint_dict hm.type hq
  iter := fun _ _ hh hm => ⟨_, _, (fun _ _ hq => raw_iter lo hm hq), rawWalks hh _ d (Nat.ne_of_lt hm.lt) es ep, ⟨⟨_, Heap.get?_push_size _ rfl, rfl, rfl⟩, hm.at fun o e => Heap.get?_push_of_some _ e⟩⟩
end

def runT {α : Type} : KasT α → (Nat → Nat → Bool) → α
  | .ret a, _ => a
  | .ask i j k, lt => runT (k (lt i j)) lt
def validT {α : Type} (n : Nat) : KasT α → Bool
  | .ret _ => true
  | .ask i j k => decide (i < n) && decide (j < n) && validT n (k true) && validT n (k false)
theorem validT_go {α : Type} {n i j : Nat} {k : Bool → KasT α} (h : validT n (.ask i j k) = true) : i < n ∧ j < n ∧ ∀ b, validT n (k b) = true := by
  simp only [validT, Bool.and_eq_true, decide_eq_true_eq] at h
  exact ⟨h.1.1.1, h.1.1.2, fun b => by cases b; exact h.2; exact h.1.2⟩
theorem runT_congr {α : Type} {n : Nat} {lt lt' : Nat → Nat → Bool} (e : ∀ i j, i < n → j < n → lt i j = lt' i j) : ∀ t : KasT α, validT n t = true → runT t lt = runT t lt'
  | .ret _, _ => rfl
  | .ask i j k, h => by
    obtain ⟨a, b, c⟩ := validT_go h
    show runT (k (lt i j)) lt = runT (k (lt' i j)) lt'
    rw [e i j a b]
    exact runT_congr e _ (c _)
theorem kas_pure {α : Type} {n : Nat} {lt : Nat → Nat → Bool} {cmp : Nat → Nat → (Bool → Shared → Prop) → Shared → Prop} {s : Shared} (hc : ∀ i j, i < n → j < n → ∀ C : Bool → Shared → Prop, C (lt i j) s → cmp i j C s) {G : α → Shared → Prop} :
    ∀ (t : KasT α), validT n t = true → G (runT t lt) s → t.kasWp cmp G s
  | .ret _, _, h => h
  | .ask i j k, v, h => by
    obtain ⟨a, b, c⟩ := validT_go v
    show cmp i j (fun b s' => (k b).kasWp cmp G s') s
    exact hc i j a b _ (kas_pure hc (k (lt i j)) (c _) h)
def tab2 (x : Bool) (i j : Nat) : Bool := match i, j with
  | 1, 0 => x
  | 0, 1 => !x
  | _, _ => false
def tab3 (x y z : Bool) (i j : Nat) : Bool := match i, j with
  | 1, 0 => x
  | 0, 1 => !x
  | 2, 1 => y
  | 1, 2 => !y
  | 2, 0 => z
  | 0, 2 => !z
  | _, _ => false
theorem valid2 : validT 2 (kas_sort 2) = true := by decide +kernel
theorem valid3 : validT 3 (kas_sort 3) = true := by decide +kernel
theorem run2 : ∀ x, (runT (kas_sort 2) (tab2 x)).toList = if x then [1, 0] else [0, 1] := by decide +kernel
theorem run3 : ∀ x y z, (x = true → y = true → z = true) → (x = false → y = false → z = false) → (runT (kas_sort 3) (tab3 x y z)).toList =
    if x then (if y then [2, 1, 0] else if z then [1, 2, 0] else [1, 0, 2]) else (if z then [2, 0, 1] else if y then [0, 2, 1] else [0, 1, 2]) := by decide +kernel
def ltOf (l : List Int) (i j : Nat) : Bool := decide (l.getD i 0 < l.getD j 0)
def outOf {α : Type} (l : List α) (d : α) (p : Array Nat) : List α := p.toList.map fun i => l.getD i d
theorem sort_small {l : List Int} (nd : l.Nodup) (h2 : 2 ≤ l.length) (h3 : l.length ≤ 3) :
    validT l.length (kas_sort l.length) = true ∧ (outOf l 0 (runT (kas_sort l.length) (ltOf l))).Perm l ∧ (outOf l 0 (runT (kas_sort l.length) (ltOf l))).Pairwise (· ≤ ·) ∧
      ∀ i ∈ (runT (kas_sort l.length) (ltOf l)).toList, i < l.length := by
  match l, nd, h2, h3 with
  | [a, b], nd, _, _ =>
    simp only [List.nodup_cons, List.mem_singleton, List.not_mem_nil, not_false_eq_true, List.nodup_nil, and_true] at nd
    have e : runT (kas_sort 2) (ltOf [a, b]) = runT (kas_sort 2) (tab2 (decide (b < a))) := runT_congr (fun i j hi hj => by
      have : i = 0 ∨ i = 1 := by omega
      have : j = 0 ∨ j = 1 := by omega
      rcases ‹i = 0 ∨ i = 1› with rfl | rfl <;> rcases ‹j = 0 ∨ j = 1› with rfl | rfl <;> simp [ltOf, tab2] <;> (rw [Bool.eq_iff_iff]; simp; omega)) _ valid2
    refine ⟨valid2, ?_⟩
    show (outOf [a, b] 0 (runT (kas_sort 2) (ltOf [a, b]))).Perm _ ∧ (outOf [a, b] 0 (runT (kas_sort 2) (ltOf [a, b]))).Pairwise _ ∧ ∀ i ∈ (runT (kas_sort 2) (ltOf [a, b])).toList, i < 2
    rw [e]
    unfold outOf
    rw [run2]
    by_cases h : b < a
    · simp [h]; exact ⟨List.Perm.swap .., by omega⟩
    · simp [h]; omega
  | [a, b, c], nd, _, _ =>
    simp only [List.nodup_cons, List.mem_cons, List.not_mem_nil, or_false, not_or, not_false_eq_true, List.nodup_nil, and_true] at nd
    obtain ⟨⟨nab, nac⟩, nbc⟩ := nd
    have e : runT (kas_sort 3) (ltOf [a, b, c]) = runT (kas_sort 3) (tab3 (decide (b < a)) (decide (c < b)) (decide (c < a))) := runT_congr (fun i j hi hj => by
      have : i = 0 ∨ i = 1 ∨ i = 2 := by omega
      have : j = 0 ∨ j = 1 ∨ j = 2 := by omega
      rcases ‹i = 0 ∨ i = 1 ∨ i = 2› with rfl | rfl | rfl <;> rcases ‹j = 0 ∨ j = 1 ∨ j = 2› with rfl | rfl | rfl <;> simp [ltOf, tab3] <;> (rw [Bool.eq_iff_iff]; simp; omega)) _ valid3
    refine ⟨valid3, ?_⟩
    show (outOf [a, b, c] 0 (runT (kas_sort 3) (ltOf [a, b, c]))).Perm _ ∧ (outOf [a, b, c] 0 (runT (kas_sort 3) (ltOf [a, b, c]))).Pairwise _ ∧ ∀ i ∈ (runT (kas_sort 3) (ltOf [a, b, c])).toList, i < 3
    rw [e]
    unfold outOf
    rw [run3 _ _ _ (by simp; omega) (by simp; omega)]
    have P : ∀ x y z : Int, ([x, y, z] : List Int).Perm [x, y, z] ∧ [y, x, z].Perm [x, y, z] ∧ [x, z, y].Perm [x, y, z] ∧ [y, z, x].Perm [x, y, z] ∧ [z, x, y].Perm [x, y, z] ∧ [z, y, x].Perm [x, y, z] := fun x y z =>
      ⟨.refl _, .swap .., .cons _ (.swap ..), ((List.Perm.swap x z []).cons y).trans (.swap ..), (List.Perm.swap x z [y]).trans ((List.Perm.swap y z []).cons x), ((List.Perm.swap y z [x]).trans (((List.Perm.swap x z []).cons y).trans (.swap ..)))⟩
    obtain ⟨p1, p2, p3, p4, p5, p6⟩ := P a b c
    by_cases h : b < a <;> by_cases k : c < b <;> by_cases g : c < a <;> simp [h, k, g] <;> first | omega | (refine ⟨by first | assumption | exact List.Perm.swap .., ?_⟩; omega)

def KeyV (led : Led) (v : Value) (n : Int) : Prop := ∃ k, v = .ref k ∧ KeyAt led k n
theorem KeyV.mono {led led' : Led} (h : Sub led led') {v n} : KeyV led v n → KeyV led' v n := fun ⟨k, e, x⟩ => ⟨k, e, x.mono h⟩
section
variable {prog : Program} {w : World} {A : Around} {E : Value → Shared → Prop} {s : Shared} {h₀ : Heap} {L B : Addr} {m : Str → Option Value} {led : Led} {vs : List Value} {ns : List Int} {Q : Value → Shared → Prop}

theorem sortedHeap_keeps {h : Heap} {n : Nat} (F : Fr h₀ L h m) (N : News h₀ L h ((B, listOf vs.toArray n) :: led)) (off : Off B led) (out : List Value) :
    ∃ c, Fr h₀ L (sortedHeap h B vs out.toArray) m ∧ News h₀ L (sortedHeap h B vs out.toArray) ((B, listOf out.toArray c) :: led) := by
  have P := N (B, listOf vs.toArray n) (.head _)
  have hB : B < h.objs.size := Heap.lt_size P.1
  have other : ∀ b o, b ≠ B → h.get? b = some o → (sortedHeap h B vs out.toArray).get? b = some o := fun b o hb e => by
    unfold sortedHeap
    rw [Heap.get?_update_ne _ _ _ _ hb]
    refine Heap.get?_push_of_some _ (Heap.get?_push_of_some _ ?_)
    rw [Heap.get?_update_ne _ _ _ _ hb]
    exact e
  obtain ⟨e1, ho1⟩ : ∃ e1, (h.update B (Obj.mapSeq fun _ => #[])).get? B = some (seqObj "list" #[] e1) := ⟨_, get?_update_seq P.1 (fun _ => #[])⟩
  have ho6 : (((h.update B (Obj.mapSeq fun _ => #[])).push (seqObj "tuple" vs.toArray 0)).push (seqObj "list" #[] 0)).get? B = some (seqObj "list" #[] e1) := Heap.get?_push_of_some _ (Heap.get?_push_of_some _ ho1)
  obtain ⟨c, hc⟩ : ∃ c, (sortedHeap h B vs out.toArray).get? B = some (seqObj "list" out.toArray c) := ⟨_, get?_update_seq ho6 (fun _ => out.toArray)⟩
  refine ⟨c, ⟨?_, fun b o e => other b o (fun q => by subst q; rw [P.2.2] at e; cases e) (F.keep b o e), F.above⟩, fun p hp => ?_⟩
  · obtain ⟨oL, es, ep, hL, r⟩ := F.ns
    exact ⟨oL, es, ep, other L oL (Ne.symm P.2.1) hL, r⟩
  · cases hp with
    | head => exact ⟨hc, P.2⟩
    | tail _ hp => exact ⟨other _ _ (off p hp) (N p (.tail _ hp)).1, (N p (.tail _ hp)).2⟩

theorem list_sort_ints {n : Nat} (F : Fr h₀ L s.heap m) (N : News h₀ L s.heap ((B, listOf vs.toArray n) :: led)) (off : Off B led) (hI : IntsAre vs ns) (h64 : vs.length < 64)
    (h : ∀ h' c out ns', Fr h₀ L h' m → News h₀ L h' ((B, listOf (List.toArray out) c) :: led) → IntsAre out ns' → ns'.Perm ns → ns'.Pairwise (· ≤ ·) → Q .none { s with heap := h' }) :
    wpAny (model prog w) A (call (.builtin "list.sort") [.ref B]) Q E s := by
  have P := N (B, listOf vs.toArray n) (.head _)
  refine wpAny_call_entry slot_list_sort ⟨_, P.1, rfl⟩ entry_list_sort (list_sort_tree P.1 hI h64 fun out ns' h1 h2 h3 => ?_) (args_list_sort _)
  obtain ⟨c, F', N'⟩ := sortedHeap_keeps F N off out.toList
  rw [Array.toArray_toList] at F' N'
  exact ⟨_, rfl, h _ c out.toList ns' F' (by simpa using N') h1 h2 h3⟩

theorem list_sort_short {n : Nat} (F : Fr h₀ L s.heap m) (N : News h₀ L s.heap ((B, listOf vs.toArray n) :: led)) (off : Off B led) (hz : vs.length < 2)
    (h : ∀ h' c, Fr h₀ L h' m → News h₀ L h' ((B, listOf (List.toArray vs) c) :: led) → Q .none { s with heap := h' }) :
    wpAny (model prog w) A (call (.builtin "list.sort") [.ref B]) Q E s := by
  have P := N (B, listOf vs.toArray n) (.head _)
  have ho : s.heap.get? B = some (seqObj "list" vs.toArray n) := P.1
  have ha : B < s.heap.objs.size := Heap.lt_size P.1
  refine wpAny_call_entry slot_list_sort ⟨_, P.1, rfl⟩ entry_list_sort ?_ (args_list_sort _)
  rw [list_sort_plain]
  refine wpAny_bind (listItems_at ho rfl ?_)
  refine wpAny_bind (listUpdate_at ho rfl ?_ (by rw [List.size_toArray, sizeLine_eq]; omega) (Nat.zero_le _))
  obtain ⟨e1, ho1⟩ : ∃ e1, (s.heap.update B (Obj.mapSeq fun _ => #[])).get? B = some (seqObj "list" #[] e1) := ⟨_, get?_update_seq ho (fun _ => #[])⟩
  refine wpAny_bind (seqEpoch_at ho1 rfl ?_)
  refine wpAny_bind (wpAny_newTuple ?_ (by show vs.length ≤ _; rw [sizeLine_eq]; omega))
  refine wpAny_bind (wpAny_newList ?_ (Nat.zero_le _))
  refine wpAny_holding ?_
  have ho6 : (((s.heap.update B (Obj.mapSeq fun _ => #[])).push (seqObj "tuple" vs.toArray 0)).push (seqObj "list" #[] 0)).get? B = some (seqObj "list" #[] e1) := Heap.get?_push_of_some _ (Heap.get?_push_of_some _ ho1)
  show wpAny (model prog w) _ _ _ E { s with heap := ((s.heap.update B (Obj.mapSeq fun _ => #[])).push (seqObj "tuple" vs.toArray 0)).push (seqObj "list" #[] 0) }
  dsimp only
  have h2 : vs.toArray.size < 2 := by simpa using hz
  rw [if_pos h2, if_pos h2]
  refine wpAny_bind (wpAny_pure ?_)
  rw [StateT.run_pure]
  refine wpAny_bind (wpAny_pure ?_)
  dsimp only
  have hout : (arrOf (SortSt.mk' general' (vs.toArray.zip vs.toArray) #[] 7 none)).map (·.2) = vs.toArray := by
    show (vs.toArray.zip vs.toArray).map (·.2) = vs.toArray
    simp
    exact List.map_snd_zip (Nat.le_refl _)
  refine wpAny_bind (seqEpoch_at ho6 rfl ?_)
  rw [hout]
  refine wpAny_bind (listUpdate_at ho6 rfl ?_ (Nat.zero_le _) (by rw [List.size_toArray, sizeLine_eq]; omega))
  simp only [bne_self_eq_false, Bool.false_eq_true, if_false]
  obtain ⟨c, F', N'⟩ := sortedHeap_keeps F N off vs
  exact wpAny_pure ⟨_, rfl, h _ c F' N'⟩

theorem key_lt {b : Bool} {x y : Addr} {a c : Int} {C : Bool → Shared → Prop} (N : News h₀ L s.heap led) (hx : KeyAt led x a) (hy : KeyAt led y c) (h : C (decide (a < c)) s) :
    wpAny (model prog w) A (keyLt' (tuples' b) (.ref x) (.ref y)) C (fun _ _ => False) s := by
  obtain ⟨t0, t1, t2, mx⟩ := hx
  obtain ⟨u0, u1, u2, my⟩ := hy
  refine kat_lt (N _ mx).1 rfl (N _ my).1 rfl ?_
  refine kat_cons (wpAny_eqBool_int ?_)
  refine kat_yes (kat_cons (wpAny_eqBool_int ?_))
  refine kat_yes (kat_cons (wpAny_eqBool_int ?_))
  by_cases e : a = c
  · subst e
    rw [show (a == a) = true by simp]
    refine kat_yes (kat_nil ?_)
    simpa using h
  · rw [show (a == c) = false by simpa using e]
    refine kat_no ?_
    rw [show (b && (0 + 1 + 1 == 0)) = false by simp]
    exact kat_one _ _ (PyProof.Rows.lt_int h)

theorem keysV_get {vs : List Value} {ns : List Int} (x : All2 (KeyV led) vs ns) : ∀ {i : Nat}, i < vs.length → ∃ k, vs.getD i .none = .ref k ∧ KeyAt led k (ns.getD i 0) := by
  induction x with
  | nil => intro i hi; simp at hi
  | cons r _ ih =>
    intro i hi
    cases i with
    | zero => obtain ⟨k, e, y⟩ := r; exact ⟨k, by simpa using e, by simpa using y⟩
    | succ i =>
      obtain ⟨k, e, y⟩ := ih (i := i) (by simpa using hi)
      exact ⟨k, by simpa using e, by simpa using y⟩
theorem keysV_out {vs : List Value} {ns : List Int} (x : All2 (KeyV led) vs ns) : ∀ (p : List Nat), (∀ i ∈ p, i < vs.length) → All2 (KeyV led) (p.map fun i => vs.getD i .none) (p.map fun i => ns.getD i 0)
  | [], _ => .nil
  | i :: p, h => by
    obtain ⟨k, e, y⟩ := keysV_get x (h i (.head _))
    exact .cons ⟨k, e, y⟩ (keysV_out x p fun j hj => h j (.tail _ hj))
theorem keysV_tups {h : Heap} (N : News h₀ L h led) {vs : List Value} {ns : List Int} (x : All2 (KeyV led) vs ns) : ∃ fs, KatTups h vs fs ∧ fs.length = vs.length ∧ ∀ f ∈ fs, ∃ t, f = .int 1 t := by
  induction x with
  | nil => exact ⟨[], KatTups.nil, rfl, fun _ h => nomatch h⟩
  | cons r _ ih =>
    obtain ⟨fs, a, b, c⟩ := ih
    obtain ⟨k, rfl, t0, t1, t2, mk⟩ := r
    refine ⟨.int 1 t0 :: fs, KatTups.cons (N _ mk).1 rfl rfl rfl a, by simp [b], fun f hf => ?_⟩
    cases hf with
    | head => exact ⟨_, rfl⟩
    | tail _ hf => exact c f hf

theorem list_sort_keys {n : Nat} {imm : Led} (hs : Sub imm led) (F : Fr h₀ L s.heap m) (N : News h₀ L s.heap ((B, listOf vs.toArray n) :: led)) (off : Off B led) (hk : All2 (KeyV imm) vs ns) (nd : ns.Nodup) (hz : ns.length ≤ 3)
    (h : ∀ h' c out ns', Fr h₀ L h' m → News h₀ L h' ((B, listOf (List.toArray out) c) :: led) → All2 (KeyV imm) out ns' → ns'.Perm ns → ns'.Pairwise (· ≤ ·) → Q .none { s with heap := h' }) :
    wpAny (model prog w) A (call (.builtin "list.sort") [.ref B]) Q E s := by
  have hl := hk.length
  by_cases h2 : vs.length < 2
  · refine list_sort_short F N off h2 fun h' c F' N' => h h' c vs ns F' N' hk (.refl _) ?_
    match ns, hl with
    | [], _ => exact .nil
    | [x], _ => simp
    | x :: y :: r, hl => simp at hl; omega
  · obtain ⟨v, p, q, r⟩ := sort_small nd (by omega) hz
    refine kat_lsort (vs := vs) F N (.head off) (by simp) (by omega) (by omega) fun e1 h' F' N' => ?_
    have N'' : News h₀ L h' led := fun p hp => N' p (.tail _ hp)
    obtain ⟨fs, a, b, c⟩ := keysV_tups N'' (hk.mono fun _ _ x => x.mono hs)
    refine kat_kind a (by omega) (T := .type "int") (fun f hf => ?_) (by decide) ?_
    · obtain ⟨t, rfl⟩ := c f hf
      exact Looks.of_pure rfl
    · rw [← hl] at v p q r
      refine kas_pure (n := vs.length) (lt := ltOf ns) (fun i j hi hj C hC => ?_) _ v ?_
      · obtain ⟨x, e1, k1⟩ := keysV_get hk hi
        obtain ⟨y, e2, k2⟩ := keysV_get hk hj
        unfold kas_ask
        rw [e1, e2]
        exact key_lt N'' (k1.mono hs) (k2.mono hs) hC
      · refine KasFin.intro F' N' (.head off) fun h3 c3 F3 N3 => ?_
        exact h h3 c3 _ _ F3 N3 (keysV_out hk _ r) p q

theorem all2_left {α β : Type} {R : α → β → Prop} {as : List α} {bs : List β} (hl : as.length = bs.length) (h : ∀ (i : Nat) (a : α) (b : β), as[i]? = some a → bs[i]? = some b → R a b) : All2 R as bs := by
  induction as generalizing bs with
  | nil =>
    cases bs with
    | nil => exact .nil
    | cons _ _ => simp at hl
  | cons a as ih =>
    cases bs with
    | nil => simp at hl
    | cons b bs =>
      refine .cons (h 0 a b rfl rfl) (ih (by simpa using hl) fun i x y e1 e2 => h (i + 1) x y (by simpa using e1) (by simpa using e2))

theorem sorted_rows {rp : Addr} {o : Obj} {es : List Ent} {imm : Led} (hh : A.handled = none) (F : Fr h₀ L s.heap m) (N : News h₀ L s.heap led) (hm : (rp, o) ∈ led) (R : Rows prog w imm o es) (hs : Sub imm led) (h1 : 1 < rp) (hz : es.length ≤ 3)
    (h : ∀ B h' tk c out ns', Fr h₀ L h' m → News h₀ L h' ((B, listOf (List.toArray out) c) :: led) → (∀ p ∈ led, p.1 < B) → All2 (KeyV imm) out ns' → ns'.Perm (names es) → ns'.Pairwise (· ≤ ·) → Q (.ref B) { s with heap := h', toks := tk }) :
    wpAny (model prog w) A (call (.builtin "sorted") [.ref rp]) Q E s := by
  obtain ⟨ex, nd, xs, des, ep, hd, he, a⟩ := R
  have hsz : des.size = es.length := by rw [← a.length, ← Array.length_toList, he, List.length_map]
  have raw : RawD s.heap rp des ep := ⟨o, (N _ hm).1, ex.1, hd⟩
  refine kdu_sorted (rawSrc (prog := prog) (w := w) (es := des) (ep := ep) (beq_eq_false_iff_ne.mpr (Nat.ne_of_gt h1))) hh F N raw (by rw [hsz, sizeLine_eq]; omega) fun B h' tk vs F' N' l1 hl hv => ?_
  have hk : All2 (KeyV imm) vs (names es) := by
    refine all2_left (by rw [hl, hsz]; simp [names]) fun i v n e1 e2 => ?_
    obtain ⟨e, e3, rfl⟩ := hv i v e1
    obtain ⟨en, e4, rfl⟩ : ∃ en, es[i]? = some en ∧ en.row.name = n := by simpa [names] using e2
    obtain ⟨x, e5, r1, r2, r3⟩ := a.get e4
    have : des[i]? = some (entryOfKey (tupleKind (intKind prog w)) x) := by rw [← Array.getElem?_toList, he, List.getElem?_map, e5]; rfl
    rw [this] at e3
    cases e3
    exact ⟨x.2.1, rfl, r2⟩
  have off : Off B led := fun p hp => Nat.ne_of_lt (l1 p hp)
  exact list_sort_keys (n := 0) hs F' N' off hk nd (by simp [names]; omega) fun h3 c out ns' F3 N3 hk' p q => h B h3 tk c out ns' F3 N3 l1 hk' p q

theorem ints_of_all2 {vs : List Value} {ns : List Int} (x : All2 (fun v n => ∃ t, v = Value.int n t) vs ns) : IntsAre vs ns := by
  induction x with
  | nil => exact .nil
  | cons r _ ih => obtain ⟨t, rfl⟩ := r; exact .cons _ _ ih
theorem sorted_known {rp : Addr} {o : Obj} {es : List Ent} {imm : Led} (hh : A.handled = none) (F : Fr h₀ L s.heap m) (N : News h₀ L s.heap led) (hm : (rp, o) ∈ led) (R : Known prog w imm o es) (h1 : 1 < rp) (hz : es.length ≤ 3)
    (h : ∀ B h' tk c out ns', Fr h₀ L h' m → News h₀ L h' ((B, listOf (List.toArray out) c) :: led) → (∀ p ∈ led, p.1 < B) → IntsAre out ns' → ns'.Perm (names es) → ns'.Pairwise (· ≤ ·) → Q (.ref B) { s with heap := h', toks := tk }) :
    wpAny (model prog w) A (call (.builtin "sorted") [.ref rp]) Q E s := by
  obtain ⟨kvs, D, a⟩ := R.dict N hm
  obtain ⟨ep, hat⟩ := D.dictAt
  refine kdu_sorted (kdl_dict (knd := intKind prog w) (kvs := kvs) (ep := ep) (beq_eq_false_iff_ne.mpr (Nat.ne_of_gt h1))) hh F N hat (by rw [a.length, sizeLine_eq]; omega) fun B h' tk vs F' N' l1 hl hv => ?_
  have hk : All2 (fun v n => ∃ t, v = .int n t) vs (names es) := by
    refine all2_left (by rw [hl, a.length]; simp [names]) fun i v n e1 e2 => ?_
    obtain ⟨k, x, e3, e4⟩ := hv i v e1
    obtain ⟨en, e5, rfl⟩ : ∃ en, es[i]? = some en ∧ en.row.name = n := by simpa [names] using e2
    obtain ⟨kv, e6, r1, r2⟩ := a.get e5
    rw [e3] at e6
    cases e6
    obtain ⟨t, rfl⟩ := Value.isInt_shape (k := k) (v := v) e4
    exact ⟨t, by rw [← r1]⟩
  have hI : IntsAre vs (names es) := ints_of_all2 hk
  have off : Off B led := fun p hp => Nat.ne_of_lt (l1 p hp)
  exact list_sort_ints (n := 0) F' N' off hI (by rw [hl, a.length]; omega) fun h3 c out ns' F3 N3 hi' p q => h B h3 tk c out ns' F3 N3 l1 hi' p q
end

def Apart (its n : Led) : Prop := ∀ p ∈ n, ∀ q ∈ its, p.1 ≠ q.1
theorem Apart.nil {its : Led} : Apart its [] := fun _ h => nomatch h
theorem Apart.both {its a b : Led} (h : Apart its a) (k : Apart its b) : Apart its (a ++ b) := fun p hp => (List.mem_append.mp hp).elim (h p) (k p)
theorem Apart.less {its a b : Led} (s : Sub a b) (h : Apart its b) : Apart its a := fun p hp => h p (s p hp)
theorem Apart.new {its l n : Led} (h : Above l n) (s : Sub its l) : Apart its n := fun p hp q hq => Nat.ne_of_gt (h p hp q (s q hq))
theorem Apart.consm {its n n' : Led} {a : Addr} {o o' : Obj} (h : Apart its n) (m : (a, o') ∈ n) (k : Apart its n') : Apart its ((a, o) :: n') := fun p hp => by
  cases hp with
  | head => exact fun q hq => h _ m q hq
  | tail _ hp => exact k p hp
theorem Apart.consn {its l n' : Led} {x : Addr × Obj} (h : ∀ p ∈ l, p.1 < x.1) (s : Sub its l) (k : Apart its n') : Apart its (x :: n') := fun p hp => by
  cases hp with
  | head => exact fun q hq => Nat.ne_of_gt (h q (s q hq))
  | tail _ hp => exact k p hp
theorem Apart.off {its n : Led} {a : Addr} {o : Obj} (h : Apart its n) (m : (a, o) ∈ n) : Off a its := fun q hq => Ne.symm (h _ m q hq)

section
variable {prog : Program} {w : World} {A : Around} {E : Value → Shared → Prop} {s : Shared} {env : Env} {h₀ : Heap} {target : Expr} {body : List Stmt} {Q : Flow → Shared → Prop} {L : Addr}
def ForAt (prog : Program) (w : World) (A : Around) (h₀ : Heap) (env : Env) (target : Expr) (body : List Stmt) (Q : Flow → Shared → Prop) (E : Value → Shared → Prop) (xv : Value) (s₁ : Shared) : Prop :=
  wpAny (model prog w) A (pyIter xv) (fun it s₂ => TurnsAt prog w A h₀ env target body Q E it s₂) E s₁
theorem for_go {iter : Expr} {pos : Pos} {m : Str → Option Value} (F : Fr h₀ env.locals s.heap m)
    (h : wpAny (model prog w) A (eval iter env) (fun xv s₁ => ForAt prog w A h₀ env target body Q E xv s₁) E s)
    (hs : ∀ x, foldedSetIterable iter env x = pure x := by intro _; rfl)
    (hE : PassesOwn (model prog w) A env E := by passes_own) :
    wpAny (model prog w) A (exec (.For target iter body [] pos) env) Q E s := For_turns F h hs hE

def Turned (h₀ : Heap) (L : Addr) (s₁ : Shared) (its : Led) (J : (Str → Option Value) → Led → Prop) (Q : Flow → Shared → Prop) (f : Flow) (s₂ : Shared) : Prop :=
  match f with
  | .ret v => Q (.ret v) s₂
  | .brk => Q .next s₂
  | _ => ∃ h' tk m' n', s₂ = { s₁ with heap := h', toks := tk } ∧ Fr h₀ L h' m' ∧ News h₀ L h' (its ++ n') ∧ Apart its n' ∧ J m' n'
theorem Turned.next {s₁ : Shared} {its : Led} {J : (Str → Option Value) → Led → Prop} {h' : Heap} {tk : Nat} {m' : Str → Option Value} (n' : Led) {all : Led} (F : Fr h₀ L h' m') (N : News h₀ L h' all) (hs : Sub (its ++ n') all) (a : Apart its n') (j : J m' n') :
    Turned h₀ L s₁ its J Q .next { s₁ with heap := h', toks := tk } := ⟨h', tk, m', n', rfl, F, News.sub N hs, a, j⟩
theorem Turned.cont {s₁ : Shared} {its : Led} {J : (Str → Option Value) → Led → Prop} {h' : Heap} {tk : Nat} {m' : Str → Option Value} (n' : Led) {all : Led} (F : Fr h₀ L h' m') (N : News h₀ L h' all) (hs : Sub (its ++ n') all) (a : Apart its n') (j : J m' n') :
    Turned h₀ L s₁ its J Q .cont { s₁ with heap := h', toks := tk } := ⟨h', tk, m', n', rfl, F, News.sub N hs, a, j⟩
theorem Turned.ret {s₁ s₂ : Shared} {its : Led} {J : (Str → Option Value) → Led → Prop} {v : Value} (h : Q (.ret v) s₂) : Turned h₀ L s₁ its J Q (.ret v) s₂ := h

theorem subL_of {keep n : Led} (h : Sub keep n) : SubL keep n := by
  induction keep with
  | nil => trivial
  | cons x r ih => exact ⟨h _ (.head _), ih fun p hp => h p (.tail _ hp)⟩

theorem allObj_of {k : Led → Prop} : ∀ {ws : List (Addr × String)}, (∀ its, its.map (·.1) = ws.map (·.1) → k its) → AllObj ws k
  | [], h => h [] rfl
  | w :: ws, h => fun o _ => allObj_of (ws := ws) fun its e => h _ (by simp [e])

theorem items_ind {ws : List (Addr × String)} {keep : Led} {xs : List Itm} (J : Nat → (Str → Option Value) → Led → Prop) (hK : ∀ i m n, J i m n → Sub keep n)
    (turn : ∀ i a v m n h tk its, xs[i]? = some a → a.Is v h → J i m n → Fr h₀ env.locals h m → News h₀ env.locals h (its ++ n) → Apart its n →
      wpAny (model prog w) A (assign target env v) (fun _ s₂ => wpAny (model prog w) A (execs body env) (Turned h₀ env.locals { s with heap := h, toks := tk } its (J (i + 1)) Q) E s₂) E { s with heap := h, toks := tk })
    (done : ∀ m n h tk, J xs.length m n → Fr h₀ env.locals h m → News h₀ env.locals h n → Q .next { s with heap := h, toks := tk }) :
    ∀ k i m n, i + k = xs.length → J i m n → (∀ p ∈ n, p.1 ∉ ws.map (·.1)) → ItemsRest prog w A E h₀ env target body Q s ws keep (xs.drop i) m n
  | 0, i, m, n, hi, hJ, _ => by
    have : xs.drop i = [] := List.drop_eq_nil_of_le (by omega)
    rw [this]
    intro h tk F N
    obtain rfl : i = xs.length := by omega
    exact done m n h tk hJ F N
  | k + 1, i, m, n, hi, hJ, ha => by
    have hlt : i < xs.length := by omega
    rw [List.drop_eq_getElem_cons hlt]
    intro v h tk hv F
    refine allObj_of fun its e N => ?_
    have hap : Apart its n := fun p hp q hq ee => ha p hp (by rw [← e, ee]; exact List.mem_map_of_mem hq)
    refine wpAny_mono (turn i xs[i] v m n h tk its (List.getElem?_eq_getElem hlt) hv hJ F N hap) (fun _ s₂ h₂ => wpAny_mono h₂ (fun f s₃ h₃ => ?_) fun _ _ y => y) fun _ _ y => y
    have fin : (∃ h' tk' m' n', s₃ = { ({ s with heap := h, toks := tk } : Shared) with heap := h', toks := tk' } ∧ Fr h₀ env.locals h' m' ∧ News h₀ env.locals h' (its ++ n') ∧ Apart its n' ∧ J (i + 1) m' n') →
        UnrEndW h₀ env.locals { s with heap := h, toks := tk } its (fun m' n' => SubL keep n' ∧ ItemsRest prog w A E h₀ env target body Q s ws keep (xs.drop (i + 1)) m' n') s₃ := by
      rintro ⟨h', tk', m', n', rfl, F', N', a', j'⟩
      refine ⟨h', tk', m', n', rfl, F', N', a', subL_of (hK _ _ _ j'), items_ind J hK turn done k (i + 1) m' n' (by omega) j' fun p hp hw => ?_⟩
      rw [← e] at hw
      obtain ⟨q, hq, ee⟩ := List.mem_map.mp hw
      exact a' p hp q hq ee.symm
    cases f with
    | ret v => exact h₃
    | brk => exact h₃
    | next => exact fin h₃
    | cont => exact fin h₃

theorem off_ws {news : Led} {I : Addr} (l1 : ∀ p ∈ news, p.1 < I) {ws : List (Addr × String)} (h : ∀ x ∈ ws, I ≤ x.1) : ∀ p ∈ news, p.1 ∉ ws.map (·.1) := fun p hp hw => by
  obtain ⟨q, hq, e⟩ := List.mem_map.mp hw
  have h1 : p.1 < I := l1 p hp
  have h2 : I ≤ q.1 := h q hq
  rw [e] at h2
  exact absurd h1 (Nat.not_lt.mpr h2)

theorem for_list {ax : Addr} {lo : Obj} {vs : List Value} {m₀ : Str → Option Value} {news : Led} (J : Nat → (Str → Option Value) → Led → Prop)
    (hh : A.handled = none) (F : Fr h₀ env.locals s.heap m₀) (N : News h₀ env.locals s.heap news) (hm : (ax, lo) ∈ news) (hl : LstO lo vs) (hK : ∀ i m n, J i m n → (ax, lo) ∈ n) (h0 : J 0 m₀ news)
    (turn : ∀ i v m n h tk its, vs[i]? = some v → J i m n → Fr h₀ env.locals h m → News h₀ env.locals h (its ++ n) → Apart its n → ∀ zTQ : Flow → Shared → Prop, (∀ f s₂, Turned h₀ env.locals { s with heap := h, toks := tk } its (J (i + 1)) Q f s₂ → zTQ f s₂) →
      wpAny (model prog w) A (assign target env v) (fun _ s₂ => wpAny (model prog w) A (execs body env) zTQ E s₂) E { s with heap := h, toks := tk })
    (done : ∀ m n h tk, J vs.length m n → Fr h₀ env.locals h m → News h₀ env.locals h n → Q .next { s with heap := h, toks := tk }) : ForAt prog w A h₀ env target body Q E (.ref ax) s := by
  obtain ⟨hc, n, hd⟩ := hl
  refine iter_listTurns hh F N hm hc hd fun I l1 => ?_
  have := items_ind (prog := prog) (w := w) (A := A) (E := E) (s := s) (env := env) (h₀ := h₀) (target := target) (body := body) (Q := Q) (ws := [(I, "list_iterator")]) (keep := [(ax, lo)]) (xs := vs.map .val) J
    (fun i m n j p hp => by rw [List.mem_singleton.mp hp]; exact hK i m n j)
    (fun i a v m n h tk its e hv j F N ap => by
      rw [List.getElem?_map] at e
      obtain ⟨x, e1, e2⟩ := Option.map_eq_some_iff.mp e
      subst e2
      have : v = x := hv
      subst this
      exact turn i v m n h tk its e1 j F N ap _ fun _ _ x => x)
    (fun m n h tk j F N => done m n h tk (by simpa using j) F N) (vs.map Itm.val).length 0 m₀ news (by simp) h0
    (off_ws l1 (fun x hx => by rw [List.mem_singleton.mp hx]; exact Nat.le_refl _))
  simpa using this
theorem for_tup {ax : Addr} {vs : List Value} {m₀ : Str → Option Value} {news : Led} (J : Nat → (Str → Option Value) → Led → Prop)
    (hh : A.handled = none) (F : Fr h₀ env.locals s.heap m₀) (N : News h₀ env.locals s.heap news) (hm : (ax, tupO vs) ∈ news) (hK : ∀ i m n, J i m n → (ax, tupO vs) ∈ n) (h0 : J 0 m₀ news)
    (turn : ∀ i v m n h tk its, vs[i]? = some v → J i m n → Fr h₀ env.locals h m → News h₀ env.locals h (its ++ n) → Apart its n → ∀ zTQ : Flow → Shared → Prop, (∀ f s₂, Turned h₀ env.locals { s with heap := h, toks := tk } its (J (i + 1)) Q f s₂ → zTQ f s₂) →
      wpAny (model prog w) A (assign target env v) (fun _ s₂ => wpAny (model prog w) A (execs body env) zTQ E s₂) E { s with heap := h, toks := tk })
    (done : ∀ m n h tk, J vs.length m n → Fr h₀ env.locals h m → News h₀ env.locals h n → Q .next { s with heap := h, toks := tk }) : ForAt prog w A h₀ env target body Q E (.ref ax) s := by
  refine iter_tupTurns hh F N hm rfl rfl fun I l1 => ?_
  have := items_ind (prog := prog) (w := w) (A := A) (E := E) (s := s) (env := env) (h₀ := h₀) (target := target) (body := body) (Q := Q) (ws := [(I, "tuple_iterator")]) (keep := [(ax, tupO vs)]) (xs := vs.map .val) J
    (fun i m n j p hp => by rw [List.mem_singleton.mp hp]; exact hK i m n j)
    (fun i a v m n h tk its e hv j F N ap => by
      rw [List.getElem?_map] at e
      obtain ⟨x, e1, e2⟩ := Option.map_eq_some_iff.mp e
      subst e2
      have : v = x := hv
      subst this
      exact turn i v m n h tk its e1 j F N ap _ fun _ _ x => x)
    (fun m n h tk j F N => done m n h tk (by simpa using j) F N) (vs.map Itm.val).length 0 m₀ news (by simp) h0
    (off_ws l1 (fun x hx => by rw [List.mem_singleton.mp hx]; exact Nat.le_refl _))
  simpa using this

def CallAt (prog : Program) (w : World) (A : Around) (f : Value) (args : List Value) (Q E : Value → Shared → Prop) (s : Shared) : Prop := wpAny (model prog w) A (call f args) Q E s
theorem call_stop {f : Value} {args : List Value} {Q : Value → Shared → Prop} (h : CallAt prog w A f args Q E s) : wpAny (model prog w) A (call f args) Q E s := h

theorem enumItems_at : ∀ (vs : List Value) (a i : Nat) {x : Itm}, (enumItems a vs)[i]? = some x → ∃ v, vs[i]? = some v ∧ x = .pair (fun t => .int ((a + i : Nat) : Int) t) v
  | [], _, _, _, h => by simp [enumItems] at h
  | y :: r, a, 0, x, h => by simp [enumItems] at h; exact ⟨y, rfl, h.symm⟩
  | y :: r, a, i + 1, x, h => by
    obtain ⟨v, e, q⟩ := enumItems_at r (a + 1) i (by simpa [enumItems] using h)
    exact ⟨v, by simpa using e, by rw [q, show a + 1 + i = a + (i + 1) by omega]⟩
theorem zipItems_at : ∀ (xs ys : List Value) (i : Nat) {z : Itm}, (zipItems xs ys)[i]? = some z → ∃ x y, xs[i]? = some x ∧ ys[i]? = some y ∧ z = .pair (fun _ => x) y
  | [], _, _, _, h => by simp [zipItems] at h
  | _ :: _, [], _, _, h => by simp [zipItems] at h
  | x :: r, y :: q, 0, z, h => by simp [zipItems] at h; exact ⟨x, y, rfl, rfl, h.symm⟩
  | x :: r, y :: q, i + 1, z, h => by
    obtain ⟨a, b, e1, e2, e3⟩ := zipItems_at r q i (by simpa [zipItems] using h)
    exact ⟨a, b, by simpa using e1, by simpa using e2, e3⟩

theorem for_enum {elts : List Expr} {k : Nat} {pos : Pos} {l : Addr} {lo : Obj} {vs : List Value} {m₀ : Str → Option Value} {news : Led} (J : Nat → (Str → Option Value) → Led → Prop)
    (hh : A.handled = none) (F : Fr h₀ env.locals s.heap m₀) (N : News h₀ env.locals s.heap news) (hm : (l, lo) ∈ news) (hl : LstO lo vs) (hK : ∀ i m n, J i m n → (l, lo) ∈ n) (h0 : J 0 m₀ news)
    (turn : ∀ (i : Nat) v T t m n h tk its, vs[i]? = some v → IsTup h T #[.int (i : Int) t, v] → J i m n → Fr h₀ env.locals h m → News h₀ env.locals h (its ++ n) → Apart its n → ∀ zTQ : Flow → Shared → Prop, (∀ f s₂, Turned h₀ env.locals { s with heap := h, toks := tk } its (J (i + 1)) Q f s₂ → zTQ f s₂) →
      wpAny (model prog w) A (assign (.Tuple elts k pos) env (.ref T)) (fun _ s₂ => wpAny (model prog w) A (execs body env) zTQ E s₂) E { s with heap := h, toks := tk })
    (done : ∀ m n h tk, J vs.length m n → Fr h₀ env.locals h m → News h₀ env.locals h n → Q .next { s with heap := h, toks := tk }) :
    CallAt prog w A (.type "enumerate") [.ref l] (fun xv s₁ => ForAt prog w A h₀ env (.Tuple elts k pos) body Q E xv s₁) E s := by
  obtain ⟨hc, n, hd⟩ := hl
  refine ktu_enum hh F N hm hc hd rfl fun I l1 => ?_
  have := items_ind (prog := prog) (w := w) (A := A) (E := E) (s := s) (env := env) (h₀ := h₀) (target := .Tuple elts k pos) (body := body) (Q := Q) (ws := [(I + 1, "enumerate"), (I, "list_iterator")]) (keep := [(l, lo)]) (xs := enumItems 0 vs) J
    (fun i m n j p hp => by rw [List.mem_singleton.mp hp]; exact hK i m n j)
    (fun i a v m n h tk its e hv j F N ap => by
      obtain ⟨x, e1, rfl⟩ := enumItems_at vs 0 i e
      obtain ⟨T, t, rfl, hT⟩ := hv
      rw [Nat.zero_add] at hT
      exact turn i x T t m n h tk its e1 hT j F N ap _ fun _ _ x => x)
    (fun m n h tk j F N => done m n h tk (by simpa [enumItems_length] using j) F N) (enumItems 0 vs).length 0 m₀ news (by simp) h0
    (off_ws l1 (fun x hx => by
      rcases List.mem_cons.mp hx with rfl | hx
      · exact Nat.le_succ _
      · rw [List.mem_singleton.mp hx]; exact Nat.le_refl _))
  simpa using this

theorem for_zip {elts : List Expr} {k : Nat} {pos : Pos} {l1 l2 : Addr} {lo1 lo2 : Obj} {xs ys : List Value} {m₀ : Str → Option Value} {news : Led} (J : Nat → (Str → Option Value) → Led → Prop)
    (hh : A.handled = none) (F : Fr h₀ env.locals s.heap m₀) (N : News h₀ env.locals s.heap news) (hm1 : (l1, lo1) ∈ news) (hl1 : LstO lo1 xs) (hm2 : (l2, lo2) ∈ news) (hl2 : LstO lo2 ys) (he : xs.length = ys.length)
    (hK : ∀ i m n, J i m n → (l1, lo1) ∈ n ∧ (l2, lo2) ∈ n) (h0 : J 0 m₀ news)
    (turn : ∀ i x y T m n h tk its, xs[i]? = some x → ys[i]? = some y → IsTup h T #[x, y] → J i m n → Fr h₀ env.locals h m → News h₀ env.locals h (its ++ n) → Apart its n → ∀ zTQ : Flow → Shared → Prop, (∀ f s₂, Turned h₀ env.locals { s with heap := h, toks := tk } its (J (i + 1)) Q f s₂ → zTQ f s₂) →
      wpAny (model prog w) A (assign (.Tuple elts k pos) env (.ref T)) (fun _ s₂ => wpAny (model prog w) A (execs body env) zTQ E s₂) E { s with heap := h, toks := tk })
    (done : ∀ m n h tk, J xs.length m n → Fr h₀ env.locals h m → News h₀ env.locals h n → Q .next { s with heap := h, toks := tk }) :
    CallAt prog w A (.type "zip") [.ref l1, .ref l2] (fun xv s₁ => ForAt prog w A h₀ env (.Tuple elts k pos) body Q E xv s₁) E s := by
  obtain ⟨hc1, n1, hd1⟩ := hl1
  obtain ⟨hc2, n2, hd2⟩ := hl2
  refine ktu_zip hh F N hm1 hc1 hd1 hm2 hc2 hd2 fun I lI => ?_
  have := items_ind (prog := prog) (w := w) (A := A) (E := E) (s := s) (env := env) (h₀ := h₀) (target := .Tuple elts k pos) (body := body) (Q := Q) (ws := [(I + 4, "zip"), (I + 2, "tuple"), (I + 3, "tuple"), (I, "list_iterator"), (I + 1, "list_iterator")]) (keep := [(l1, lo1), (l2, lo2)]) (xs := zipItems xs ys) J
    (fun i m n j p hp => by
      rcases List.mem_cons.mp hp with rfl | hp
      · exact (hK i m n j).1
      · rw [List.mem_singleton.mp hp]; exact (hK i m n j).2)
    (fun i a v m n h tk its e hv j F N ap => by
      obtain ⟨x, y, e1, e2, rfl⟩ := zipItems_at xs ys i e
      obtain ⟨T, t, rfl, hT⟩ := hv
      exact turn i x y T m n h tk its e1 e2 hT j F N ap _ fun _ _ x => x)
    (fun m n h tk j F N => done m n h tk (by simpa [zipItems_length, ← he] using j) F N) (zipItems xs ys).length 0 m₀ news (by simp) h0
    (off_ws lI (fun x hx => by
      simp only [List.mem_cons, List.not_mem_nil, or_false] at hx
      rcases hx with rfl | rfl | rfl | rfl | rfl
      · exact Nat.le_add_right _ _
      · exact Nat.le_add_right _ _
      · exact Nat.le_add_right _ _
      · exact Nat.le_refl _
      · exact Nat.le_add_right _ _))
  simpa using this

theorem letGo_name {x : Str} {p : Pos} {it v : Value} {Q' : Unit → Shared → Prop} (h : Q' () s) : wpAny (model prog w) A (letOwnedTupleGo (.Name x p) it v) Q' E s := wpAny_of_eq (a := ()) rfl h

theorem for_range {x : Str} {px : Pos} {r : Addr} {N₀ : Nat} {t u v : Tok} {m₀ : Str → Option Value} {news : Led} (J : Nat → (Str → Option Value) → Led → Prop)
    (hh : A.handled = none) (F : Fr h₀ env.locals s.heap m₀) (N : News h₀ env.locals s.heap news) (hr : IsRange s.heap r 0 (N₀ : Int) 1 t u v) (hsm : Builtin.Range.small 0 (N₀ : Int) 1 = true) (hn : Builtin.Range.rangeSize 0 (N₀ : Int) 1 = (N₀ : Int)) (h0 : J 0 m₀ news)
    (turn : ∀ (i : Nat) t m n h tk its, i < N₀ → J i m n → Fr h₀ env.locals h m → News h₀ env.locals h (its ++ n) → Apart its n → ∀ zTQ : Flow → Shared → Prop, (∀ f s₂, Turned h₀ env.locals { s with heap := h, toks := tk } its (J (i + 1)) Q f s₂ → zTQ f s₂) →
      wpAny (model prog w) A (assign (.Name x px) env (.int (i : Int) t)) (fun _ s₂ => wpAny (model prog w) A (execs body env) zTQ E s₂) E { s with heap := h, toks := tk })
    (done : ∀ m n h tk, J N₀ m n → Fr h₀ env.locals h m → News h₀ env.locals h n → Q .next { s with heap := h, toks := tk }) : ForAt prog w A h₀ env (.Name x px) body Q E (.ref r) s := by
  refine wpAny_pyIter_range hr hsm ?_
  have W := (LCg.range_walks (prog := prog) (w := w) (I := s.heap.objs.size) hh 0 N₀).bound
  refine ktu_core (tk0 := s.toks) (keep := []) (xs := (List.range N₀).map fun (i : Nat) => Itm.tok fun t => .int (i : Int) t) (ws := [(s.heap.objs.size, "range_iterator")]) (KTurns.ofWalks W fun i v s Q E st q => letGo_name q) (by simp) (fun i v h hp => ?_) (fun i h st => ?_) (fun b hb => ?_) (fun b hb => by simpa using hb) (fun b hb => .inl (by simpa using hb)) ?_ (fun p hp hI => ?_) ?_ (F.push _) (fun p hp => ⟨Heap.get?_push_of_some _ (N p hp).1, (N p hp).2⟩) trivial ?_
  · obtain ⟨hi, t, rfl⟩ := hp
    refine ⟨.tok fun t => .int (i : Int) t, by simp [hi], t, by rw [Int.zero_add]⟩
  · exact ⟨[(s.heap.objs.size, _)], ⟨⟨rfl, rfl⟩, trivial⟩, fun p hp => by rw [List.mem_singleton.mp hp]; exact st⟩
  · have hb' : b = s.heap.objs.size := by simpa using hb
    rw [hb']
    exact ⟨List.mem_cons_self .., next_is_new F⟩
  · intro hI
    exact absurd F.ns.lt ((List.mem_singleton.mp hI) ▸ Nat.lt_irrefl _)
  · exact absurd (Heap.lt_size (N p hp).1) ((List.mem_singleton.mp hI) ▸ Nat.lt_irrefl _)
  · show IsRangeIter _ _ _ _ _
    rw [hn]
    simpa using Heap.get?_push_size _ rfl
  · have := items_ind (prog := prog) (w := w) (A := A) (E := E) (s := s) (env := env) (h₀ := h₀) (target := .Name x px) (body := body) (Q := Q) (ws := [(s.heap.objs.size, "range_iterator")]) (keep := []) (xs := (List.range N₀).map fun (i : Nat) => Itm.tok fun t => .int (i : Int) t) J
      (fun i m n j p hp => nomatch hp)
      (fun i a v m n h tk its e hv j F N ap => by
        rw [List.getElem?_map] at e
        obtain ⟨y, e1, e2⟩ := Option.map_eq_some_iff.mp e
        subst e2
        obtain ⟨t, rfl⟩ := hv
        obtain ⟨e3, e4⟩ := List.getElem?_eq_some_iff.mp e1
        simp at e3 e4
        subst e4
        exact turn i t m n h tk its e3 j F N ap _ fun _ _ x => x)
      (fun m n h tk j F N => done m n h tk (by simpa using j) F N) ((List.range N₀).map fun (i : Nat) => Itm.tok fun t => .int (i : Int) t).length 0 m₀ news (by simp) h0
      (off_ws (I := s.heap.objs.size) (fun p hp => Heap.lt_size (N p hp).1) (fun x hx => by rw [List.mem_singleton.mp hx]; exact Nat.le_refl _))
    simpa using this
end

section
variable {prog : Program} {w : World} {A : Around} {E : Value → Shared → Prop} {s : Shared} {env : Env} {h₀ : Heap} {L : Addr} {m : Str → Option Value}
def Elt (h₀ : Heap) (L : Addr) (m : Str → Option Value) (s₁ : Shared) (its : Led) (J : Value → Led → Prop) (y : Value) (s₂ : Shared) : Prop :=
  ∃ h' tk n', s₂ = { s₁ with heap := h', toks := tk } ∧ Fr h₀ L h' m ∧ News h₀ L h' (its ++ n') ∧ Apart its n' ∧ J y n'
theorem Elt.intro {s₁ : Shared} {its : Led} {J : Value → Led → Prop} {y : Value} {h' : Heap} {tk : Nat} (n' : Led) {all : Led} (F : Fr h₀ L h' m) (N : News h₀ L h' all) (hs : Sub (its ++ n') all) (a : Apart its n') (j : J y n') :
    Elt h₀ L m s₁ its J y { s₁ with heap := h', toks := tk } := ⟨h', tk, n', rfl, F, News.sub N hs, a, j⟩

theorem off3_apart {I C D : Addr} {oI oC oD : Obj} {n : Led} (h : LCg.Off3 I C D n) : Apart [(I, oI), (C, oC), (D, oD)] n := fun p hp q hq => by
  obtain ⟨a, b, c⟩ := h.mem p hp
  simp only [List.mem_cons, List.not_mem_nil, or_false] at hq
  rcases hq with rfl | rfl | rfl
  · exact a
  · exact b
  · exact c
theorem apart_off3 {I C D : Addr} {oI oC oD : Obj} {n : Led} (h : Apart [(I, oI), (C, oC), (D, oD)] n) : LCg.Off3 I C D n := LCg.Off3.of fun p hp => ⟨h p hp _ (.head _), h p hp _ (.tail _ (.head _)), h p hp _ (.tail _ (.tail _ (.head _)))⟩
theorem off1_off {D : Addr} : ∀ {n : Led}, LCg.Off1 D n → Off D n
  | [], _ => Off.nil
  | _ :: _, h => .cons' h.1 (off1_off h.2)

theorem comp_ind {elt : Expr} {x : Str} {scope : Scope} {cl : List (Str × Addr)} {ax : Addr} {vs : List Value} {Fin : List Value → Led → Prop} (J : Nat → List Value → Led → Prop) (hK : ∀ i ys n, J i ys n → LCg.SrcAt h₀ ax vs.toArray n)
    (turn : ∀ i v I oI C oC D m₂ h tk (E' : Value → Shared → Prop) ys n, vs[i]? = some v → LCg.NsObj oC m₂ → m₂ x = some v → Fr h₀ L h m → News h₀ L h ((I, oI) :: (C, oC) :: (D, LCg.lst ys) :: n) → Apart [(I, oI), (C, oC), (D, LCg.lst ys)] n → J i ys n →
      wpAny (model prog w) A (eval elt (compEnvC scope cl C env)) (Elt h₀ L m { s with heap := h, toks := tk } [(I, oI), (C, oC), (D, LCg.lst ys)] (fun y n' => J (i + 1) (ys ++ [y]) n')) E' { s with heap := h, toks := tk })
    (done : ∀ ys n, J vs.length ys n → Fin ys n) :
    ∀ k i ys n, i + k = vs.length → J i ys n → LCg.CompRest prog w A h₀ L m env elt x scope cl s (LCg.SrcAt h₀ ax vs.toArray) (fun i v => vs.toArray[i]? = some v) Fin k i ys n
  | 0, i, ys, n, hi, hJ => by
    obtain rfl : i = vs.length := by omega
    exact LCg.CompRest.zero (done ys n hJ)
  | k + 1, i, ys, n, hi, hJ => LCg.CompRest.succ fun v I oI C oC D m₂ h tk E' hv hC hx F N off _ => by
    refine wpAny_mono (turn i v I oI C oC D m₂ h tk E' ys n (by simpa using hv) hC hx F N (off3_apart off) hJ) (fun y s₂ h₂ => ?_) fun _ _ e => e
    obtain ⟨h', tk', n', rfl, F', N', a', j'⟩ := h₂
    exact ⟨h', tk', n', rfl, F', N', apart_off3 a', hK _ _ _ j', comp_ind J hK turn done k (i + 1) _ n' (by omega) j'⟩

theorem comp_list {elt : Expr} {x : Str} {scope : Scope} {cl : List (Str × Addr)} {ax : Addr} {lo : Obj} {vs : List Value} {news : Led} {Q : Value → Shared → Prop} (J : Nat → List Value → Led → Prop)
    (hh : A.handled = none) (F : Fr h₀ L s.heap m) (N : News h₀ L s.heap news) (hm : (ax, lo) ∈ news) (hl : LstO lo vs) (hz : vs.length ≤ 1000) (hK : ∀ i ys n, J i ys n → (ax, lo) ∈ n) (h0 : J 0 [] news)
    (turn : ∀ i v I oI C oC D m₂ h tk (E' : Value → Shared → Prop) ys n, vs[i]? = some v → LCg.NsObj oC m₂ → m₂ x = some v → Fr h₀ L h m → News h₀ L h ((I, oI) :: (C, oC) :: (D, LCg.lst ys) :: n) → Apart [(I, oI), (C, oC), (D, LCg.lst ys)] n → J i ys n → ∀ zEQ : Value → Shared → Prop, (∀ y s₂, Elt h₀ L m { s with heap := h, toks := tk } [(I, oI), (C, oC), (D, LCg.lst ys)] (fun y n' => J (i + 1) (ys ++ [y]) n') y s₂ → zEQ y s₂) →
      wpAny (model prog w) A (eval elt (compEnvC scope cl C env)) zEQ E' { s with heap := h, toks := tk })
    (done : ∀ D h tk ys n, J vs.length ys n → Fr h₀ L h m → News h₀ L h ((D, LCg.lst ys) :: n) → Off D n → Q (.ref D) { s with heap := h, toks := tk }) :
    LCg.CompSrc prog w A h₀ L m env elt x scope cl (fun s₂ => LCg.FinE h₀ L m s₂ Q) (.ref ax) s := by
  obtain ⟨hc, k, hd⟩ := hl
  have src : LCg.SrcAt h₀ ax vs.toArray news := .inr ⟨lo, hm, hc, k, hd⟩
  refine .inl ⟨ax, vs.toArray, news, rfl, hh, F, N, src, by rw [List.size_toArray, sizeLine_eq]; omega, fun s₂ ⟨g, e⟩ => ?_⟩
  subst e
  have := comp_ind (prog := prog) (w := w) (A := A) (s := { s with heap := g }) (env := env) (h₀ := h₀) (L := L) (m := m) (elt := elt) (x := x) (scope := scope) (cl := cl) (ax := ax) (vs := vs) (Fin := LCg.FinE h₀ L m { s with heap := g } Q) J
    (fun i ys n j => .inr ⟨lo, hK i ys n j, hc, k, hd⟩)
    (fun i v I oI C oC D m₂ h tk E' ys n e1 e2 e3 F N a j => turn i v I oI C oC D m₂ h tk E' ys n e1 e2 e3 F N a j _ fun _ _ x => x)
    (fun ys n j D h tk F N o => done D h tk ys n j F N (off1_off o)) vs.length 0 [] news (by omega) h0
  simpa using this

theorem ld_cell {M : Model} {scope : Scope} {cl : List (Str × Addr)} {C c : Addr} {x : Str} {pos : Pos} {v : Value} {o : Obj} {news : Led} {Q : Value → Shared → Prop} (N : News h₀ L s.heap news) (hc : cl.lookup x = some c) (hm : (c, o) ∈ news) (hd : o.data = .cell (some v)) (h : Q v s)
    (hk : (compEnvC scope cl C env).scope.kind = .function := by rfl) (hl : (compEnvC scope cl C env).kindOf x = some .cell := by rfl) (hb : (x == ("__debug__" : Str)) = false := by decide) :
    wpAny M A (eval (.Name x pos) (compEnvC scope cl C env)) Q E s := wpAny_Name (wpAny_loadName_cell hk hl hc ⟨o, N.get hm, hd⟩ h) hb
end

theorem callFnC {prog : Program} {w : World} {A : Around} {s : Shared} {K : Frag} {h₀ : Heap} {L : Addr} {m mg mb : Str → Option Value} {news : List (Addr × Obj)} {p : Program} {loose : List Str} {mean : ExcName → Option Value}
    {Q E : Value → Shared → Prop} {name qual : Str} {params : Arguments} {body : List Stmt} {scope : Scope} {dV kV doc pm cdv ct oc : Value} {an od : Option Addr} {osl : Array (Option Value)} {f : Addr} {args : List Value} (binds : List (Str × Value))
    (F : Fr h₀ L s.heap m) (X₀ : K.In h₀) (N : News h₀ L s.heap news) (T : Top p loose mean mg mb h₀)
    (ho : K.lookup f = some ⟨oc, od, .func (fnOf name qual params body scope dV kV doc pm an cdv ct), osl⟩) (hcd : codeIn K cdv qual = true) {rn : Nat} (hroom : Room A (rn + 1))
    (hbind : BindsTo s (fnOf name qual params body scope dV kV doc pm an cdv ct) ⟨args, []⟩ binds)
    (hkind : (binds.all fun y => scope.names.lookup y.1 == some .local || scope.names.lookup y.1 == some .cell) = true)
    (hnd : ((cellsFrom 0 scope.names []).map (·.1)).Nodup)
    (h : ∀ g L' h₁ tk cells, Fr g L' h₁ (bindL (envOfC qual scope L' f cdv).kindOf binds fun _ => none) → News g L' h₁ (cells ++ news) →
      CellsAre (bindC (envOfC qual scope L' f cdv).kindOf binds fun _ => none) (cellsFrom (L' + 1) scope.names []) cells → K.In g → Top p loose mean mg mb g → (∀ p ∈ news, p.1 < L') → Room (A.deeper (envOfC qual scope L' f cdv)) rn →
      wpAny (model prog w) (A.deeper (envOfC qual scope L' f cdv)) (execs body (envOfC qual scope L' f cdv))
        (fun fl s' => Back h₀ L m g Q (retOf fl) s')
        (fun _ _ => False)
        { s with heap := h₁, toks := tk })
    (hco : scope.isCoroutine = false) (hgen : scope.isGenerator = false) (hk : scope.kind = .function) : wpAny (model prog w) A (call (.ref f) args) Q E s := by
  refine wpAny_call ?_
  have st : h₀.StaysIn (hideAll s.heap (news.map (·.1))) := fun b o e => hideAll_get _ (F.keep b o e) fun q => by
    obtain ⟨p, hp, rfl⟩ := List.mem_map.mp q
    rw [(N p hp).2.2] at e; cases e
  obtain ⟨oL, es, ep, hL, hLd, hLk, hLf⟩ := F.ns
  have nL : L ∉ news.map (·.1) := fun q => by
    obtain ⟨p, hp, e⟩ := List.mem_map.mp q
    exact (N p hp).2.1 e
  have hLg := hideAll_get (news.map (·.1)) hL nL
  refine codeAny_call_function (fd := fnX name qual params body scope [] dV kV doc pm an cdv ct) hroom.deep ((X₀.keeps F.keep) _ _ ho) rfl hco hgen rfl (codeRec_of (X₀.keeps F.keep) hcd) (hbind _ _ _ _ ?_)
  refine wpAny_newFunctionEnv_cells hk (kindsX hkind _) fun env' he s' x => ?_
  subst he
  refine ⟨(T.nolimit.keeps F.keep).keeps x.toInCall.keep, codeAny_func ?_⟩
  obtain ⟨h₁, tk, rfl, _⟩ := x.done
  have hk₁ := x.toInCall.keep
  obtain ⟨cells, NC, Y⟩ := Cl.news (h₀ := s.heap) (Nat.le_refl _) fun n c hm => ⟨x.cell n c (lookup_of_mem_nodup (cellsFrom_names scope.names 0 (s.heap.objs.size + 1) [] [] rfl ▸ hnd) hm), x.above n c hm⟩
  refine wpAny_mono (h _ s.heap.objs.size h₁ tk cells ⟨x.toInCall.ns, fun b o e => hk₁ b o (of_hideAll _ e), Nat.le_of_eq (hideAll_size _ _)⟩ (fun p hp => ?_) Y (X₀.keeps st) (T.keeps st) (fun p hp => Heap.lt_size (N p hp).1) hroom.deeper) (fun fl s' hl => ?_) fun _ _ y => y.elim
  · rcases List.mem_append.mp hp with hp | hp
    · refine ⟨(NC p hp).1, (NC p hp).2.1, ?_⟩
      cases q : (hideAll s.heap (news.map (·.1))).get? p.1 with
      | none => rfl
      | some o => have := of_hideAll _ q; rw [(NC p hp).2.2] at this; cases this
    · exact ⟨hk₁ _ _ (N p hp).1, Nat.ne_of_lt (Heap.lt_size (N p hp).1), hideAll_none _ (List.mem_map_of_mem hp)⟩
  · obtain ⟨L'', m', news', F'', N'', k⟩ := hl
    have nd : ∀ p ∈ news', p.1 ≠ L ∧ h₀.get? p.1 = none := fun p hp => by
      have z := (N'' p hp).2.2
      constructor
      · intro q; rw [q, hLg] at z; cases z
      · cases q : h₀.get? p.1 with
        | none => rfl
        | some o => rw [st _ _ q] at z; cases z
    have := k ⟨⟨oL, es, ep, F''.keep L oL hLg, hLd, hLk, hLf⟩, fun b o e => F''.keep b o (st b o e), F.above⟩ fun p hp => ⟨(N'' p hp).1, nd p hp⟩
    cases fl <;> exact this

abbrev mkA (A : Around) (C : Addr) (args : List Value) : Around := A.under (.builtin "type.__call__" ⟨.ref C :: args, []⟩)
theorem units_mkA (A : Around) (C : Addr) (args : List Value) : (mkA A C args).units = A.units + 1 := rfl
theorem Room.make {A : Around} {n : Nat} {C : Addr} {args : List Value} (r : Room A (n + 1)) : Room (mkA A C args) n := by
  refine ⟨?_, ?_, r.h⟩
  · have := r.d; rw [PyProof.Rows.depth_under_make]; omega
  · have := r.u; rw [units_mkA]; omega
theorem makeFn {prog : Program} {w : World} {A : Around} {s : Shared} {K : Frag} {h₀ : Heap} {L : Addr} {m mg mb : Str → Option Value} {news : List (Addr × Obj)} {p : Program} {loose : List Str} {mean : ExcName → Option Value}
    {Q E : Value → Shared → Prop} {name qual : Str} {params : Arguments} {body : List Stmt} {scope : Scope} {dV kV doc pm cdv ct oc : Value} {an od : Option Addr} {osl : Array (Option Value)} {C f : Addr} {args : List Value} (binds : Addr → List (Str × Value))
    (F : Fr h₀ L s.heap m) (X₀ : K.In h₀) (N : News h₀ L s.heap news) (T : Top p loose mean mg mb h₀)
    (hm : makesIn K C = true) (hi : findIn K (.ref C) "__init__" = some (some (.ref f))) (hf : isFn K (.ref f) = true)
    (ho : K.lookup f = some ⟨oc, od, .func (fnOf name qual params body scope dV kV doc pm an cdv ct), osl⟩) (hcd : codeIn K cdv qual = true) {rn : Nat} (hroom : Room A (rn + 2))
    (hbind : ∀ x s', BindsTo s' (fnOf name qual params body scope dV kV doc pm an cdv ct) ⟨.ref x :: args, []⟩ (binds x)) (hloc : ∀ x, ∀ y ∈ binds x, scope.names.lookup y.1 = some .local)
    (h : ∀ x dx g L' h₁ tk, Fr g L' h₁ (fun y => (binds x).reverse.lookup y) → News g L' h₁ ((x, instObj C dx) :: (dx, dictOf [] 0) :: news) → (∀ p ∈ news, p.1 < dx) → dx < x → K.In g → Top p loose mean mg mb g → Room ((mkA A C args).deeper (envOf qual scope L' f cdv)) rn →
      wpAny (model prog w) ((mkA A C args).deeper (envOf qual scope L' f cdv)) (execs body (envOf qual scope L' f cdv))
        (fun fl s' => Back h₀ L m g (fun v s' => v = .none ∧ Q (.ref x) s') (retOf fl) s')
        (fun _ _ => False)
        { s with heap := h₁, toks := tk })
    (hco : scope.isCoroutine = false) (hgen : scope.isGenerator = false) (hk : scope.kind = .function)
    (hcell : ∀ x ∈ scope.names, x.2 ≠ .cell) : wpAny (model prog w) A (call (.ref C) args) Q E s := by
  refine call_cls F X₀ N hm hi hf fun x dx h' F' N' l1 l2 => ?_
  have hr1 : Room (mkA A C args) (rn + 1) := hroom.make
  refine enter (A := mkA A C args) F' X₀ N' T ho hcd hr1.deep (hbind x _) (hloc x) (fun g L' h₁ F'' N'' X' T' hz => wpAny_mono (h x dx g L' h₁ _ F'' N'' l1 l2 X' T' hr1.deeper) (fun fl s' hb => ?_) fun _ _ y => y) hco hgen hk hcell
  obtain ⟨L'', m', news', F3, N3, k⟩ := hb
  cases fl <;> exact ⟨L'', m', news', F3, N3, fun a b => k a b⟩
theorem upd_of {a : Addr} {o o' : Obj} {l : Led} {g : Obj → Led} (U : UpF a o l g) : Upd a o o' l (g o') := by
  induction U with
  | head h => exact .head h
  | tail h _ ih => exact .tail h ih
  | @app n l g h U ih =>
    induction n with
    | nil => exact ih
    | cons x r ih' => exact .tail (h x (.head _)) (ih' fun p hp => h p (.tail _ hp))

section
variable {prog : Program} {w : World} {A : Around} {E : Value → Shared → Prop} {s : Shared} {h₀ : Heap} {L : Addr} {led : Led}
def leB (u v : Int) (f : Bool) (u' v' : Int) (f' : Bool) : Bool := if u = u' then (if v = v' then (!f || f') else decide (v ≤ v')) else decide (u ≤ u')
theorem eqBool_bool {a b : Bool} {Q : Bool → Shared → Prop} (h : Q (a == b) s) : wpAny (model prog w) A (eqBool (.bool a) (.bool b)) Q E s := by
  unfold eqBool
  show wpAny _ _ (if (Value.bool a == Value.bool b) = true then _ else _) Q E s
  by_cases hab : (Value.bool a == Value.bool b) = true
  · rw [if_pos hab]
    have e : a = b := by have := eq_of_beq hab; injection this
    subst e
    exact wpAny_bind (wpAny_rule (wpAny_pure (by simpa using h)))
  · rw [if_neg hab]
    exact wpAny_bind (PyProof.Rows.eq_bool (wpAny_truthy_bool h))
theorem le_place {a b : Addr} {u v u' v' : Int} {f f' : Bool} {t1 t2 t3 t4 : Tok} {Q : Value → Shared → Prop} {rn : Nat} (hR : Room A (rn + 1)) (N : News h₀ L s.heap led) (ha : (a, tupO [.int u t1, .int v t2, .bool f]) ∈ led) (hb : (b, tupO [.int u' t3, .int v' t4, .bool f']) ∈ led)
    (h : Q (.bool (leB u v f u' v' f')) s) : wpAny (model prog w) A (compareOp .LtE (.ref a) (.ref b)) Q E s := by
  have Ha := (N _ ha).1
  have Hb := (N _ hb).1
  refine cmp_ofLtE (wpAny_richCompare_same_room (T := "tuple") (id := "tuple.__le__") ⟨_, Ha, rfl⟩ ⟨_, Hb, rfl⟩ PySem.F.slot_tuple_le (wpAny_call_entry PySem.F.slot_tuple_le ⟨_, Ha, rfl⟩ PySem.F.entry_tuple_le ?_ (PySem.F.args_tuple_le_2 _ _)) hR.u_lt)
  show wpAny _ _ (slotArgs "__le__" 1 _ >>= _) _ _ _
  refine wpAny_bind (wpAny_of_eq (a := (Value.ref a, [Value.ref b])) rfl ?_)
  dsimp only
  refine wpAny_bind (wpAny_isInstance (T := "tuple") (b := true) ⟨_, Hb, rfl⟩ AutoSeq1.sub_tuple_tuple ?_)
  simp only [Bool.not_true, Bool.false_eq_true, if_false]
  try refine wpAny_bind (wpAny_pure ?_)
  refine wpAny_bind (wpAny_bind (wpAny_seqItems Ha rfl (wpAny_pure ?_)))
  refine wpAny_bind (wpAny_bind (wpAny_seqItems Hb rfl (wpAny_pure ?_)))
  show wpAny _ _ (forIn [(Value.int u t1, Value.int u' t3), (Value.int v t2, Value.int v' t4), (Value.bool f, Value.bool f')] (none, ()) _ >>= _) _ _ _
  refine wpAny_bind ?_
  rw [List.forIn_cons]
  refine wpAny_bind (wpAny_bind (wpAny_eqBool_int ?_))
  by_cases e1 : u = u'
  · subst e1
    have hb1 : (u == u) = true := by simp
    rw [hb1]
    refine wpAny_pure ?_
    dsimp only
    rw [List.forIn_cons]
    refine wpAny_bind (wpAny_bind (wpAny_eqBool_int ?_))
    by_cases e2 : v = v'
    · subst e2
      have hb2 : (v == v) = true := by simp
      rw [hb2]
      refine wpAny_pure ?_
      dsimp only
      rw [List.forIn_cons]
      refine wpAny_bind (wpAny_bind (eqBool_bool ?_))
      by_cases e3 : f = f'
      · subst e3
        have hb3 : (f == f) = true := by simp
        rw [hb3]
        refine wpAny_pure ?_
        dsimp only
        rw [List.forIn_nil]
        refine wpAny_pure ?_
        have hh : leB u v f u v f = true := by unfold leB; cases f <;> simp
        rw [hh] at h
        exact wpAny_pure ⟨.bool true, rfl, by simp, h⟩
      · have hb3 : (f == f') = false := by simpa using e3
        rw [hb3]
        refine wpAny_bind (wpAny_rule (wpAny_bind (show wpAny _ _ (compareOp .LtE (.bool f) (.bool f')) _ _ _ from PyProof.Rows.le_bool ?_)))
        refine wpAny_bind (wpAny_pure (wpAny_pure ?_))
        dsimp only
        refine wpAny_pure (wpAny_pure ?_)
        refine ⟨_, rfl, by simp, ?_⟩
        have hh : leB u v f u v f' = decide (PyProof.Rows.b2i f ≤ PyProof.Rows.b2i f') := by unfold leB; cases f <;> cases f' <;> simp_all <;> decide
        rw [hh] at h
        exact h
    · have hb2 : (v == v') = false := by simpa using e2
      rw [hb2]
      refine wpAny_bind (wpAny_rule (wpAny_bind (show wpAny _ _ (compareOp .LtE (.int v t2) (.int v' t4)) _ _ _ from PyProof.Rows.le_int ?_)))
      refine wpAny_bind (wpAny_pure (wpAny_pure ?_))
      dsimp only
      refine wpAny_pure (wpAny_pure ?_)
      refine ⟨_, rfl, by simp, ?_⟩
      have hh : leB u v f u v' f' = decide (v ≤ v') := by unfold leB; simp [e2]
      rw [hh] at h
      exact h
  · have hb1 : (u == u') = false := by simpa using e1
    rw [hb1]
    refine wpAny_bind (wpAny_rule (wpAny_bind (show wpAny _ _ (compareOp .LtE (.int u t1) (.int u' t3)) _ _ _ from PyProof.Rows.le_int ?_)))
    refine wpAny_bind (wpAny_pure (wpAny_pure ?_))
    dsimp only
    refine wpAny_pure (wpAny_pure ?_)
    refine ⟨_, rfl, by simp, ?_⟩
    have hh : leB u v f u' v' f' = decide (u ≤ u') := by unfold leB; simp [e1]
    rw [hh] at h
    exact h
def LstX (o : Obj) (vs : List Value) : Prop := ∃ n, o = listOf vs.toArray n
theorem LstX.lst {o : Obj} {vs : List Value} (h : LstX o vs) : LstO o vs := by obtain ⟨n, rfl⟩ := h; exact ⟨rfl, n, rfl⟩
theorem lst_method {name : Str} {id : String} {pl : Sem Bool} {D : Addr} {o : Obj} {vs : List Value} {Q : Value × List Value → Shared → Prop} (N : News h₀ L s.heap led) (hm : (D, o) ∈ led) (ho : LstX o vs) (slot : Slot "list" name id) (hty : typeOf (.builtin id) = pure (.type "method_descriptor"))
    (h : Q (.builtin id, [.ref D]) s) : wpAny (model prog w) A (getMethod (.ref D) name pl) Q E s := by
  obtain ⟨n, rfl⟩ := ho
  exact listMethod_K N hm slot hty h
theorem lst_append {m : Str → Option Value} {l : Addr} {o : Obj} {vs : List Value} {x : Value} {g : Obj → Led} {Q : Value → Shared → Prop} (F : Fr h₀ L s.heap m) (N : News h₀ L s.heap led) (U : UpF l o led g) (ho : LstX o vs) (hz : vs.length ≤ 1000)
    (h : ∀ h' o', Fr h₀ L h' m → News h₀ L h' (g o') → LstX o' (vs ++ [x]) → Q .none { s with heap := h' }) : wpAny (model prog w) A (call (.builtin "list.append") [.ref l, x]) Q E s := by
  obtain ⟨n, rfl⟩ := ho
  refine append_at (hsz := by rw [List.size_toArray, sizeLine_eq]; omega) (N _ U.mem).1 fun h' sb hD => ?_
  exact h h' _ (U.fr F N sb) (U.news N sb hD) ⟨n + 1, by simp⟩
end

local macro_rules | `(tactic| k_mem) => `(tactic| first | assumption | (refine List.mem_append_right _ ?_; k_mem) | (refine List.mem_append_left _ ?_; assumption))
local macro_rules | `(tactic| walk_at "M sub1") => `(tactic| first | exact Sub.refl _ | exact Sub.inl | assumption | (refine Sub.cons ?_; walk_at "M sub1") | (refine Sub.apps ?_; walk_at "M sub1") | (refine Sub.appl ?_; walk_at "M sub1"))
local macro_rules | `(tactic| walk_at "M sub") => `(tactic| first | ((with_reducible refine Sub.both ?_ ?_); (walk_at "M sub"); walk_at "M sub") | ((with_reducible refine Sub.consl ?_ ?_); k_mem; walk_at "M sub") | exact Sub.nil | walk_at "M sub1")
local macro_rules | `(tactic| walk_at "M rel") => `(tactic| first
  | assumption
  | (refine' HeadAt.mono ?s ?x; (case x => assumption); (case s => walk_at "M sub"))
  | (refine' RowAt.mono ?s ?x; (case x => assumption); (case s => walk_at "M sub"))
  | (refine' KeyAt.mono ?s ?x; (case x => assumption); (case s => walk_at "M sub"))
  | (refine' BodyAt.mono ?s ?x; (case x => assumption); (case s => walk_at "M sub"))
  | (refine' PlaceAt.mono ?s ?x; (case x => assumption); (case s => walk_at "M sub"))
  | (refine' RowV.mono ?s ?x; (case x => assumption); (case s => walk_at "M sub"))
  | (refine' ValAt.mono ?s ?x; (case x => assumption); (case s => walk_at "M sub"))
  | (refine' FactsAt.mono ?s ?x; (case x => assumption); (case s => walk_at "M sub"))
  | (refine' DbAt.mono ?s ?x; (case x => assumption); (case s => walk_at "M sub"))
  | exact ⟨_, _, _, _, _, _, _, by k_mem⟩
  | exact ⟨_, _, _, by k_mem⟩
  | exact ⟨_, _, by k_mem⟩
  | exact ⟨_, _, by k_mem, by walk_at "M rel", by walk_at "M rel"⟩
  | exact ⟨_, _, _, by k_mem, by walk_at "M rel"⟩)
local macro_rules | `(tactic| walk_at "M suba") => `(tactic| first | exact SubA.of (by walk_at "M sub") | (refine' SubA.consl ?h ?k; (case h => k_mem); (case k => walk_at "M suba")))
local macro_rules | `(tactic| walk_at "M above") => `(tactic| first
  | exact Above.nil
  | (refine' Above.less ?s ?h; (case h => assumption); (case s => walk_at "M sub"))
  | (refine' Above.cons (Above.lt ?s ?h) ?k; (case h => assumption); (case s => walk_at "M sub"); (case k => walk_at "M above"))
  | (refine Above.app ?_ ?_; (walk_at "M above"); walk_at "M above")
  | (refine' Above.lessA ?s ?h; (case h => assumption); (case s => walk_at "M suba"))
  | (refine' Above.cons (Above.ltA ?s ?h) ?k; (case h => assumption); (case s => walk_at "M suba"); (case k => walk_at "M above")))
local macro_rules | `(tactic| walk_at "M ne") => `(tactic| first | assumption | (refine Ne.symm ?_; assumption) | (refine' ne_above ?h ?m; (case h => assumption); (case m => k_mem)))
local macro_rules | `(tactic| walk_at "M up") => `(tactic| first
  | assumption
  | (refine' UpF.head ?a; (case a => walk_at "M off"))
  | (refine' UpF.tail ?a ?b; (case a => walk_at "M ne"); (case b => walk_at "M up"))
  | (refine' UpF.app ?a ?b; (case a => walk_at "M off"); (case b => walk_at "M up")))
local macro_rules | `(tactic| walk_at "M off") => `(tactic| first
  | assumption
  | exact Off.of (by assumption) (by assumption)
  | exact Off.of (by assumption) (UpF.mem (by assumption))
  | (refine' Off.of' ?h ?m; (case h => assumption); (case m => k_mem))
  | (refine' Apart.off ?h ?m; (case h => assumption); (case m => k_mem))
  | (refine Off.cons' ?_ ?_; (walk_at "M ne"); walk_at "M off")
  | exact Off.nil
  | (refine' Off.app ?m ?h ?k; (case h => assumption); (case m => k_mem); (case k => walk_at "M off"))
  | (refine' Off.cons ?m ?h ?k; (case h => assumption); (case m => k_mem); (case k => walk_at "M off")))
local macro_rules | `(tactic| walk_at "M apart") => `(tactic| first
  | assumption
  | exact Apart.nil
  | (refine' Apart.consm ?h ?m ?k; (case h => assumption); (case m => k_mem); (case k => walk_at "M apart"))
  | (refine' Apart.consn ?h ?s ?k; (case h => assumption); (case s => walk_at "M sub"); (case k => walk_at "M apart"))
  | ((with_reducible refine Apart.both ?_ ?_); (walk_at "M apart"); walk_at "M apart")
  | (refine' Apart.new ?h ?s; (case h => assumption); (case s => walk_at "M sub"))
  | (refine' Apart.less ?s ?h; (case h => assumption); (case s => walk_at "M sub")))
local macro_rules | `(tactic| walk_at "M look") => `(tactic| first | exact rfl | assumption | (refine (if_neg (by decide)).trans ?_; walk_at "M look"))

theorem fillit_c2 : PySem.Challenge.rw_sz0113_01 = PySem.Challenge.rw_sz0113_01 ∧ hd.heap_39 = hd.heap_39 := by
  k_fill
  exact ⟨rfl, rfl⟩
section
variable {prog : Program} {w : World} {A : Around} {s : Shared} {B : Heap} {L : Addr} {m mg mb : Str → Option Value} {led : List (Addr × Obj)} {p : Program} {loose : List Str} {mean : ExcName → Option Value} {Q E : Value → Shared → Prop} {rn : Nat}

def newerR (g1 u1 v1 g2 u2 v2 : Int) : Int :=
  if u1 = u2 then (if v1 = v2 then (if (decide (3600 ≤ g1) != decide (3600 ≤ g2)) = true then (if 3600 ≤ g1 then 1 else -1) else if 900 < (if g1 - g2 < 0 then -(g1 - g2) else g1 - g2) then (if g1 < g2 then 1 else -1) else 0) else (if v2 < v1 then 1 else -1)) else (if u2 < u1 then 1 else -1)

theorem newer_of_spec {a1 a2 : Addr} {g1 n1 u1 v1 g2 n2 u2 v2 : Int}
    (hR : Room A (rn + 5)) (F : Fr B L s.heap m) (X : (hd.heap_39 w.params).In B) (N : News B L s.heap (led)) (T : Top p loose mean mg mb B)
    (h1 : HeadAt led a1 g1 n1 u1 v1) (h2 : HeadAt led a2 g2 n2 u2 v2)
    (hQ : ∀ r t h' tk', Fr B L h' m → News B L h' led → r = newerR g1 u1 v1 g2 u2 v2 → Q (.int r t) { s with heap := h', toks := tk' }) :
    wpAny (model prog w) A (call (.ref 29) [.ref a1, .ref a2]) Q E s := by
  obtain ⟨t0, t1, t2, t3, t4, t5, t6, h1⟩ := h1
  obtain ⟨z0, z1, z2, z3, z4, z5, z6, h2⟩ := h2
  refine callFn [("one", .ref a1), ("other", .ref a2), ("max_age", .int 3600 198), ("max_diff", .int 900 200)] F X N T (by k_is) (by k_is) (by (first | assumption | exact Room.h (by assumption) | exact Room.u_lt (by assumption) | exact Room.less (by assumption) (by decide))) (by first | exact BindsTo.of_eq rfl | exact binds_K (by k_in) rfl (by k_is) rfl rfl rfl) (locs rfl) ?_ rfl rfl rfl (by decide)
  intro g' L' h' F' N' X' T' hz' hR'
  clear F N X T hR
  k_fold
  (repeat' (first | (k_unfold; (try dsimp only)) | ((with_reducible show wpAny _ _ (call (Value.builtin "min") _) _ _ _); with_reducible (k_here; refine' min_two_N (by (first | assumption | exact Room.h (by assumption) | exact Room.u_lt (by assumption) | exact Room.less (by assumption) (by decide))) (by k_asm) (by k_asm) ?_; intro _ _ _ _; try k_sweep)) | ((with_reducible show wpAny _ _ (subscriptTail _ _ (Value.ref _) (Value.ref _)) _ _ _); with_reducible (k_here; (with_reducible show wpAny _ _ (subscriptTail _ (PySem.Expr.Slice (some _) none none _) (Value.ref _) (Value.ref _)) _ _ _); k_dflt (refine' sliceTup1 (by k_asm) (by k_asm) (by k_mem) ?_ (by with_unfolding_all rfl) (by intro _; with_unfolding_all rfl) (by exact Nat.le_of_ble_eq_true rfl)); intro _ _ _ _ _; (try k_sweep))) | ((with_reducible show wpAny _ _ (binaryOp Operator.Add (Value.ref _) (Value.ref _)) _ _ _); with_reducible (k_here; k_dflt (refine' addTup (by k_asm) (by k_asm) (by k_mem) (by k_mem) (by intro hh; cases hh) (by intro hh; cases hh) (by exact Nat.le_of_ble_eq_true rfl) ?_); intro _ _ _ _ _; (try k_sweep))) | ((with_reducible show wpAny _ _ (newTuple _) _ _ _); with_reducible (k_here; k_dflt (refine' kup_newTuple (by k_asm) (by k_asm) ?_ (by exact Nat.le_of_ble_eq_true rfl)); intro _ _ _ _ _; (try k_sweep))) | walk1 | (dsimp only; walk1) | (dsimp only; k_unfold; try dsimp only)))
  all_goals ((refine' back_ (by k_asm) (by k_asm) ?_); intro kF kN; refine hQ _ _ _ _ kF kN ?_; unfold newerR)
  all_goals (clear hQ kF kN; simp_all <;> (intros; omega))

theorem key_of_spec {a : Addr} {g n u v : Int}
    (hR : Room A (rn + 5)) (F : Fr B L s.heap m) (X : (hd.heap_39 w.params).In B) (N : News B L s.heap (led)) (T : Top p loose mean mg mb B)
    (h1 : HeadAt led a g n u v)
    (hQ : ∀ k new h' tk', Fr B L h' m → News B L h' (new ++ led) → Above led new → KeyAt new k n → Q (.ref k) { s with heap := h', toks := tk' }) :
    wpAny (model prog w) A (call (.ref 44) [.ref a]) Q E s := by
  obtain ⟨t0, t1, t2, t3, t4, t5, t6, h1⟩ := h1
  refine callFn [("head", .ref a)] F X N T (by k_is) (by k_is) (by (first | assumption | exact Room.h (by assumption) | exact Room.u_lt (by assumption) | exact Room.less (by assumption) (by decide))) (by first | exact BindsTo.of_eq rfl | exact binds_K (by k_in) rfl (by k_is) rfl rfl rfl) (locs rfl) ?_ rfl rfl rfl (by decide)
  intro g' L' h' F' N' X' T' hz' hR'
  clear F N X T hR
  k_fold
  (repeat' (first | (k_unfold; (try dsimp only)) | ((with_reducible show wpAny _ _ (call (Value.builtin "min") _) _ _ _); with_reducible (k_here; refine' min_two_N (by (first | assumption | exact Room.h (by assumption) | exact Room.u_lt (by assumption) | exact Room.less (by assumption) (by decide))) (by k_asm) (by k_asm) ?_; intro _ _ _ _; try k_sweep)) | ((with_reducible show wpAny _ _ (subscriptTail _ _ (Value.ref _) (Value.ref _)) _ _ _); with_reducible (k_here; (with_reducible show wpAny _ _ (subscriptTail _ (PySem.Expr.Slice (some _) none none _) (Value.ref _) (Value.ref _)) _ _ _); k_dflt (refine' sliceTup1 (by k_asm) (by k_asm) (by k_mem) ?_ (by with_unfolding_all rfl) (by intro _; with_unfolding_all rfl) (by exact Nat.le_of_ble_eq_true rfl)); intro _ _ _ _ _; (try k_sweep))) | ((with_reducible show wpAny _ _ (binaryOp Operator.Add (Value.ref _) (Value.ref _)) _ _ _); with_reducible (k_here; k_dflt (refine' addTup (by k_asm) (by k_asm) (by k_mem) (by k_mem) (by intro hh; cases hh) (by intro hh; cases hh) (by exact Nat.le_of_ble_eq_true rfl) ?_); intro _ _ _ _ _; (try k_sweep))) | ((with_reducible show wpAny _ _ (newTuple _) _ _ _); with_reducible (k_here; k_dflt (refine' kup_newTuple (by k_asm) (by k_asm) ?_ (by exact Nat.le_of_ble_eq_true rfl)); intro _ _ _ _ _; (try k_sweep))) | walk1 | (dsimp only; walk1) | (dsimp only; k_unfold; try dsimp only)))
  (refine' back_ (by k_asm) (by k_asm) ?_)
  intro kF kN
  exact hQ _ [_] _ _ kF (by (first | assumption | (simp only [List.append_assoc, List.cons_append, List.nil_append]; assumption))) (by walk_at "M above") (by walk_at "M rel")

theorem aged_head_spec {a : Addr} {g n u v d : Int} {td : Tok}
    (hR : Room A (rn + 5)) (F : Fr B L s.heap m) (X : (hd.heap_39 w.params).In B) (N : News B L s.heap (led)) (T : Top p loose mean mg mb B)
    (h1 : HeadAt led a g n u v)
    (hQ : ∀ k new h' tk', Fr B L h' m → News B L h' (new ++ led) → Above led new → HeadAt new k (min (g + d) 3600) n u v → Q (.ref k) { s with heap := h', toks := tk' }) :
    wpAny (model prog w) A (call (.ref 37) [.ref a, .int d td]) Q E s := by
  obtain ⟨t0, t1, t2, t3, t4, t5, t6, h1⟩ := h1
  refine callFn [("head", .ref a), ("seconds", .int d td), ("max_age", .int 3600 198)] F X N T (by k_is) (by k_is) (by (first | assumption | exact Room.h (by assumption) | exact Room.u_lt (by assumption) | exact Room.less (by assumption) (by decide))) (by first | exact BindsTo.of_eq rfl | exact binds_K (by k_in) rfl (by k_is) rfl rfl rfl) (locs rfl) ?_ rfl rfl rfl (by decide)
  intro g' L' h' F' N' X' T' hz' hR'
  clear F N X T hR
  k_fold
  (repeat' (first | (k_unfold; (try dsimp only)) | ((with_reducible show wpAny _ _ (call (Value.builtin "min") _) _ _ _); with_reducible (k_here; refine' min_two_N (by (first | assumption | exact Room.h (by assumption) | exact Room.u_lt (by assumption) | exact Room.less (by assumption) (by decide))) (by k_asm) (by k_asm) ?_; intro _ _ _ _; try k_sweep)) | ((with_reducible show wpAny _ _ (subscriptTail _ _ (Value.ref _) (Value.ref _)) _ _ _); with_reducible (k_here; (with_reducible show wpAny _ _ (subscriptTail _ (PySem.Expr.Slice (some _) none none _) (Value.ref _) (Value.ref _)) _ _ _); k_dflt (refine' sliceTup1 (by k_asm) (by k_asm) (by k_mem) ?_ (by with_unfolding_all rfl) (by intro _; with_unfolding_all rfl) (by exact Nat.le_of_ble_eq_true rfl)); intro _ _ _ _ _; (try k_sweep))) | ((with_reducible show wpAny _ _ (binaryOp Operator.Add (Value.ref _) (Value.ref _)) _ _ _); with_reducible (k_here; k_dflt (refine' addTup (by k_asm) (by k_asm) (by k_mem) (by k_mem) (by intro hh; cases hh) (by intro hh; cases hh) (by exact Nat.le_of_ble_eq_true rfl) ?_); intro _ _ _ _ _; (try k_sweep))) | ((with_reducible show wpAny _ _ (newTuple _) _ _ _); with_reducible (k_here; k_dflt (refine' kup_newTuple (by k_asm) (by k_asm) ?_ (by exact Nat.le_of_ble_eq_true rfl)); intro _ _ _ _ _; (try k_sweep))) | walk1 | (dsimp only; walk1) | (dsimp only; k_unfold; try dsimp only)))
  (refine' back_ (by k_asm) (by k_asm) ?_)
  intro kF kN
  refine hQ _ [_, _, _] _ _ kF kN (by walk_at "M above") ?_
  have e : (if (3600 : Int) < g + d then 3600 else g + d) = min (g + d) 3600 := by omega
  rw [← e]
  exact ⟨_, _, _, _, _, _, _, List.Mem.head _⟩

theorem barred_spec {a : Addr} {g n u v : Int}
    (hR : Room A (rn + 5)) (F : Fr B L s.heap m) (X : (hd.heap_39 w.params).In B) (N : News B L s.heap (led)) (T : Top p loose mean mg mb B)
    (h1 : HeadAt led a g n u v)
    (hQ : ∀ x h' tk', Fr B L h' m → News B L h' led → Q (.str (PySem.Str.ofString "") x) { s with heap := h', toks := tk' }) :
    wpAny (model prog w) A (call (.ref 51) [.ref a, .bool false]) Q E s := by
  obtain ⟨t0, t1, t2, t3, t4, t5, t6, h1⟩ := h1
  refine callFn [("head", .ref a), ("is_stub", .bool false)] F X N T (by k_is) (by k_is) (by (first | assumption | exact Room.h (by assumption) | exact Room.u_lt (by assumption) | exact Room.less (by assumption) (by decide))) (by first | exact BindsTo.of_eq rfl | exact binds_K (by k_in) rfl (by k_is) rfl rfl rfl) (locs rfl) ?_ rfl rfl rfl (by decide)
  intro g' L' h' F' N' X' T' hz' hR'
  clear F N X T hR
  k_fold
  (repeat' (first | (k_unfold; (try dsimp only)) | ((with_reducible show wpAny _ _ (call (Value.builtin "min") _) _ _ _); with_reducible (k_here; refine' min_two_N (by (first | assumption | exact Room.h (by assumption) | exact Room.u_lt (by assumption) | exact Room.less (by assumption) (by decide))) (by k_asm) (by k_asm) ?_; intro _ _ _ _; try k_sweep)) | ((with_reducible show wpAny _ _ (subscriptTail _ _ (Value.ref _) (Value.ref _)) _ _ _); with_reducible (k_here; (with_reducible show wpAny _ _ (subscriptTail _ (PySem.Expr.Slice (some _) none none _) (Value.ref _) (Value.ref _)) _ _ _); k_dflt (refine' sliceTup1 (by k_asm) (by k_asm) (by k_mem) ?_ (by with_unfolding_all rfl) (by intro _; with_unfolding_all rfl) (by exact Nat.le_of_ble_eq_true rfl)); intro _ _ _ _ _; (try k_sweep))) | ((with_reducible show wpAny _ _ (binaryOp Operator.Add (Value.ref _) (Value.ref _)) _ _ _); with_reducible (k_here; k_dflt (refine' addTup (by k_asm) (by k_asm) (by k_mem) (by k_mem) (by intro hh; cases hh) (by intro hh; cases hh) (by exact Nat.le_of_ble_eq_true rfl) ?_); intro _ _ _ _ _; (try k_sweep))) | ((with_reducible show wpAny _ _ (newTuple _) _ _ _); with_reducible (k_here; k_dflt (refine' kup_newTuple (by k_asm) (by k_asm) ?_ (by exact Nat.le_of_ble_eq_true rfl)); intro _ _ _ _ _; (try k_sweep))) | walk1 | (dsimp only; walk1) | (dsimp only; k_unfold; try dsimp only)))
  all_goals ((refine' back_ (by k_asm) (by k_asm) ?_); intro kF kN; exact hQ _ _ _ kF kN)
end

section
variable {prog : Program} {w : World} {A : Around} {s : Shared} {B : Heap} {L : Addr} {m mg mb : Str → Option Value} {led : List (Addr × Obj)} {p : Program} {loose : List Str} {mean : ExcName → Option Value} {Q E : Value → Shared → Prop} {rn : Nat}

inductive Vd | take | same | back
def VdAt (led : Led) (a : Addr) : Vd → Prop
  | .take => ∃ t, (a, tupO [.str (Str.ofString "take") t]) ∈ led
  | .same => ∃ t, (a, tupO [.str (Str.ofString "same") t, .bool false]) ∈ led
  | .back => ∃ t, (a, tupO [.str (Str.ofString "send back") t]) ∈ led
theorem VdAt.mono {led led' : Led} (h : Sub led led') {a v} : VdAt led a v → VdAt led' a v := by
  cases v <;> exact fun ⟨t, m⟩ => ⟨t, h _ m⟩
def vdOf (r : Int) : Vd := if 0 < r then .take else if r = 0 then .same else .back

theorem verdict_none {a fd : Addr} {g n u v now : Int} {tn : Tok}
    (hR : Room A (rn + 6)) (F : Fr B L s.heap m) (X : (hd.heap_39 w.params).In B) (N : News B L s.heap (led)) (T : Top p loose mean mg mb B)
    (h1 : HeadAt led a g n u v) (h2 : FactsAt prog w led fd)
    (hQ : ∀ k new h' tk', Fr B L h' m → News B L h' (new ++ led) → Above led new → VdAt new k .take → Q (.ref k) { s with heap := h', toks := tk' }) :
    wpAny (model prog w) A (call (.ref 58) [.ref a, .none, .int now tn, .ref fd]) Q E s := by
  obtain ⟨fo, kvs, f1, f2, f3, f4⟩ := h2
  have h4' := h1
  obtain ⟨t0, t1, t2, t3, t4, t5, t6, h4'⟩ := h4'
  refine callFn [("head", .ref a), ("own", .none), ("now", .int now tn), ("facts", .ref fd)] F X N T (by k_is) (by k_is) (by (first | assumption | exact Room.h (by assumption) | exact Room.u_lt (by assumption) | exact Room.less (by assumption) (by decide))) (by first | exact BindsTo.of_eq rfl | exact binds_K (by k_in) rfl (by k_is) rfl rfl rfl) (locs rfl) ?_ rfl rfl rfl (by decide)
  intro g' L' h' F' N' X' T' hz' hR'
  clear F N X T hR
  k_fold
  (repeat' (first | (k_unfold; (try dsimp only)) | ((with_reducible show wpAny _ _ (newTuple _) _ _ _); with_reducible (k_here; k_dflt (refine' kup_newTuple (by k_asm) (by k_asm) ?_ (by exact Nat.le_of_ble_eq_true rfl)); intro _ _ _ _ _; (try k_sweep))) | ((with_reducible show wpAny _ _ (call (Value.ref _) _) _ _ _); (first | with_reducible (k_here; k_dflt (refine' aged_head_spec (by (first | assumption | exact Room.h (by assumption) | exact Room.u_lt (by assumption) | exact Room.less (by assumption) (by decide))) (by k_asm) (by k_asm) (by k_asm) (by k_asm) (by walk_at "M rel") ?_; k_whole); intro _ _ _ _ _ _ _ _; (try k_sweep)) | with_reducible (k_here; k_dflt (refine' barred_spec (by (first | assumption | exact Room.h (by assumption) | exact Room.u_lt (by assumption) | exact Room.less (by assumption) (by decide))) (by k_asm) (by k_asm) (by k_asm) (by k_asm) (by walk_at "M rel") ?_; k_whole); intro _ _ _ _ _; (try k_sweep)) | with_reducible (k_here; k_dflt (refine' newer_of_spec (by (first | assumption | exact Room.h (by assumption) | exact Room.u_lt (by assumption) | exact Room.less (by assumption) (by decide))) (by k_asm) (by k_asm) (by k_asm) (by k_asm) (by walk_at "M rel") (by walk_at "M rel") ?_; k_whole); intro _ _ _ _ _ _ _; (try k_sweep)))) | walk1 | (dsimp only; walk1) | (dsimp only; k_unfold; try dsimp only)))
  all_goals ((refine' back_ (by k_asm) (by k_asm) ?_); intro kF kN)
  all_goals (exact hQ _ [_] _ _ kF kN (by walk_at "M above") ⟨_, List.Mem.head _⟩)

theorem verdict_some {a fd ow oh : Addr} {g n u v g2 n2 u2 v2 now since : Int} {tn ts : Tok}
    (hR : Room A (rn + 6)) (F : Fr B L s.heap m) (X : (hd.heap_39 w.params).In B) (N : News B L s.heap (led)) (T : Top p loose mean mg mb B)
    (h1 : HeadAt led a g n u v) (h2 : FactsAt prog w led fd) (h3 : (ow, tupO [.ref oh, .int since ts]) ∈ led) (h4 : HeadAt led oh g2 n2 u2 v2) (hu : u2 ≠ 2147483647)
    (hQ : ∀ k vd new h' tk', Fr B L h' m → News B L h' (new ++ led) → Above led new → VdAt new k vd → vd = vdOf (newerR g u v g2 u2 v2) → Q (.ref k) { s with heap := h', toks := tk' }) :
    wpAny (model prog w) A (call (.ref 58) [.ref a, .ref ow, .int now tn, .ref fd]) Q E s := by
  obtain ⟨fo, kvs, f1, f2, f3, f4⟩ := h2
  have h4' := h4
  obtain ⟨t0, t1, t2, t3, t4, t5, t6, h4'⟩ := h4'
  refine callFn [("head", .ref a), ("own", .ref ow), ("now", .int now tn), ("facts", .ref fd)] F X N T (by k_is) (by k_is) (by (first | assumption | exact Room.h (by assumption) | exact Room.u_lt (by assumption) | exact Room.less (by assumption) (by decide))) (by first | exact BindsTo.of_eq rfl | exact binds_K (by k_in) rfl (by k_is) rfl rfl rfl) (locs rfl) ?_ rfl rfl rfl (by decide)
  intro g' L' h' F' N' X' T' hz' hR'
  clear F N X T hR
  k_fold
  (repeat' (first | (k_unfold; (try dsimp only)) | ((with_reducible show wpAny _ _ (newTuple _) _ _ _); with_reducible (k_here; k_dflt (refine' kup_newTuple (by k_asm) (by k_asm) ?_ (by exact Nat.le_of_ble_eq_true rfl)); intro _ _ _ _ _; (try k_sweep))) | ((with_reducible show wpAny _ _ (call (Value.ref _) _) _ _ _); (first | with_reducible (k_here; k_dflt (refine' aged_head_spec (by (first | assumption | exact Room.h (by assumption) | exact Room.u_lt (by assumption) | exact Room.less (by assumption) (by decide))) (by k_asm) (by k_asm) (by k_asm) (by k_asm) (by walk_at "M rel") ?_; k_whole); intro _ _ _ _ _ _ _ _; (try k_sweep)) | with_reducible (k_here; k_dflt (refine' barred_spec (by (first | assumption | exact Room.h (by assumption) | exact Room.u_lt (by assumption) | exact Room.less (by assumption) (by decide))) (by k_asm) (by k_asm) (by k_asm) (by k_asm) (by walk_at "M rel") ?_; k_whole); intro _ _ _ _ _; (try k_sweep)) | with_reducible (k_here; k_dflt (refine' newer_of_spec (by (first | assumption | exact Room.h (by assumption) | exact Room.u_lt (by assumption) | exact Room.less (by assumption) (by decide))) (by k_asm) (by k_asm) (by k_asm) (by k_asm) (by walk_at "M rel") (by walk_at "M rel") ?_; k_whole); intro _ _ _ _ _ _ _; (try k_sweep)))) | walk1 | (dsimp only; walk1) | (dsimp only; k_unfold; try dsimp only)))
  all_goals ((refine' back_ (by k_asm) (by k_asm) ?_); intro kF kN)
  all_goals (first
    | exact hQ _ .take [_] _ _ kF kN (by walk_at "M above") ⟨_, List.Mem.head _⟩ (by subst_vars; simp_all [vdOf])
    | exact hQ _ .same [_] _ _ kF kN (by walk_at "M above") ⟨_, List.Mem.head _⟩ (by subst_vars; simp_all [vdOf])
    | exact hQ _ .back [_] _ _ kF kN (by walk_at "M above") ⟨_, List.Mem.head _⟩ (by subst_vars; simp_all [vdOf])
    | exact absurd (by assumption) hu)

theorem aged_spec {imm : Led} {a : Addr} {r : Row} {d : Int} {td : Tok}
    (hR : Room A (rn + 6)) (F : Fr B L s.heap m) (X : (hd.heap_39 w.params).In B) (N : News B L s.heap (led)) (T : Top p loose mean mg mb B)
    (h1 : RowAt imm a r) (hs : Sub imm led)
    (hQ : ∀ k new h' tk', Fr B L h' m → News B L h' (new ++ led) → Above led new → RowAt (new ++ imm) k { r with age := min (r.age + d) 3600 } → Q (.ref k) { s with heap := h', toks := tk' }) :
    wpAny (model prog w) A (call (.ref 65) [.ref a, .int d td]) Q E s := by
  obtain ⟨hp, bp, r1, r2, r3⟩ := h1
  have r1' := hs _ r1
  have r2' := r2.mono hs
  refine callFn [("lsa", .ref a), ("seconds", .int d td)] F X N T (by k_is) (by k_is) (by (first | assumption | exact Room.h (by assumption) | exact Room.u_lt (by assumption) | exact Room.less (by assumption) (by decide))) (by first | exact BindsTo.of_eq rfl | exact binds_K (by k_in) rfl (by k_is) rfl rfl rfl) (locs rfl) ?_ rfl rfl rfl (by decide)
  intro g' L' h' F' N' X' T' hz' hR'
  clear F N X T hR
  k_fold
  (repeat' (first | (k_unfold; (try dsimp only)) | ((with_reducible show wpAny _ _ (newTuple _) _ _ _); with_reducible (k_here; k_dflt (refine' kup_newTuple (by k_asm) (by k_asm) ?_ (by exact Nat.le_of_ble_eq_true rfl)); intro _ _ _ _ _; (try k_sweep))) | ((with_reducible show wpAny _ _ (call (Value.ref _) _) _ _ _); (first | with_reducible (k_here; k_dflt (refine' aged_head_spec (by (first | assumption | exact Room.h (by assumption) | exact Room.u_lt (by assumption) | exact Room.less (by assumption) (by decide))) (by k_asm) (by k_asm) (by k_asm) (by k_asm) (by walk_at "M rel") ?_; k_whole); intro _ _ _ _ _ _ _ _; (try k_sweep)) | with_reducible (k_here; k_dflt (refine' barred_spec (by (first | assumption | exact Room.h (by assumption) | exact Room.u_lt (by assumption) | exact Room.less (by assumption) (by decide))) (by k_asm) (by k_asm) (by k_asm) (by k_asm) (by walk_at "M rel") ?_; k_whole); intro _ _ _ _ _; (try k_sweep)) | with_reducible (k_here; k_dflt (refine' newer_of_spec (by (first | assumption | exact Room.h (by assumption) | exact Room.u_lt (by assumption) | exact Room.less (by assumption) (by decide))) (by k_asm) (by k_asm) (by k_asm) (by k_asm) (by walk_at "M rel") (by walk_at "M rel") ?_; k_whole); intro _ _ _ _ _ _ _; (try k_sweep)))) | walk1 | (dsimp only; walk1) | (dsimp only; k_unfold; try dsimp only)))
  (refine' back_ (by k_asm) (by k_asm) ?_); intro kF kN
  exact hQ _ (_ :: _) _ _ kF kN (by walk_at "M above") ⟨_, _, List.Mem.head _, HeadAt.mono (fun _ h => List.Mem.tail _ (List.mem_append_left _ h)) (by assumption), by walk_at "M rel"⟩
end

section
variable {prog : Program} {w : World} {A : Around} {s : Shared} {B : Heap} {L : Addr} {m mg mb : Str → Option Value} {led : List (Addr × Obj)} {p : Program} {loose : List Str} {mean : ExcName → Option Value} {Q E : Value → Shared → Prop} {rn : Nat}

theorem some_of {α : Type} {x : Option α} {e : α} {b : Bool} (h : x = some e) (k : x.isSome = b) : b = true := by rw [h] at k; exact k.symm
theorem none_of {α : Type} {x : Option α} {b : Bool} (h : x = none) (k : x.isSome = b) : b = false := by rw [h] at k; exact k.symm

theorem since_spec {imm : Led} {d rp k : Addr} {o : Obj} {es : List Ent} {n : Int} {e : Ent}
    (hR : Room A (rn + 6)) (F : Fr B L s.heap m) (X : (hd.heap_39 w.params).In B) (N : News B L s.heap (led)) (T : Top p loose mean mg mb B)
    (h1 : DbAt led d rp) (h2 : (rp, o) ∈ led) (h3 : Rows prog w imm o es) (hs : Sub imm led) (h4 : KeyAt led k n) (h5 : 1 < rp) (h6 : findE es n = some e)
    (hQ : ∀ t h' tk', Fr B L h' m → News B L h' led → Q (.int e.since t) { s with heap := h', toks := tk' }) :
    wpAny (model prog w) A (call (.ref 107) [.ref d, .ref k]) Q E s := by
  obtain ⟨dx, hsd, td, nd, d1, d2⟩ := h1
  refine callFn [("self", .ref d), ("key", .ref k)] F X N T (by k_is) (by k_is) (by (first | assumption | exact Room.h (by assumption) | exact Room.u_lt (by assumption) | exact Room.less (by assumption) (by decide))) (by first | exact BindsTo.of_eq rfl | exact binds_K (by k_in) rfl (by k_is) rfl rfl rfl) (locs rfl) ?_ rfl rfl rfl (by decide)
  intro g' L' h' F' N' X' T' hz' hR'
  clear F N X T hR
  k_fold
  (repeat' (first | (k_unfold; (try dsimp only)) | ((with_reducible show wpAny _ _ (compareOp CmpOp.In (Value.ref _) (Value.ref _)) _ _ _); with_reducible (k_here; k_dflt (refine' rows_in (by (first | assumption | exact Room.h (by assumption) | exact Room.u_lt (by assumption) | exact Room.less (by assumption) (by decide))) (by k_asm) (by k_mem) ?_ (by assumption) (by walk_at "M rel") (by assumption) (by first | exact isSome_some (by assumption) | exact isSome_none (by assumption)) ?_; (walk_at "M sub"); k_whole); intro _)) | ((with_reducible show wpAny _ _ (compareOp CmpOp.NotIn (Value.ref _) (Value.ref _)) _ _ _); with_reducible (k_here; k_dflt (refine' rows_notin (by (first | assumption | exact Room.h (by assumption) | exact Room.u_lt (by assumption) | exact Room.less (by assumption) (by decide))) (by k_asm) (by k_mem) ?_ (by assumption) (by walk_at "M rel") (by assumption) (by first | exact isSome_some (by assumption) | exact isSome_none (by assumption)) ?_; (walk_at "M sub"); k_whole); intro _)) | ((with_reducible show wpAny _ _ (subscriptTail _ _ (Value.ref _) _) _ _ _); with_reducible (k_here; (with_reducible show wpAny _ _ (subscriptTail _ _ (Value.ref _) (Value.ref _)) _ _ _); k_dflt (refine' rows_tail (by (first | assumption | exact Room.h (by assumption) | exact Room.u_lt (by assumption) | exact Room.less (by assumption) (by decide))) (by k_asm) (by k_mem) ?_ (by assumption) (by walk_at "M rel") (by assumption) ?_ (by with_unfolding_all rfl); (walk_at "M sub"); k_whole); intro _ _ _ _ _ _)) | ((with_reducible show wpAny _ _ (assign (Expr.Tuple _ _ _) _ (Value.ref _)) _ _ _); with_reducible (k_here; (with_reducible show wpAny _ _ (assign (Expr.Tuple _ _ _) _ (Value.ref _)) _ _ _); k_dflt (refine' unpackN_ (by k_asm) (by k_asm) (by refine News.isTup (by k_asm) (by k_mem)) (by (first | assumption | exact Room.h (by assumption) | exact Room.u_lt (by assumption) | exact Room.less (by assumption) (by decide))) (by exact rfl) (by exact rfl) ?_); intro _ _ _; (try k_sweep))) | ((with_reducible show wpAny _ _ (compareOp CmpOp.NotEq (Value.ref _) (Value.ref _)) _ _ _); with_reducible (k_here; k_dflt (refine' ne_dat (by (first | assumption | exact Room.h (by assumption) | exact Room.u_lt (by assumption) | exact Room.less (by assumption) (by decide))) (by k_asm) (by (first | (refine' BodyAt.dat (by walk_at "M rel")) | (refine' PlaceAt.dat (by walk_at "M rel")))) (by (first | (refine' BodyAt.dat (by walk_at "M rel")) | (refine' PlaceAt.dat (by walk_at "M rel")))) (by (first | exact body_can | exact place_can | exact row_can | exact body_depth | exact place_depth | exact row_depth)) (by (first | exact body_can | exact place_can | exact row_can | exact body_depth | exact place_depth | exact row_depth)) (by (first | exact body_can | exact place_can | exact row_can | exact body_depth | exact place_depth | exact row_depth)) (by exact rfl) ?_; k_whole))) | ((with_reducible show wpAny _ _ (call (Value.ref _) _) _ _ _); with_reducible (k_here; k_dflt (refine' aged_spec (by (first | assumption | exact Room.h (by assumption) | exact Room.u_lt (by assumption) | exact Room.less (by assumption) (by decide))) (by k_asm) (by k_asm) (by k_asm) (by k_asm) (by assumption) (by walk_at "M sub") ?_; k_whole); intro _ _ _ _ _ _ _ _; (try k_sweep))) | walk1 | (dsimp only; walk1) | (dsimp only; k_unfold; try dsimp only)))
  (refine' back_ (by k_asm) (by k_asm) ?_); intro kF kN; exact hQ _ _ _ kF kN

theorem look_none {imm : Led} {d rp k : Addr} {o : Obj} {es : List Ent} {n now : Int} {tn : Tok}
    (hR : Room A (rn + 8)) (F : Fr B L s.heap m) (X : (hd.heap_39 w.params).In B) (N : News B L s.heap (led)) (T : Top p loose mean mg mb B)
    (h1 : DbAt led d rp) (h2 : (rp, o) ∈ led) (h3 : Rows prog w imm o es) (hs : Sub imm led) (h4 : KeyAt led k n) (h5 : 1 < rp) (h6 : findE es n = none)
    (hQ : ∀ h' tk', Fr B L h' m → News B L h' led → Q .none { s with heap := h', toks := tk' }) :
    wpAny (model prog w) A (call (.ref 100) [.ref d, .ref k, .int now tn]) Q E s := by
  obtain ⟨dx, hsd, td, nd, d1, d2⟩ := h1
  refine callFn [("self", .ref d), ("key", .ref k), ("now", .int now tn)] F X N T (by k_is) (by k_is) (by (first | assumption | exact Room.h (by assumption) | exact Room.u_lt (by assumption) | exact Room.less (by assumption) (by decide))) (by first | exact BindsTo.of_eq rfl | exact binds_K (by k_in) rfl (by k_is) rfl rfl rfl) (locs rfl) ?_ rfl rfl rfl (by decide)
  intro g' L' h' F' N' X' T' hz' hR'
  clear F N X T hR
  k_fold
  (repeat' (first | (k_unfold; (try dsimp only)) | ((with_reducible show wpAny _ _ (compareOp CmpOp.In (Value.ref _) (Value.ref _)) _ _ _); with_reducible (k_here; k_dflt (refine' rows_in (by (first | assumption | exact Room.h (by assumption) | exact Room.u_lt (by assumption) | exact Room.less (by assumption) (by decide))) (by k_asm) (by k_mem) ?_ (by assumption) (by walk_at "M rel") (by assumption) (by first | exact isSome_some (by assumption) | exact isSome_none (by assumption)) ?_; (walk_at "M sub"); k_whole); intro _)) | ((with_reducible show wpAny _ _ (compareOp CmpOp.NotIn (Value.ref _) (Value.ref _)) _ _ _); with_reducible (k_here; k_dflt (refine' rows_notin (by (first | assumption | exact Room.h (by assumption) | exact Room.u_lt (by assumption) | exact Room.less (by assumption) (by decide))) (by k_asm) (by k_mem) ?_ (by assumption) (by walk_at "M rel") (by assumption) (by first | exact isSome_some (by assumption) | exact isSome_none (by assumption)) ?_; (walk_at "M sub"); k_whole); intro _)) | ((with_reducible show wpAny _ _ (subscriptTail _ _ (Value.ref _) _) _ _ _); with_reducible (k_here; (with_reducible show wpAny _ _ (subscriptTail _ _ (Value.ref _) (Value.ref _)) _ _ _); k_dflt (refine' rows_tail (by (first | assumption | exact Room.h (by assumption) | exact Room.u_lt (by assumption) | exact Room.less (by assumption) (by decide))) (by k_asm) (by k_mem) ?_ (by assumption) (by walk_at "M rel") (by assumption) ?_ (by with_unfolding_all rfl); (walk_at "M sub"); k_whole); intro _ _ _ _ _ _)) | ((with_reducible show wpAny _ _ (assign (Expr.Tuple _ _ _) _ (Value.ref _)) _ _ _); with_reducible (k_here; (with_reducible show wpAny _ _ (assign (Expr.Tuple _ _ _) _ (Value.ref _)) _ _ _); k_dflt (refine' unpackN_ (by k_asm) (by k_asm) (by refine News.isTup (by k_asm) (by k_mem)) (by (first | assumption | exact Room.h (by assumption) | exact Room.u_lt (by assumption) | exact Room.less (by assumption) (by decide))) (by exact rfl) (by exact rfl) ?_); intro _ _ _; (try k_sweep))) | ((with_reducible show wpAny _ _ (compareOp CmpOp.NotEq (Value.ref _) (Value.ref _)) _ _ _); with_reducible (k_here; k_dflt (refine' ne_dat (by (first | assumption | exact Room.h (by assumption) | exact Room.u_lt (by assumption) | exact Room.less (by assumption) (by decide))) (by k_asm) (by (first | (refine' BodyAt.dat (by walk_at "M rel")) | (refine' PlaceAt.dat (by walk_at "M rel")))) (by (first | (refine' BodyAt.dat (by walk_at "M rel")) | (refine' PlaceAt.dat (by walk_at "M rel")))) (by (first | exact body_can | exact place_can | exact row_can | exact body_depth | exact place_depth | exact row_depth)) (by (first | exact body_can | exact place_can | exact row_can | exact body_depth | exact place_depth | exact row_depth)) (by (first | exact body_can | exact place_can | exact row_can | exact body_depth | exact place_depth | exact row_depth)) (by exact rfl) ?_; k_whole))) | ((with_reducible show wpAny _ _ (call (Value.ref _) _) _ _ _); with_reducible (k_here; k_dflt (refine' aged_spec (by (first | assumption | exact Room.h (by assumption) | exact Room.u_lt (by assumption) | exact Room.less (by assumption) (by decide))) (by k_asm) (by k_asm) (by k_asm) (by k_asm) (by assumption) (by walk_at "M sub") ?_; k_whole); intro _ _ _ _ _ _ _ _; (try k_sweep))) | walk1 | (dsimp only; walk1) | (dsimp only; k_unfold; try dsimp only)))
  (refine' back_ (by k_asm) (by k_asm) ?_); intro kF kN; exact hQ _ _ kF kN

theorem look_some {imm : Led} {d rp k : Addr} {o : Obj} {es : List Ent} {n now : Int} {tn : Tok} {e : Ent}
    (hR : Room A (rn + 8)) (F : Fr B L s.heap m) (X : (hd.heap_39 w.params).In B) (N : News B L s.heap (led)) (T : Top p loose mean mg mb B)
    (h1 : DbAt led d rp) (h2 : (rp, o) ∈ led) (h3 : Rows prog w imm o es) (hs : Sub imm led) (h4 : KeyAt led k n) (h5 : 1 < rp) (h6 : findE es n = some e)
    (hQ : ∀ k new h' tk', Fr B L h' m → News B L h' (new ++ led) → Above led new → RowAt (new ++ imm) k { e.row with age := min (e.row.age + (now - e.since)) 3600 } → Q (.ref k) { s with heap := h', toks := tk' }) :
    wpAny (model prog w) A (call (.ref 100) [.ref d, .ref k, .int now tn]) Q E s := by
  obtain ⟨dx, hsd, td, nd, d1, d2⟩ := h1
  refine callFn [("self", .ref d), ("key", .ref k), ("now", .int now tn)] F X N T (by k_is) (by k_is) (by (first | assumption | exact Room.h (by assumption) | exact Room.u_lt (by assumption) | exact Room.less (by assumption) (by decide))) (by first | exact BindsTo.of_eq rfl | exact binds_K (by k_in) rfl (by k_is) rfl rfl rfl) (locs rfl) ?_ rfl rfl rfl (by decide)
  intro g' L' h' F' N' X' T' hz' hR'
  clear F N X T hR
  k_fold
  (repeat' (first | (k_unfold; (try dsimp only)) | ((with_reducible show wpAny _ _ (compareOp CmpOp.In (Value.ref _) (Value.ref _)) _ _ _); with_reducible (k_here; k_dflt (refine' rows_in (by (first | assumption | exact Room.h (by assumption) | exact Room.u_lt (by assumption) | exact Room.less (by assumption) (by decide))) (by k_asm) (by k_mem) ?_ (by assumption) (by walk_at "M rel") (by assumption) (by first | exact isSome_some (by assumption) | exact isSome_none (by assumption)) ?_; (walk_at "M sub"); k_whole); intro _)) | ((with_reducible show wpAny _ _ (compareOp CmpOp.NotIn (Value.ref _) (Value.ref _)) _ _ _); with_reducible (k_here; k_dflt (refine' rows_notin (by (first | assumption | exact Room.h (by assumption) | exact Room.u_lt (by assumption) | exact Room.less (by assumption) (by decide))) (by k_asm) (by k_mem) ?_ (by assumption) (by walk_at "M rel") (by assumption) (by first | exact isSome_some (by assumption) | exact isSome_none (by assumption)) ?_; (walk_at "M sub"); k_whole); intro _)) | ((with_reducible show wpAny _ _ (subscriptTail _ _ (Value.ref _) _) _ _ _); with_reducible (k_here; (with_reducible show wpAny _ _ (subscriptTail _ _ (Value.ref _) (Value.ref _)) _ _ _); k_dflt (refine' rows_tail (by (first | assumption | exact Room.h (by assumption) | exact Room.u_lt (by assumption) | exact Room.less (by assumption) (by decide))) (by k_asm) (by k_mem) ?_ (by assumption) (by walk_at "M rel") (by assumption) ?_ (by with_unfolding_all rfl); (walk_at "M sub"); k_whole); intro _ _ _ _ _ _)) | ((with_reducible show wpAny _ _ (assign (Expr.Tuple _ _ _) _ (Value.ref _)) _ _ _); with_reducible (k_here; (with_reducible show wpAny _ _ (assign (Expr.Tuple _ _ _) _ (Value.ref _)) _ _ _); k_dflt (refine' unpackN_ (by k_asm) (by k_asm) (by refine News.isTup (by k_asm) (by k_mem)) (by (first | assumption | exact Room.h (by assumption) | exact Room.u_lt (by assumption) | exact Room.less (by assumption) (by decide))) (by exact rfl) (by exact rfl) ?_); intro _ _ _; (try k_sweep))) | ((with_reducible show wpAny _ _ (compareOp CmpOp.NotEq (Value.ref _) (Value.ref _)) _ _ _); with_reducible (k_here; k_dflt (refine' ne_dat (by (first | assumption | exact Room.h (by assumption) | exact Room.u_lt (by assumption) | exact Room.less (by assumption) (by decide))) (by k_asm) (by (first | (refine' BodyAt.dat (by walk_at "M rel")) | (refine' PlaceAt.dat (by walk_at "M rel")))) (by (first | (refine' BodyAt.dat (by walk_at "M rel")) | (refine' PlaceAt.dat (by walk_at "M rel")))) (by (first | exact body_can | exact place_can | exact row_can | exact body_depth | exact place_depth | exact row_depth)) (by (first | exact body_can | exact place_can | exact row_can | exact body_depth | exact place_depth | exact row_depth)) (by (first | exact body_can | exact place_can | exact row_can | exact body_depth | exact place_depth | exact row_depth)) (by exact rfl) ?_; k_whole))) | ((with_reducible show wpAny _ _ (call (Value.ref _) _) _ _ _); with_reducible (k_here; k_dflt (refine' aged_spec (by (first | assumption | exact Room.h (by assumption) | exact Room.u_lt (by assumption) | exact Room.less (by assumption) (by decide))) (by k_asm) (by k_asm) (by k_asm) (by k_asm) (by assumption) (by walk_at "M sub") ?_; k_whole); intro _ _ _ _ _ _ _ _; (try k_sweep))) | walk1 | (dsimp only; walk1) | (dsimp only; k_unfold; try dsimp only)))
  (refine' back_ (by k_asm) (by k_asm) ?_); intro kF kN
  exact hQ _ _ _ _ kF kN (by assumption) (by assumption)

theorem is_changed_spec {a b : Addr} {r r' : Row}
    (hR : Room A (rn + 6)) (F : Fr B L s.heap m) (X : (hd.heap_39 w.params).In B) (N : News B L s.heap (led)) (T : Top p loose mean mg mb B)
    (h1 : RowAt led a r) (h2 : RowAt led b r')
    (hQ : ∀ c h' tk', Fr B L h' m → News B L h' led → (¬ (r.num = r'.num ∧ r.tot = r'.tot ∧ r.fin = r'.fin) → c = true) → Q (.bool c) { s with heap := h', toks := tk' }) :
    wpAny (model prog w) A (call (.ref 72) [.ref a, .ref b]) Q E s := by
  obtain ⟨hp, bp, r1, ⟨t0, t1, t2, t3, t4, t5, t6, r2⟩, r3⟩ := h1
  obtain ⟨hp', bp', r1', ⟨u0, u1, u2, u3, u4, u5, u6, r2'⟩, r3'⟩ := h2
  refine callFn [("old", .ref a), ("new", .ref b)] F X N T (by k_is) (by k_is) (by (first | assumption | exact Room.h (by assumption) | exact Room.u_lt (by assumption) | exact Room.less (by assumption) (by decide))) (by first | exact BindsTo.of_eq rfl | exact binds_K (by k_in) rfl (by k_is) rfl rfl rfl) (locs rfl) ?_ rfl rfl rfl (by decide)
  intro g' L' h' F' N' X' T' hz' hR'
  clear F N X T hR
  k_fold
  (repeat' (first | (k_unfold; (try dsimp only)) | ((with_reducible show wpAny _ _ (compareOp CmpOp.In (Value.ref _) (Value.ref _)) _ _ _); with_reducible (k_here; k_dflt (refine' rows_in (by (first | assumption | exact Room.h (by assumption) | exact Room.u_lt (by assumption) | exact Room.less (by assumption) (by decide))) (by k_asm) (by k_mem) ?_ (by assumption) (by walk_at "M rel") (by assumption) (by first | exact isSome_some (by assumption) | exact isSome_none (by assumption)) ?_; (walk_at "M sub"); k_whole); intro _)) | ((with_reducible show wpAny _ _ (compareOp CmpOp.NotIn (Value.ref _) (Value.ref _)) _ _ _); with_reducible (k_here; k_dflt (refine' rows_notin (by (first | assumption | exact Room.h (by assumption) | exact Room.u_lt (by assumption) | exact Room.less (by assumption) (by decide))) (by k_asm) (by k_mem) ?_ (by assumption) (by walk_at "M rel") (by assumption) (by first | exact isSome_some (by assumption) | exact isSome_none (by assumption)) ?_; (walk_at "M sub"); k_whole); intro _)) | ((with_reducible show wpAny _ _ (subscriptTail _ _ (Value.ref _) _) _ _ _); with_reducible (k_here; (with_reducible show wpAny _ _ (subscriptTail _ _ (Value.ref _) (Value.ref _)) _ _ _); k_dflt (refine' rows_tail (by (first | assumption | exact Room.h (by assumption) | exact Room.u_lt (by assumption) | exact Room.less (by assumption) (by decide))) (by k_asm) (by k_mem) ?_ (by assumption) (by walk_at "M rel") (by assumption) ?_ (by with_unfolding_all rfl); (walk_at "M sub"); k_whole); intro _ _ _ _ _ _)) | ((with_reducible show wpAny _ _ (assign (Expr.Tuple _ _ _) _ (Value.ref _)) _ _ _); with_reducible (k_here; (with_reducible show wpAny _ _ (assign (Expr.Tuple _ _ _) _ (Value.ref _)) _ _ _); k_dflt (refine' unpackN_ (by k_asm) (by k_asm) (by refine News.isTup (by k_asm) (by k_mem)) (by (first | assumption | exact Room.h (by assumption) | exact Room.u_lt (by assumption) | exact Room.less (by assumption) (by decide))) (by exact rfl) (by exact rfl) ?_); intro _ _ _; (try k_sweep))) | ((with_reducible show wpAny _ _ (compareOp CmpOp.NotEq (Value.ref _) (Value.ref _)) _ _ _); with_reducible (k_here; k_dflt (refine' ne_dat (by (first | assumption | exact Room.h (by assumption) | exact Room.u_lt (by assumption) | exact Room.less (by assumption) (by decide))) (by k_asm) (by (first | (refine' BodyAt.dat (by walk_at "M rel")) | (refine' PlaceAt.dat (by walk_at "M rel")))) (by (first | (refine' BodyAt.dat (by walk_at "M rel")) | (refine' PlaceAt.dat (by walk_at "M rel")))) (by (first | exact body_can | exact place_can | exact row_can | exact body_depth | exact place_depth | exact row_depth)) (by (first | exact body_can | exact place_can | exact row_can | exact body_depth | exact place_depth | exact row_depth)) (by (first | exact body_can | exact place_can | exact row_can | exact body_depth | exact place_depth | exact row_depth)) (by exact rfl) ?_; k_whole))) | ((with_reducible show wpAny _ _ (call (Value.ref _) _) _ _ _); with_reducible (k_here; k_dflt (refine' aged_spec (by (first | assumption | exact Room.h (by assumption) | exact Room.u_lt (by assumption) | exact Room.less (by assumption) (by decide))) (by k_asm) (by k_asm) (by k_asm) (by k_asm) (by assumption) (by walk_at "M sub") ?_; k_whole); intro _ _ _ _ _ _ _ _; (try k_sweep))) | walk1 | (dsimp only; walk1) | (dsimp only; k_unfold; try dsimp only)))
  · (refine' back_ (by k_asm) (by k_asm) ?_); intro kF kN; exact hQ _ _ _ kF kN (fun _ => rfl)
  · (refine' back_ (by k_asm) (by k_asm) ?_); intro kF kN
    refine hQ _ _ _ kF kN (fun h => ?_)
    rw [body_eqv, decide_eq_false h]; rfl

theorem is_changed_none {b : Addr}
    (hR : Room A (rn + 6)) (F : Fr B L s.heap m) (X : (hd.heap_39 w.params).In B) (N : News B L s.heap (led)) (T : Top p loose mean mg mb B)
    
    (hQ : ∀ h' tk', Fr B L h' m → News B L h' led → Q (.bool true) { s with heap := h', toks := tk' }) :
    wpAny (model prog w) A (call (.ref 72) [.none, .ref b]) Q E s := by
  skip
  refine callFn [("old", .none), ("new", .ref b)] F X N T (by k_is) (by k_is) (by (first | assumption | exact Room.h (by assumption) | exact Room.u_lt (by assumption) | exact Room.less (by assumption) (by decide))) (by first | exact BindsTo.of_eq rfl | exact binds_K (by k_in) rfl (by k_is) rfl rfl rfl) (locs rfl) ?_ rfl rfl rfl (by decide)
  intro g' L' h' F' N' X' T' hz' hR'
  clear F N X T hR
  k_fold
  (repeat' (first | (k_unfold; (try dsimp only)) | ((with_reducible show wpAny _ _ (compareOp CmpOp.In (Value.ref _) (Value.ref _)) _ _ _); with_reducible (k_here; k_dflt (refine' rows_in (by (first | assumption | exact Room.h (by assumption) | exact Room.u_lt (by assumption) | exact Room.less (by assumption) (by decide))) (by k_asm) (by k_mem) ?_ (by assumption) (by walk_at "M rel") (by assumption) (by first | exact isSome_some (by assumption) | exact isSome_none (by assumption)) ?_; (walk_at "M sub"); k_whole); intro _)) | ((with_reducible show wpAny _ _ (compareOp CmpOp.NotIn (Value.ref _) (Value.ref _)) _ _ _); with_reducible (k_here; k_dflt (refine' rows_notin (by (first | assumption | exact Room.h (by assumption) | exact Room.u_lt (by assumption) | exact Room.less (by assumption) (by decide))) (by k_asm) (by k_mem) ?_ (by assumption) (by walk_at "M rel") (by assumption) (by first | exact isSome_some (by assumption) | exact isSome_none (by assumption)) ?_; (walk_at "M sub"); k_whole); intro _)) | ((with_reducible show wpAny _ _ (subscriptTail _ _ (Value.ref _) _) _ _ _); with_reducible (k_here; (with_reducible show wpAny _ _ (subscriptTail _ _ (Value.ref _) (Value.ref _)) _ _ _); k_dflt (refine' rows_tail (by (first | assumption | exact Room.h (by assumption) | exact Room.u_lt (by assumption) | exact Room.less (by assumption) (by decide))) (by k_asm) (by k_mem) ?_ (by assumption) (by walk_at "M rel") (by assumption) ?_ (by with_unfolding_all rfl); (walk_at "M sub"); k_whole); intro _ _ _ _ _ _)) | ((with_reducible show wpAny _ _ (assign (Expr.Tuple _ _ _) _ (Value.ref _)) _ _ _); with_reducible (k_here; (with_reducible show wpAny _ _ (assign (Expr.Tuple _ _ _) _ (Value.ref _)) _ _ _); k_dflt (refine' unpackN_ (by k_asm) (by k_asm) (by refine News.isTup (by k_asm) (by k_mem)) (by (first | assumption | exact Room.h (by assumption) | exact Room.u_lt (by assumption) | exact Room.less (by assumption) (by decide))) (by exact rfl) (by exact rfl) ?_); intro _ _ _; (try k_sweep))) | ((with_reducible show wpAny _ _ (compareOp CmpOp.NotEq (Value.ref _) (Value.ref _)) _ _ _); with_reducible (k_here; k_dflt (refine' ne_dat (by (first | assumption | exact Room.h (by assumption) | exact Room.u_lt (by assumption) | exact Room.less (by assumption) (by decide))) (by k_asm) (by (first | (refine' BodyAt.dat (by walk_at "M rel")) | (refine' PlaceAt.dat (by walk_at "M rel")))) (by (first | (refine' BodyAt.dat (by walk_at "M rel")) | (refine' PlaceAt.dat (by walk_at "M rel")))) (by (first | exact body_can | exact place_can | exact row_can | exact body_depth | exact place_depth | exact row_depth)) (by (first | exact body_can | exact place_can | exact row_can | exact body_depth | exact place_depth | exact row_depth)) (by (first | exact body_can | exact place_can | exact row_can | exact body_depth | exact place_depth | exact row_depth)) (by exact rfl) ?_; k_whole))) | ((with_reducible show wpAny _ _ (call (Value.ref _) _) _ _ _); with_reducible (k_here; k_dflt (refine' aged_spec (by (first | assumption | exact Room.h (by assumption) | exact Room.u_lt (by assumption) | exact Room.less (by assumption) (by decide))) (by k_asm) (by k_asm) (by k_asm) (by k_asm) (by assumption) (by walk_at "M sub") ?_; k_whole); intro _ _ _ _ _ _ _ _; (try k_sweep))) | walk1 | (dsimp only; walk1) | (dsimp only; k_unfold; try dsimp only)))
  (refine' back_ (by k_asm) (by k_asm) ?_); intro kF kN; exact hQ _ _ kF kN
end

section
variable {prog : Program} {w : World} {A : Around} {s : Shared} {B : Heap} {L : Addr} {m mg mb : Str → Option Value} {led : List (Addr × Obj)} {p : Program} {loose : List Str} {mean : ExcName → Option Value} {Q E : Value → Shared → Prop} {rn : Nat}

def ChangedIf (es : List Ent) (r : Row) (b : Bool) : Prop := match findE es r.name with
  | none => b = true
  | some e => ¬ (e.row.num = r.num ∧ e.row.tot = r.tot ∧ e.row.fin = r.fin) → b = true

theorem put_none {imm : Led} {d rp la : Addr} {o : Obj} {es : List Ent} {r : Row} {now : Int} {tn : Tok} {gU : Obj → Led}
    (hR : Room A (rn + 10)) (F : Fr B L s.heap m) (X : (hd.heap_39 w.params).In B) (N : News B L s.heap (led)) (T : Top p loose mean mg mb B)
    (h1 : DbAt led d rp) (U : UpF rp o led gU) (hg : ∀ o', Sub imm (gU o')) (h3 : Rows prog w imm o es) (hs : Sub imm led) (h5 : 1 < rp) (h4 : RowAt imm la r) (hz : es.length ≤ 100)  (h6 : findE es r.name = none)
    (hQ : ∀ b new o' h' tk', Fr B L h' m → News B L h' (new ++ gU o') → Above led new → Rows prog w (new ++ imm) o' (putE es ⟨r, now⟩) → ChangedIf es r b → Q (.bool b) { s with heap := h', toks := tk' }) :
    wpAny (model prog w) A (call (.ref 93) [.ref d, .ref la, .int now tn]) Q E s := by
  have hm := U.mem
  have h4c := h4
  obtain ⟨hp, bp, r1, r2, r3⟩ := h4c
  have r1' := hs _ r1
  have r2' := r2.mono hs
  obtain ⟨dx, hsd, td, nd, d1, d2⟩ := h1
  have h1 : DbAt led d rp := ⟨dx, hsd, td, nd, d1, d2⟩
  refine callFn [("self", .ref d), ("lsa", .ref la), ("now", .int now tn)] F X N T (by k_is) (by k_is) (by (first | assumption | exact Room.h (by assumption) | exact Room.u_lt (by assumption) | exact Room.less (by assumption) (by decide))) (by first | exact BindsTo.of_eq rfl | exact binds_K (by k_in) rfl (by k_is) rfl rfl rfl) (locs rfl) ?_ rfl rfl rfl (by decide)
  intro g' L' h' F' N' X' T' hz' hR'
  clear F N X T hR
  k_fold
  (repeat' (first | (k_unfold; (try dsimp only)) | ((with_reducible show wpAny _ _ (newTuple _) _ _ _); with_reducible (k_here; k_dflt (refine' kup_newTuple (by k_asm) (by k_asm) ?_ (by exact Nat.le_of_ble_eq_true rfl)); intro _ _ _ _ _; (try k_sweep))) | ((with_reducible show wpAny _ _ (call (Value.ref _) _) _ _ _); (first | with_reducible (k_here; k_dflt (refine' is_changed_none (by (first | assumption | exact Room.h (by assumption) | exact Room.u_lt (by assumption) | exact Room.less (by assumption) (by decide))) (by k_asm) (by k_asm) (by k_asm) (by k_asm)  ?_; k_whole); intro _ _ _ _; (try k_sweep)) | with_reducible (k_here; k_dflt (refine' is_changed_spec (by (first | assumption | exact Room.h (by assumption) | exact Room.u_lt (by assumption) | exact Room.less (by assumption) (by decide))) (by k_asm) (by k_asm) (by k_asm) (by k_asm) (by walk_at "M rel") (by walk_at "M rel") ?_; k_whole); intro _ _ _ _ _ _; (try k_sweep)) | with_reducible (k_here; k_dflt (refine' look_some (by (first | assumption | exact Room.h (by assumption) | exact Room.u_lt (by assumption) | exact Room.less (by assumption) (by decide))) (by k_asm) (by k_asm) (by k_asm) (by k_asm) (by walk_at "M rel") (by k_mem) (by assumption) (by walk_at "M sub") (by walk_at "M rel") (by assumption) (by assumption) ?_; k_whole); intro _ _ _ _ _ _ _ _; (try k_sweep)) | with_reducible (k_here; k_dflt (refine' look_none (by (first | assumption | exact Room.h (by assumption) | exact Room.u_lt (by assumption) | exact Room.less (by assumption) (by decide))) (by k_asm) (by k_asm) (by k_asm) (by k_asm) (by walk_at "M rel") (by k_mem) (by assumption) (by walk_at "M sub") (by walk_at "M rel") (by assumption) (by assumption) ?_; k_whole); intro _ _ _ _; (try k_sweep)) | with_reducible (k_here; k_dflt (refine' key_of_spec (by (first | assumption | exact Room.h (by assumption) | exact Room.u_lt (by assumption) | exact Room.less (by assumption) (by decide))) (by k_asm) (by k_asm) (by k_asm) (by k_asm) (by walk_at "M rel") ?_; k_whole); intro _ _ _ _ _ _ _ _; (try k_sweep)))) | walk1 | (dsimp only; walk1) | (dsimp only; k_unfold; try dsimp only)))
  rename_i k1 new1 _ _ ab1 kd1 _ _ _ _ _ D1 _ F1 N1 l1
  refine rows_set ((D1, _) :: (new1 ++ imm)) (e := ⟨r, now⟩) hR' F1 N1 (by walk_at "M up") (by walk_at "M sub") (by walk_at "M sub") h3 (by walk_at "M rel") ⟨D1, la, tn, rfl, List.Mem.head _, RowAt.mono (by walk_at "M sub") h4⟩ (by omega) ?_
  clear F1 N1
  intro h2' o' tk2 F2 N3 R2
  have N2 : News g' L' h2' ((D1, _) :: (new1 ++ gU o')) := N3
  clear N3
  have hg1 := hg o'
  (repeat' (first | (k_unfold; (try dsimp only)) | ((with_reducible show wpAny _ _ (newTuple _) _ _ _); with_reducible (k_here; k_dflt (refine' kup_newTuple (by k_asm) (by k_asm) ?_ (by exact Nat.le_of_ble_eq_true rfl)); intro _ _ _ _ _; (try k_sweep))) | ((with_reducible show wpAny _ _ (call (Value.ref _) _) _ _ _); (first | with_reducible (k_here; k_dflt (refine' is_changed_none (by (first | assumption | exact Room.h (by assumption) | exact Room.u_lt (by assumption) | exact Room.less (by assumption) (by decide))) (by k_asm) (by k_asm) (by k_asm) (by k_asm)  ?_; k_whole); intro _ _ _ _; (try k_sweep)) | with_reducible (k_here; k_dflt (refine' is_changed_spec (by (first | assumption | exact Room.h (by assumption) | exact Room.u_lt (by assumption) | exact Room.less (by assumption) (by decide))) (by k_asm) (by k_asm) (by k_asm) (by k_asm) (by walk_at "M rel") (by walk_at "M rel") ?_; k_whole); intro _ _ _ _ _ _; (try k_sweep)) | with_reducible (k_here; k_dflt (refine' look_some (by (first | assumption | exact Room.h (by assumption) | exact Room.u_lt (by assumption) | exact Room.less (by assumption) (by decide))) (by k_asm) (by k_asm) (by k_asm) (by k_asm) (by walk_at "M rel") (by k_mem) (by assumption) (by walk_at "M sub") (by walk_at "M rel") (by assumption) (by assumption) ?_; k_whole); intro _ _ _ _ _ _ _ _; (try k_sweep)) | with_reducible (k_here; k_dflt (refine' look_none (by (first | assumption | exact Room.h (by assumption) | exact Room.u_lt (by assumption) | exact Room.less (by assumption) (by decide))) (by k_asm) (by k_asm) (by k_asm) (by k_asm) (by walk_at "M rel") (by k_mem) (by assumption) (by walk_at "M sub") (by walk_at "M rel") (by assumption) (by assumption) ?_; k_whole); intro _ _ _ _; (try k_sweep)) | with_reducible (k_here; k_dflt (refine' key_of_spec (by (first | assumption | exact Room.h (by assumption) | exact Room.u_lt (by assumption) | exact Room.less (by assumption) (by decide))) (by k_asm) (by k_asm) (by k_asm) (by k_asm) (by walk_at "M rel") ?_; k_whole); intro _ _ _ _ _ _ _ _; (try k_sweep)))) | walk1 | (dsimp only; walk1) | (dsimp only; k_unfold; try dsimp only)))
  (refine' back_ (by k_asm) (by k_asm) ?_); intro kF kN
  exact hQ _ ((D1, _) :: new1) _ _ _ kF kN (by walk_at "M above") R2 (by unfold ChangedIf; rw [h6])

theorem put_some {imm : Led} {d rp la : Addr} {o : Obj} {es : List Ent} {r : Row} {now : Int} {tn : Tok} {gU : Obj → Led} {e : Ent}
    (hR : Room A (rn + 10)) (F : Fr B L s.heap m) (X : (hd.heap_39 w.params).In B) (N : News B L s.heap (led)) (T : Top p loose mean mg mb B)
    (h1 : DbAt led d rp) (U : UpF rp o led gU) (hg : ∀ o', Sub imm (gU o')) (h3 : Rows prog w imm o es) (hs : Sub imm led) (h5 : 1 < rp) (h4 : RowAt imm la r) (hz : es.length ≤ 100)  (h6 : findE es r.name = some e)
    (hQ : ∀ b new o' h' tk', Fr B L h' m → News B L h' (new ++ gU o') → Above led new → Rows prog w (new ++ imm) o' (putE es ⟨r, now⟩) → ChangedIf es r b → Q (.bool b) { s with heap := h', toks := tk' }) :
    wpAny (model prog w) A (call (.ref 93) [.ref d, .ref la, .int now tn]) Q E s := by
  have hm := U.mem
  have h4c := h4
  obtain ⟨hp, bp, r1, r2, r3⟩ := h4c
  have r1' := hs _ r1
  have r2' := r2.mono hs
  obtain ⟨dx, hsd, td, nd, d1, d2⟩ := h1
  have h1 : DbAt led d rp := ⟨dx, hsd, td, nd, d1, d2⟩
  refine callFn [("self", .ref d), ("lsa", .ref la), ("now", .int now tn)] F X N T (by k_is) (by k_is) (by (first | assumption | exact Room.h (by assumption) | exact Room.u_lt (by assumption) | exact Room.less (by assumption) (by decide))) (by first | exact BindsTo.of_eq rfl | exact binds_K (by k_in) rfl (by k_is) rfl rfl rfl) (locs rfl) ?_ rfl rfl rfl (by decide)
  intro g' L' h' F' N' X' T' hz' hR'
  clear F N X T hR
  k_fold
  (repeat' (first | (k_unfold; (try dsimp only)) | ((with_reducible show wpAny _ _ (newTuple _) _ _ _); with_reducible (k_here; k_dflt (refine' kup_newTuple (by k_asm) (by k_asm) ?_ (by exact Nat.le_of_ble_eq_true rfl)); intro _ _ _ _ _; (try k_sweep))) | ((with_reducible show wpAny _ _ (call (Value.ref _) _) _ _ _); (first | with_reducible (k_here; k_dflt (refine' is_changed_none (by (first | assumption | exact Room.h (by assumption) | exact Room.u_lt (by assumption) | exact Room.less (by assumption) (by decide))) (by k_asm) (by k_asm) (by k_asm) (by k_asm)  ?_; k_whole); intro _ _ _ _; (try k_sweep)) | with_reducible (k_here; k_dflt (refine' is_changed_spec (by (first | assumption | exact Room.h (by assumption) | exact Room.u_lt (by assumption) | exact Room.less (by assumption) (by decide))) (by k_asm) (by k_asm) (by k_asm) (by k_asm) (by walk_at "M rel") (by walk_at "M rel") ?_; k_whole); intro _ _ _ _ _ _; (try k_sweep)) | with_reducible (k_here; k_dflt (refine' look_some (by (first | assumption | exact Room.h (by assumption) | exact Room.u_lt (by assumption) | exact Room.less (by assumption) (by decide))) (by k_asm) (by k_asm) (by k_asm) (by k_asm) (by walk_at "M rel") (by k_mem) (by assumption) (by walk_at "M sub") (by walk_at "M rel") (by assumption) (by assumption) ?_; k_whole); intro _ _ _ _ _ _ _ _; (try k_sweep)) | with_reducible (k_here; k_dflt (refine' look_none (by (first | assumption | exact Room.h (by assumption) | exact Room.u_lt (by assumption) | exact Room.less (by assumption) (by decide))) (by k_asm) (by k_asm) (by k_asm) (by k_asm) (by walk_at "M rel") (by k_mem) (by assumption) (by walk_at "M sub") (by walk_at "M rel") (by assumption) (by assumption) ?_; k_whole); intro _ _ _ _; (try k_sweep)) | with_reducible (k_here; k_dflt (refine' key_of_spec (by (first | assumption | exact Room.h (by assumption) | exact Room.u_lt (by assumption) | exact Room.less (by assumption) (by decide))) (by k_asm) (by k_asm) (by k_asm) (by k_asm) (by walk_at "M rel") ?_; k_whole); intro _ _ _ _ _ _ _ _; (try k_sweep)))) | walk1 | (dsimp only; walk1) | (dsimp only; k_unfold; try dsimp only)))
  rename_i k1 new1 _ _ ab1 kd1 _ _ k2 new2 _ _ ab2 rd2 _ D1 _ F1 N1 l1
  refine rows_set ((D1, _) :: (new2 ++ (new1 ++ imm))) (e := ⟨r, now⟩) hR' F1 N1 (by walk_at "M up") (by walk_at "M sub") (by walk_at "M sub") h3 (by walk_at "M rel") ⟨D1, la, tn, rfl, List.Mem.head _, RowAt.mono (by walk_at "M sub") h4⟩ (by omega) ?_
  clear F1 N1
  intro h2' o' tk2 F2 N3 R2
  have N2 : News g' L' h2' ((D1, _) :: (new2 ++ (new1 ++ gU o'))) := N3
  clear N3
  have hg1 := hg o'
  (repeat' (first | (k_unfold; (try dsimp only)) | ((with_reducible show wpAny _ _ (newTuple _) _ _ _); with_reducible (k_here; k_dflt (refine' kup_newTuple (by k_asm) (by k_asm) ?_ (by exact Nat.le_of_ble_eq_true rfl)); intro _ _ _ _ _; (try k_sweep))) | ((with_reducible show wpAny _ _ (call (Value.ref _) _) _ _ _); (first | with_reducible (k_here; k_dflt (refine' is_changed_none (by (first | assumption | exact Room.h (by assumption) | exact Room.u_lt (by assumption) | exact Room.less (by assumption) (by decide))) (by k_asm) (by k_asm) (by k_asm) (by k_asm)  ?_; k_whole); intro _ _ _ _; (try k_sweep)) | with_reducible (k_here; k_dflt (refine' is_changed_spec (by (first | assumption | exact Room.h (by assumption) | exact Room.u_lt (by assumption) | exact Room.less (by assumption) (by decide))) (by k_asm) (by k_asm) (by k_asm) (by k_asm) (by walk_at "M rel") (by walk_at "M rel") ?_; k_whole); intro _ _ _ _ _ _; (try k_sweep)) | with_reducible (k_here; k_dflt (refine' look_some (by (first | assumption | exact Room.h (by assumption) | exact Room.u_lt (by assumption) | exact Room.less (by assumption) (by decide))) (by k_asm) (by k_asm) (by k_asm) (by k_asm) (by walk_at "M rel") (by k_mem) (by assumption) (by walk_at "M sub") (by walk_at "M rel") (by assumption) (by assumption) ?_; k_whole); intro _ _ _ _ _ _ _ _; (try k_sweep)) | with_reducible (k_here; k_dflt (refine' look_none (by (first | assumption | exact Room.h (by assumption) | exact Room.u_lt (by assumption) | exact Room.less (by assumption) (by decide))) (by k_asm) (by k_asm) (by k_asm) (by k_asm) (by walk_at "M rel") (by k_mem) (by assumption) (by walk_at "M sub") (by walk_at "M rel") (by assumption) (by assumption) ?_; k_whole); intro _ _ _ _; (try k_sweep)) | with_reducible (k_here; k_dflt (refine' key_of_spec (by (first | assumption | exact Room.h (by assumption) | exact Room.u_lt (by assumption) | exact Room.less (by assumption) (by decide))) (by k_asm) (by k_asm) (by k_asm) (by k_asm) (by walk_at "M rel") ?_; k_whole); intro _ _ _ _ _ _ _ _; (try k_sweep)))) | walk1 | (dsimp only; walk1) | (dsimp only; k_unfold; try dsimp only)))
  rename_i e1
  (refine' back_ (by k_asm) (by k_asm) ?_); intro kF kN
  exact hQ _ ((D1, _) :: (new2 ++ new1)) _ _ _ kF (by (first | assumption | (simp only [List.append_assoc, List.cons_append, List.nil_append]; assumption))) (by walk_at "M above") (by simpa only [List.append_assoc, List.cons_append, List.nil_append] using R2) (by unfold ChangedIf; rw [h6]; exact e1)
end

section
variable {prog : Program} {w : World} {A : Around} {s : Shared} {B : Heap} {L : Addr} {m mg mb : Str → Option Value} {led : List (Addr × Obj)} {p : Program} {loose : List Str} {mean : ExcName → Option Value} {Q E : Value → Shared → Prop} {rn : Nat}

theorem fmod_ge {a b : Int} (h : 0 < b) : 0 ≤ a.fmod b := by
  rw [Int.fmod_eq_emod_of_nonneg _ (by omega)]; exact Int.emod_nonneg _ (by omega)

theorem draw_spec {bx l : Addr} {o ol : Obj} {vs : List Value} {ns : List Int} {k many : Int} {kt tm : Tok} {gU : Obj → Led}
    (hR : Room A (rn + 5)) (F : Fr B L s.heap m) (X : (hd.heap_39 w.params).In B) (N : News B L s.heap (led)) (T : Top p loose mean mg mb B)
    (U : UpF bx o led gU) (hU : ∀ o', (l, ol) ∈ gU o') (ho : LstO o [.ref l, .int k kt]) (hlo : LstO ol vs) (hi : IntsAre vs ns) (hz : vs.length ≤ 1000) (hk : 0 ≤ k) (hk1 : k ≤ 1000) (hm0 : 0 < many) (hm1 : many ≤ 1000)
    (hQ : ∀ v t t' o' h' tk', 0 ≤ v → v < many → Fr B L h' m → News B L h' (gU o') → LstO o' [.ref l, .int (k + 1) t'] → Q (.int v t) { s with heap := h', toks := tk' }) :
    wpAny (model prog w) A (call (.ref 183) [.ref bx, .int many tm]) Q E s := by
  have hm := U.mem
  refine callFn [("box", .ref bx), ("many", .int many tm)] F X N T (by k_is) (by k_is) (by (first | assumption | exact Room.h (by assumption) | exact Room.u_lt (by assumption) | exact Room.less (by assumption) (by decide))) (by first | exact BindsTo.of_eq rfl | exact binds_K (by k_in) rfl (by k_is) rfl rfl rfl) (locs rfl) ?_ rfl rfl rfl (by decide)
  intro g' L' h' F' N' X' T' hz' hR'
  clear F N X T hR
  k_fold
  (repeat' (first | (k_unfold; (try dsimp only)) | ((with_reducible show wpAny _ _ (newTuple _) _ _ _); with_reducible (k_here; k_dflt (refine' kup_newTuple (by k_asm) (by k_asm) ?_ (by exact Nat.le_of_ble_eq_true rfl)); intro _ _ _ _ _; (try k_sweep))) | ((with_reducible show wpAny _ _ (subscriptTail _ _ (Value.ref _) _) _ _ _); (first | with_reducible (k_here; (with_reducible show wpAny _ _ (subscriptTail _ _ (Value.ref _) (Value.int _ _)) _ _ _); k_dflt (refine' int_tail (by k_asm) (by k_mem) (by assumption) (by assumption) (by omega) (by omega) (by omega) ?_ (by with_unfolding_all rfl); k_whole); intro _ _) | with_reducible (k_here; (with_reducible show wpAny _ _ (subscriptTail _ _ (Value.ref _) (Value.int _ _)) _ _ _); k_dflt (refine' lst_tail (by k_asm) (by k_mem) (by assumption) (by decide) (by decide) (by exact rfl) ?_ (by with_unfolding_all rfl); k_whole)))) | ((with_reducible show wpAny _ _ (call (Value.builtin "len") _) _ _ _); with_reducible (k_here; (with_reducible show wpAny _ _ (call (Value.builtin "len") [Value.ref _]) _ _ _); k_dflt (refine' lst_len (by k_asm) (by k_mem) (by assumption) (by omega) ?_; k_whole); intro _ _)) | walk1 | (dsimp only; walk1) | (dsimp only; k_unfold; try dsimp only)))
  rename_i h1 F1 N1
  refine lst_set F1 N1 U ho (by decide) (by simp) (by simp) ?_
  clear F1 N1
  intro h2 o2 F2 N2 L2
  have hU1 := hU o2
  have hm2 := UpF.mem' U o2
  have L3 : LstO o2 [.ref l, .int (k + 1) _] := L2
  clear L2 ho
  try dsimp only
  (repeat' (first | (k_unfold; (try dsimp only)) | ((with_reducible show wpAny _ _ (newTuple _) _ _ _); with_reducible (k_here; k_dflt (refine' kup_newTuple (by k_asm) (by k_asm) ?_ (by exact Nat.le_of_ble_eq_true rfl)); intro _ _ _ _ _; (try k_sweep))) | ((with_reducible show wpAny _ _ (subscriptTail _ _ (Value.ref _) _) _ _ _); (first | with_reducible (k_here; (with_reducible show wpAny _ _ (subscriptTail _ _ (Value.ref _) (Value.int _ _)) _ _ _); k_dflt (refine' int_tail (by k_asm) (by k_mem) (by assumption) (by assumption) (by omega) (by omega) (by omega) ?_ (by with_unfolding_all rfl); k_whole); intro _ _) | with_reducible (k_here; (with_reducible show wpAny _ _ (subscriptTail _ _ (Value.ref _) (Value.int _ _)) _ _ _); k_dflt (refine' lst_tail (by k_asm) (by k_mem) (by assumption) (by decide) (by decide) (by exact rfl) ?_ (by with_unfolding_all rfl); k_whole)))) | ((with_reducible show wpAny _ _ (call (Value.builtin "len") _) _ _ _); with_reducible (k_here; (with_reducible show wpAny _ _ (call (Value.builtin "len") [Value.ref _]) _ _ _); k_dflt (refine' lst_len (by k_asm) (by k_mem) (by assumption) (by omega) ?_; k_whole); intro _ _)) | walk1 | (dsimp only; walk1) | (dsimp only; k_unfold; try dsimp only)))
  all_goals ((refine' back_ (by k_asm) (by k_asm) ?_); intro kF kN; exact hQ _ _ _ _ _ _ (fmod_ge hm0) (Int.fmod_lt_of_pos _ hm0) kF kN L3)

theorem row_spec {imm : Led} {pl : Addr} {n g u v : Int} {f : Bool} {tn tg : Tok}
    (hR : Room A (rn + 5)) (F : Fr B L s.heap m) (X : (hd.heap_39 w.params).In B) (N : News B L s.heap (led)) (T : Top p loose mean mg mb B)
    (h1 : PlaceAt imm pl u v f) (hs : Sub imm led)
    (hQ : ∀ k new h' tk', Fr B L h' m → News B L h' (new ++ led) → Above led new → RowAt (new ++ imm) k ⟨g, n, u, v, f⟩ → Q (.ref k) { s with heap := h', toks := tk' }) :
    wpAny (model prog w) A (call (.ref 190) [.int n tn, .ref pl, .int g tg]) Q E s := by
  have h1c := h1
  obtain ⟨t0, t1, h1'⟩ := h1c
  have h2' := hs _ h1'
  refine callFn [("name", .int n tn), ("place", .ref pl), ("age", .int g tg)] F X N T (by k_is) (by k_is) (by (first | assumption | exact Room.h (by assumption) | exact Room.u_lt (by assumption) | exact Room.less (by assumption) (by decide))) (by first | exact BindsTo.of_eq rfl | exact binds_K (by k_in) rfl (by k_is) rfl rfl rfl) (locs rfl) ?_ rfl rfl rfl (by decide)
  intro g' L' h' F' N' X' T' hz' hR'
  clear F N X T hR
  k_fold
  (repeat' (first | (k_unfold; (try dsimp only)) | ((with_reducible show wpAny _ _ (newTuple _) _ _ _); with_reducible (k_here; k_dflt (refine' kup_newTuple (by k_asm) (by k_asm) ?_ (by exact Nat.le_of_ble_eq_true rfl)); intro _ _ _ _ _; (try k_sweep))) | ((with_reducible show wpAny _ _ (subscriptTail _ _ (Value.ref _) _) _ _ _); (first | with_reducible (k_here; (with_reducible show wpAny _ _ (subscriptTail _ _ (Value.ref _) (Value.int _ _)) _ _ _); k_dflt (refine' int_tail (by k_asm) (by k_mem) (by assumption) (by assumption) (by omega) (by omega) (by omega) ?_ (by with_unfolding_all rfl); k_whole); intro _ _) | with_reducible (k_here; (with_reducible show wpAny _ _ (subscriptTail _ _ (Value.ref _) (Value.int _ _)) _ _ _); k_dflt (refine' lst_tail (by k_asm) (by k_mem) (by assumption) (by decide) (by decide) (by exact rfl) ?_ (by with_unfolding_all rfl); k_whole)))) | ((with_reducible show wpAny _ _ (call (Value.builtin "len") _) _ _ _); with_reducible (k_here; (with_reducible show wpAny _ _ (call (Value.builtin "len") [Value.ref _]) _ _ _); k_dflt (refine' lst_len (by k_asm) (by k_mem) (by assumption) (by omega) ?_; k_whole); intro _ _)) | walk1 | (dsimp only; walk1) | (dsimp only; k_unfold; try dsimp only)))
  rename_i D2 _ l2 D1 _ l1 D0 _ F1 N1 l0
  (refine' back_ (by k_asm) (by k_asm) ?_); intro kF kN
  exact hQ _ [_, _, _] _ _ kF kN (by walk_at "M above") ⟨_, _, List.Mem.head _, ⟨_, _, _, _, _, _, _, List.Mem.tail _ (List.Mem.tail _ (List.Mem.head _))⟩, ⟨_, _, _, List.Mem.tail _ (List.Mem.head _), PlaceAt.mono (by walk_at "M sub") h1⟩⟩
end

section
variable {prog : Program} {w : World} {A : Around} {s : Shared} {B : Heap} {L : Addr} {m mg mb : Str → Option Value} {led : List (Addr × Obj)} {p : Program} {loose : List Str} {mean : ExcName → Option Value} {Q E : Value → Shared → Prop} {rn : Nat}

def ToldRow (es : List Ent) (n : Int) (r : Row) : Prop := r.name = n ∧ ((r.fin = true ∧ r.age = 3600) ∨ (r.fin = false ∧ r.age = 0)) ∧
  match findE es n with
  | none => r.num = 1
  | some e => r.num ≤ e.row.num + 1 ∧ ¬ (e.row.num = r.num ∧ e.row.tot = r.tot ∧ e.row.fin = r.fin)

theorem told_spec {imm : Led} {bx l d kp rp : Addr} {bo ol ko ro : Obj} {vs : List Value} {ns : List Int} {es : List Ent} {n now k : Int} {kt tn tn2 : Tok}
    (hR : Room A (rn + 12)) (F : Fr B L s.heap m) (X : (hd.heap_39 w.params).In B) (N : News B L s.heap ((bx, bo) :: (kp, ko) :: (rp, ro) :: led)) (T : Top p loose mean mg mb B)
    (hb : LstO bo [.ref l, .int k kt]) (hl : (l, ol) ∈ led) (hlo : LstO ol vs) (hi : IntsAre vs ns) (hz : vs.length ≤ 1000) (hk : 0 ≤ k) (hk1 : k ≤ 1000)
    (o1 : Off bx led) (o2 : Off kp led) (o3 : Off rp led) (n1 : bx ≠ kp) (n2 : bx ≠ rp) (n3 : kp ≠ rp)
    (h1 : DbAt led d rp) (hK : Known prog w imm ko es) (hW : Rows prog w imm ro es) (hs : Sub imm led) (p1 : 1 < kp) (p2 : 1 < rp) (hz2 : es.length ≤ 100) 
    (hQ : ∀ r t' new bo' ko' ro' h' tk', ToldRow es n r → Fr B L h' m → News B L h' ((bx, bo') :: (kp, ko') :: (rp, ro') :: (new ++ led)) → Above ((bx, bo) :: (kp, ko) :: (rp, ro) :: led) new → LstO bo' [.ref l, .int (k + 1) t'] →
      Known prog w (new ++ imm) ko' (putE es ⟨r, now⟩) → Rows prog w (new ++ imm) ro' (putE es ⟨r, now⟩) → Q (.bool true) { s with heap := h', toks := tk' }) :
    wpAny (model prog w) A (call (.ref 197) [.ref bx, .ref d, .ref kp, .int n tn, .int now tn2]) Q E s := by
  skip
  refine callFn [("box", .ref bx), ("base", .ref d), ("known", .ref kp), ("name", .int n tn), ("now", .int now tn2)] F X N T (by k_is) (by k_is) (by (first | assumption | exact Room.h (by assumption) | exact Room.u_lt (by assumption) | exact Room.less (by assumption) (by decide))) (by first | exact BindsTo.of_eq rfl | exact binds_K (by k_in) rfl (by k_is) rfl rfl rfl) (locs rfl) ?_ rfl rfl rfl (by decide)
  intro g' L' h' F' N' X' T' hz' hR'
  clear F N X T hR
  k_fold
  refine execs_cut 4 (fun s' => Hold (∃ h' tk' m' pl u v f new bo' t', s' = ⟨h', s.gens, s.drawn, tk', s.os⟩ ∧ Fr g' L' h' m' ∧ News g' L' h' (new ++ ((bx, bo') :: (kp, ko) :: (rp, ro) :: led)) ∧ Above ((bx, bo) :: (kp, ko) :: (rp, ro) :: led) new ∧ LstO bo' [.ref l, .int (k + 1) t'] ∧
    PlaceAt new pl u v f ∧ (match findE es n with | none => u = 1 | some e => u ≤ e.row.num + 1 ∧ ¬ (e.row.num = u ∧ e.row.tot = v ∧ e.row.fin = f)) ∧
    m' (Str.ofString "place") = some (.ref pl) ∧ m' (Str.ofString "base") = some (.ref d) ∧ m' (Str.ofString "known") = some (.ref kp) ∧ m' (Str.ofString "name") = some (.int n tn) ∧ m' (Str.ofString "now") = some (.int now tn2))) ?_ ?_
  · simp only [List.take_succ_cons, List.take_zero]
    cases h6 : findE es n with
    | none =>
      intro zIQ zhI
      (repeat' (first | (k_unfold; (try dsimp only)) | ((with_reducible show wpAny _ _ (newTuple _) _ _ _); with_reducible (k_here; k_dflt (refine' kup_newTuple (by k_asm) (by k_asm) ?_ (by exact Nat.le_of_ble_eq_true rfl)); intro _ _ _ _ _; (try k_sweep))) | ((with_reducible show wpAny _ _ (compareOp CmpOp.In (Value.int _ _) (Value.ref _)) _ _ _); with_reducible (k_here; k_dflt (refine' known_in (by k_asm) (by k_mem) (by assumption) (by assumption) (by first | exact isSome_some (by assumption) | exact isSome_none (by assumption)) ?_; k_whole); intro _)) | ((with_reducible show wpAny _ _ (subscriptTail _ _ (Value.ref _) _) _ _ _); with_reducible (k_here; (with_reducible show wpAny _ _ (subscriptTail _ _ (Value.ref _) (Value.int _ _)) _ _ _); k_dflt (apply known_tail2; (case N => k_asm); (case hm => k_mem); (case R => assumption); (case hs => walk_at "M sub"); (case he => assumption); (case hu => with_unfolding_all rfl); k_whole); intro _ _ _ _ _ _ _ _ _ _)) | ((with_reducible show wpAny _ _ (assign (Expr.Tuple _ _ _) _ (Value.ref _)) _ _ _); with_reducible (k_here; (with_reducible show wpAny _ _ (assign (Expr.Tuple _ _ _) _ (Value.ref _)) _ _ _); k_dflt (refine' unpackN_ (by k_asm) (by k_asm) (by refine News.isTup (by k_asm) (by k_mem)) (by (first | assumption | exact Room.h (by assumption) | exact Room.u_lt (by assumption) | exact Room.less (by assumption) (by decide))) (by exact rfl) (by exact rfl) ?_); intro _ _ _; (try k_sweep))) | ((with_reducible show wpAny _ _ (eval (Expr.Name _ _) _) _ _ _); with_reducible (k_here; k_dflt (apply nameX_L; (case F => k_asm); (case hk => rfl); (case hx => rfl); (case hv => walk_at "M look"); (case hd => decide); k_whole))) | ((with_reducible show wpAny _ _ (call (Value.ref _) _) _ _ _); (first | with_reducible (k_here; k_dflt (refine' row_spec (by (first | assumption | exact Room.h (by assumption) | exact Room.u_lt (by assumption) | exact Room.less (by assumption) (by decide))) (by k_asm) (by k_asm) (by k_asm) (by k_asm) (by assumption) (by walk_at "M sub") ?_; k_whole); intro _ _ _ _ _ _ _ _; (try k_sweep)) | with_reducible (k_here; k_dflt (apply draw_spec; (case hR => (first | assumption | exact Room.h (by assumption) | exact Room.u_lt (by assumption) | exact Room.less (by assumption) (by decide))); (case F => k_asm); (case X => k_asm); (case N => k_asm); (case T => k_asm); (case U => walk_at "M up"); (case ho => assumption); (case hz => first | assumption | omega); (case hk => first | assumption | omega); (case hk1 => first | assumption | omega); (case hm0 => first | decide | omega); (case hm1 => first | decide | omega); (case hU => intro o9; k_mem); (case hlo => assumption); (case hi => assumption); k_whole); intro _ _ _ _ _ _ _ _ _; intro zN; (try dsimp only at zN); revert zN; intro _; intro _; (try k_sweep)))) | walk1 | (dsimp only; walk1) | (dsimp only; k_unfold; try dsimp only)))
      all_goals (try dsimp only)
      all_goals (refine zhI _ ?_; refine Hold.of ?_; refine' ⟨_, _, _, _, (0 + 1), 1, false, [_, _], _, _, rfl, ?zqF, ?zqN, ?zqa, ?zqb, ?zqc, ?zqd, ?zqe1, ?zqe2, ?zqe3, ?zqe4, ?zqe5⟩; (case zqF => assumption); (case zqN => assumption); (case zqa => walk_at "M above"); (case zqb => assumption); (case zqe1 => exact rfl); (case zqe2 => exact rfl); (case zqe3 => exact rfl); (case zqe4 => exact rfl); (case zqe5 => exact rfl); (case zqc => exact ⟨_, _, List.Mem.head _⟩); (case zqd => rfl))
    | some e =>
      intro zIQ zhI
      (repeat' (first | (k_unfold; (try dsimp only)) | ((with_reducible show wpAny _ _ (newTuple _) _ _ _); with_reducible (k_here; k_dflt (refine' kup_newTuple (by k_asm) (by k_asm) ?_ (by exact Nat.le_of_ble_eq_true rfl)); intro _ _ _ _ _; (try k_sweep))) | ((with_reducible show wpAny _ _ (compareOp CmpOp.In (Value.int _ _) (Value.ref _)) _ _ _); with_reducible (k_here; k_dflt (refine' known_in (by k_asm) (by k_mem) (by assumption) (by assumption) (by first | exact isSome_some (by assumption) | exact isSome_none (by assumption)) ?_; k_whole); intro _)) | ((with_reducible show wpAny _ _ (subscriptTail _ _ (Value.ref _) _) _ _ _); with_reducible (k_here; (with_reducible show wpAny _ _ (subscriptTail _ _ (Value.ref _) (Value.int _ _)) _ _ _); k_dflt (apply known_tail2; (case N => k_asm); (case hm => k_mem); (case R => assumption); (case hs => walk_at "M sub"); (case he => assumption); (case hu => with_unfolding_all rfl); k_whole); intro _ _ _ _ _ _ _ _ _ _)) | ((with_reducible show wpAny _ _ (assign (Expr.Tuple _ _ _) _ (Value.ref _)) _ _ _); with_reducible (k_here; (with_reducible show wpAny _ _ (assign (Expr.Tuple _ _ _) _ (Value.ref _)) _ _ _); k_dflt (refine' unpackN_ (by k_asm) (by k_asm) (by refine News.isTup (by k_asm) (by k_mem)) (by (first | assumption | exact Room.h (by assumption) | exact Room.u_lt (by assumption) | exact Room.less (by assumption) (by decide))) (by exact rfl) (by exact rfl) ?_); intro _ _ _; (try k_sweep))) | ((with_reducible show wpAny _ _ (eval (Expr.Name _ _) _) _ _ _); with_reducible (k_here; k_dflt (apply nameX_L; (case F => k_asm); (case hk => rfl); (case hx => rfl); (case hv => walk_at "M look"); (case hd => decide); k_whole))) | ((with_reducible show wpAny _ _ (call (Value.ref _) _) _ _ _); (first | with_reducible (k_here; k_dflt (refine' row_spec (by (first | assumption | exact Room.h (by assumption) | exact Room.u_lt (by assumption) | exact Room.less (by assumption) (by decide))) (by k_asm) (by k_asm) (by k_asm) (by k_asm) (by assumption) (by walk_at "M sub") ?_; k_whole); intro _ _ _ _ _ _ _ _; (try k_sweep)) | with_reducible (k_here; k_dflt (apply draw_spec; (case hR => (first | assumption | exact Room.h (by assumption) | exact Room.u_lt (by assumption) | exact Room.less (by assumption) (by decide))); (case F => k_asm); (case X => k_asm); (case N => k_asm); (case T => k_asm); (case U => walk_at "M up"); (case ho => assumption); (case hz => first | assumption | omega); (case hk => first | assumption | omega); (case hk1 => first | assumption | omega); (case hm0 => first | decide | omega); (case hm1 => first | decide | omega); (case hU => intro o9; k_mem); (case hlo => assumption); (case hi => assumption); k_whole); intro _ _ _ _ _ _ _ _ _; intro zN; (try dsimp only at zN); revert zN; intro _; intro _; (try k_sweep)))) | walk1 | (dsimp only; walk1) | (dsimp only; k_unfold; try dsimp only)))
      all_goals (try dsimp only)
      all_goals (refine zhI _ ?_; refine Hold.of ?_)
      all_goals (first
        | (refine' ⟨_, _, _, _, (e.row.num + 1), 1, false, [_], _, _, rfl, ?zqF, ?zqN, ?zqa, ?zqb, ?zqc, ?zqd, ?zqe1, ?zqe2, ?zqe3, ?zqe4, ?zqe5⟩; (case zqF => assumption); (case zqN => assumption); (case zqa => walk_at "M above"); (case zqb => assumption); (case zqe1 => exact rfl); (case zqe2 => exact rfl); (case zqe3 => exact rfl); (case zqe4 => exact rfl); (case zqe5 => exact rfl); (case zqc => exact ⟨_, _, List.Mem.head _⟩); (case zqd => exact ⟨Int.le_refl _, fun h => by omega⟩))
        | (refine' ⟨_, _, _, _, e.row.num, e.row.tot, true, [_, _], _, _, rfl, ?zqF, ?zqN, ?zqa, ?zqb, ?zqc, ?zqd, ?zqe1, ?zqe2, ?zqe3, ?zqe4, ?zqe5⟩; (case zqF => assumption); (case zqN => assumption); (case zqa => walk_at "M above"); (case zqb => assumption); (case zqe1 => exact rfl); (case zqe2 => exact rfl); (case zqe3 => exact rfl); (case zqe4 => exact rfl); (case zqe5 => exact rfl); (case zqc => exact ⟨_, _, List.Mem.head _⟩); (case zqd => exact ⟨by omega, fun h => by simp_all⟩))
        | (refine' ⟨_, _, _, _, e.row.num, (e.row.tot + 1), false, [_, _], _, _, rfl, ?zqF, ?zqN, ?zqa, ?zqb, ?zqc, ?zqd, ?zqe1, ?zqe2, ?zqe3, ?zqe4, ?zqe5⟩; (case zqF => assumption); (case zqN => assumption); (case zqa => walk_at "M above"); (case zqb => assumption); (case zqe1 => exact rfl); (case zqe2 => exact rfl); (case zqe3 => exact rfl); (case zqe4 => exact rfl); (case zqe5 => exact rfl); (case zqc => exact ⟨_, _, List.Mem.head _⟩); (case zqd => exact ⟨by omega, fun h => by omega⟩))
        | trace_state)
  · rintro s' ⟨h1', tk1, m1, pl, u, v, f, new1, bo1, t1, rfl, F1, N1, ab1, lb1, pa1, pc1, q1, q2, q3, q4, q5⟩
    simp only [List.drop_succ_cons, List.drop_zero]
    clear hb F' N'
    have ha1 := pa1
    obtain ⟨dx, hsd, td, nd, d1, d2⟩ : DbAt led d rp := h1
    have h1 : DbAt led d rp := ⟨dx, hsd, td, nd, d1, d2⟩
    obtain ⟨t3, t4, hpl⟩ := ha1
    cases f
    · (repeat' (first | (k_unfold; (try dsimp only)) | ((with_reducible show wpAny _ _ (newTuple _) _ _ _); with_reducible (k_here; k_dflt (refine' kup_newTuple (by k_asm) (by k_asm) ?_ (by exact Nat.le_of_ble_eq_true rfl)); intro _ _ _ _ _; (try k_sweep))) | ((with_reducible show wpAny _ _ (compareOp CmpOp.In (Value.int _ _) (Value.ref _)) _ _ _); with_reducible (k_here; k_dflt (refine' known_in (by k_asm) (by k_mem) (by assumption) (by assumption) (by first | exact isSome_some (by assumption) | exact isSome_none (by assumption)) ?_; k_whole); intro _)) | ((with_reducible show wpAny _ _ (subscriptTail _ _ (Value.ref _) _) _ _ _); with_reducible (k_here; (with_reducible show wpAny _ _ (subscriptTail _ _ (Value.ref _) (Value.int _ _)) _ _ _); k_dflt (apply known_tail2; (case N => k_asm); (case hm => k_mem); (case R => assumption); (case hs => walk_at "M sub"); (case he => assumption); (case hu => with_unfolding_all rfl); k_whole); intro _ _ _ _ _ _ _ _ _ _)) | ((with_reducible show wpAny _ _ (assign (Expr.Tuple _ _ _) _ (Value.ref _)) _ _ _); with_reducible (k_here; (with_reducible show wpAny _ _ (assign (Expr.Tuple _ _ _) _ (Value.ref _)) _ _ _); k_dflt (refine' unpackN_ (by k_asm) (by k_asm) (by refine News.isTup (by k_asm) (by k_mem)) (by (first | assumption | exact Room.h (by assumption) | exact Room.u_lt (by assumption) | exact Room.less (by assumption) (by decide))) (by exact rfl) (by exact rfl) ?_); intro _ _ _; (try k_sweep))) | ((with_reducible show wpAny _ _ (eval (Expr.Name _ _) _) _ _ _); with_reducible (k_here; k_dflt (apply nameX_L; (case F => k_asm); (case hk => rfl); (case hx => rfl); (case hv => walk_at "M look"); (case hd => decide); k_whole))) | ((with_reducible show wpAny _ _ (call (Value.ref _) _) _ _ _); (first | with_reducible (k_here; k_dflt (refine' row_spec (by (first | assumption | exact Room.h (by assumption) | exact Room.u_lt (by assumption) | exact Room.less (by assumption) (by decide))) (by k_asm) (by k_asm) (by k_asm) (by k_asm) (by assumption) (by walk_at "M sub") ?_; k_whole); intro _ _ _ _ _ _ _ _; (try k_sweep)) | with_reducible (k_here; k_dflt (apply draw_spec; (case hR => (first | assumption | exact Room.h (by assumption) | exact Room.u_lt (by assumption) | exact Room.less (by assumption) (by decide))); (case F => k_asm); (case X => k_asm); (case N => k_asm); (case T => k_asm); (case U => walk_at "M up"); (case ho => assumption); (case hz => first | assumption | omega); (case hk => first | assumption | omega); (case hk1 => first | assumption | omega); (case hm0 => first | decide | omega); (case hm1 => first | decide | omega); (case hU => intro o9; k_mem); (case hlo => assumption); (case hi => assumption); k_whole); intro _ _ _ _ _ _ _ _ _; intro zN; (try dsimp only at zN); revert zN; intro _; intro _; (try k_sweep)))) | walk1 | (dsimp only; walk1) | (dsimp only; k_unfold; try dsimp only)))
      rename_i D1 h2 F2 N20 l1
      obtain ⟨t5, t6, N2⟩ : ∃ t5 t6, News g' L' h2 ((D1, tupO [.ref pl, .int 0 t5, .int now t6]) :: (new1 ++ ((bx, bo1) :: (kp, ko) :: (rp, ro) :: led))) := ⟨_, _, N20⟩
      refine known_set (e := ⟨⟨0, n, u, v, false⟩, now⟩) ((D1, tupO [.ref pl, .int 0 t5, .int now t6]) :: (new1 ++ imm)) F2 N2 (by walk_at "M up") (by walk_at "M sub") hK ⟨D1, pl, _, _, rfl, List.Mem.head _, PlaceAt.mono (by walk_at "M sub") pa1⟩ (by omega) ?_
      clear F2 N2 N20
      intro h3 ko1 tk3 F3 N3' K3
      have N3 : News g' L' h3 ((D1, tupO [.ref pl, .int 0 t5, .int now t6]) :: (new1 ++ ((bx, bo1) :: (kp, ko1) :: (rp, ro) :: led))) := N3'
      clear N3'
      have hfe : findE (putE es ⟨⟨0, n, u, v, false⟩, now⟩) n = some ⟨⟨0, n, u, v, false⟩, now⟩ := findE_put es _
      have hmk : (kp, ko1) ∈ ((D1, tupO [.ref pl, .int 0 t5, .int now t6]) :: (new1 ++ ((bx, bo1) :: (kp, ko1) :: (rp, ro) :: led))) := by k_mem
      (repeat' (first | (k_unfold; (try dsimp only)) | ((with_reducible show wpAny _ _ (newTuple _) _ _ _); with_reducible (k_here; k_dflt (refine' kup_newTuple (by k_asm) (by k_asm) ?_ (by exact Nat.le_of_ble_eq_true rfl)); intro _ _ _ _ _; (try k_sweep))) | ((with_reducible show wpAny _ _ (compareOp CmpOp.In (Value.int _ _) (Value.ref _)) _ _ _); with_reducible (k_here; k_dflt (refine' known_in (by k_asm) (by k_mem) (by assumption) (by assumption) (by first | exact isSome_some (by assumption) | exact isSome_none (by assumption)) ?_; k_whole); intro _)) | ((with_reducible show wpAny _ _ (subscriptTail _ _ (Value.ref _) _) _ _ _); with_reducible (k_here; (with_reducible show wpAny _ _ (subscriptTail _ _ (Value.ref _) (Value.int _ _)) _ _ _); k_dflt (apply known_tail2; (case N => k_asm); (case hm => k_mem); (case R => assumption); (case hs => walk_at "M sub"); (case he => assumption); (case hu => with_unfolding_all rfl); k_whole); intro _ _ _ _ _ _ _ _ _ _)) | ((with_reducible show wpAny _ _ (assign (Expr.Tuple _ _ _) _ (Value.ref _)) _ _ _); with_reducible (k_here; (with_reducible show wpAny _ _ (assign (Expr.Tuple _ _ _) _ (Value.ref _)) _ _ _); k_dflt (refine' unpackN_ (by k_asm) (by k_asm) (by refine News.isTup (by k_asm) (by k_mem)) (by (first | assumption | exact Room.h (by assumption) | exact Room.u_lt (by assumption) | exact Room.less (by assumption) (by decide))) (by exact rfl) (by exact rfl) ?_); intro _ _ _; (try k_sweep))) | ((with_reducible show wpAny _ _ (eval (Expr.Name _ _) _) _ _ _); with_reducible (k_here; k_dflt (apply nameX_L; (case F => k_asm); (case hk => rfl); (case hx => rfl); (case hv => walk_at "M look"); (case hd => decide); k_whole))) | ((with_reducible show wpAny _ _ (call (Value.ref _) _) _ _ _); (first | with_reducible (k_here; k_dflt (refine' row_spec (by (first | assumption | exact Room.h (by assumption) | exact Room.u_lt (by assumption) | exact Room.less (by assumption) (by decide))) (by k_asm) (by k_asm) (by k_asm) (by k_asm) (by assumption) (by walk_at "M sub") ?_; k_whole); intro _ _ _ _ _ _ _ _; (try k_sweep)) | with_reducible (k_here; k_dflt (apply draw_spec; (case hR => (first | assumption | exact Room.h (by assumption) | exact Room.u_lt (by assumption) | exact Room.less (by assumption) (by decide))); (case F => k_asm); (case X => k_asm); (case N => k_asm); (case T => k_asm); (case U => walk_at "M up"); (case ho => assumption); (case hz => first | assumption | omega); (case hk => first | assumption | omega); (case hk1 => first | assumption | omega); (case hm0 => first | decide | omega); (case hm1 => first | decide | omega); (case hU => intro o9; k_mem); (case hlo => assumption); (case hi => assumption); k_whole); intro _ _ _ _ _ _ _ _ _; intro zN; (try dsimp only at zN); revert zN; intro _; intro _; (try k_sweep)))) | walk1 | (dsimp only; walk1) | (dsimp only; k_unfold; try dsimp only)))
      rename_i k3 new3 h4 tk4 F4 N4 ab3 rd3
      have hW3 : Rows prog w (new3 ++ (new1 ++ imm)) ro es := Rows.mono (by walk_at "M sub") hW
      cases h6 : findE es n with
      | none =>
        refine put_none (imm := new3 ++ (new1 ++ imm)) hR' F4 X' N4 T' (DbAt.mono (by walk_at "M sub") h1) (by walk_at "M up") (by intro o9; walk_at "M sub") hW3 (by walk_at "M sub") p2 (RowAt.mono (by walk_at "M sub") rd3) hz2 h6 ?_
        clear F4 N4
        intro b new4 ro1 h5 tk5 F5 N5 ab5 R5 c5
        (repeat' (first | (k_unfold; (try dsimp only)) | ((with_reducible show wpAny _ _ (newTuple _) _ _ _); with_reducible (k_here; k_dflt (refine' kup_newTuple (by k_asm) (by k_asm) ?_ (by exact Nat.le_of_ble_eq_true rfl)); intro _ _ _ _ _; (try k_sweep))) | ((with_reducible show wpAny _ _ (compareOp CmpOp.In (Value.int _ _) (Value.ref _)) _ _ _); with_reducible (k_here; k_dflt (refine' known_in (by k_asm) (by k_mem) (by assumption) (by assumption) (by first | exact isSome_some (by assumption) | exact isSome_none (by assumption)) ?_; k_whole); intro _)) | ((with_reducible show wpAny _ _ (subscriptTail _ _ (Value.ref _) _) _ _ _); with_reducible (k_here; (with_reducible show wpAny _ _ (subscriptTail _ _ (Value.ref _) (Value.int _ _)) _ _ _); k_dflt (apply known_tail2; (case N => k_asm); (case hm => k_mem); (case R => assumption); (case hs => walk_at "M sub"); (case he => assumption); (case hu => with_unfolding_all rfl); k_whole); intro _ _ _ _ _ _ _ _ _ _)) | ((with_reducible show wpAny _ _ (assign (Expr.Tuple _ _ _) _ (Value.ref _)) _ _ _); with_reducible (k_here; (with_reducible show wpAny _ _ (assign (Expr.Tuple _ _ _) _ (Value.ref _)) _ _ _); k_dflt (refine' unpackN_ (by k_asm) (by k_asm) (by refine News.isTup (by k_asm) (by k_mem)) (by (first | assumption | exact Room.h (by assumption) | exact Room.u_lt (by assumption) | exact Room.less (by assumption) (by decide))) (by exact rfl) (by exact rfl) ?_); intro _ _ _; (try k_sweep))) | ((with_reducible show wpAny _ _ (eval (Expr.Name _ _) _) _ _ _); with_reducible (k_here; k_dflt (apply nameX_L; (case F => k_asm); (case hk => rfl); (case hx => rfl); (case hv => walk_at "M look"); (case hd => decide); k_whole))) | ((with_reducible show wpAny _ _ (call (Value.ref _) _) _ _ _); (first | with_reducible (k_here; k_dflt (refine' row_spec (by (first | assumption | exact Room.h (by assumption) | exact Room.u_lt (by assumption) | exact Room.less (by assumption) (by decide))) (by k_asm) (by k_asm) (by k_asm) (by k_asm) (by assumption) (by walk_at "M sub") ?_; k_whole); intro _ _ _ _ _ _ _ _; (try k_sweep)) | with_reducible (k_here; k_dflt (apply draw_spec; (case hR => (first | assumption | exact Room.h (by assumption) | exact Room.u_lt (by assumption) | exact Room.less (by assumption) (by decide))); (case F => k_asm); (case X => k_asm); (case N => k_asm); (case T => k_asm); (case U => walk_at "M up"); (case ho => assumption); (case hz => first | assumption | omega); (case hk => first | assumption | omega); (case hk1 => first | assumption | omega); (case hm0 => first | decide | omega); (case hm1 => first | decide | omega); (case hU => intro o9; k_mem); (case hlo => assumption); (case hi => assumption); k_whole); intro _ _ _ _ _ _ _ _ _; intro zN; (try dsimp only at zN); revert zN; intro _; intro _; (try k_sweep)))) | walk1 | (dsimp only; walk1) | (dsimp only; k_unfold; try dsimp only)))
        unfold ChangedIf at c5
        rw [h6] at c5 pc1
        have hb1 : b = true := c5
        subst hb1
        (refine' back_ (by k_asm) (by k_asm) ?_); intro kF kN
        exact hQ ⟨0, n, u, v, false⟩ _ (new4 ++ (new3 ++ ((D1, tupO [.ref pl, .int 0 t5, .int now t6]) :: new1))) bo1 ko1 ro1 _ _ ⟨rfl, Or.inr ⟨rfl, rfl⟩, by rw [h6]; exact pc1⟩ kF (News.sub kN (by walk_at "M sub")) (by walk_at "M above") lb1
          (by simpa only [List.append_assoc, List.cons_append] using Known.mono (led' := new4 ++ (new3 ++ ((D1, tupO [.ref pl, .int 0 t5, .int now t6]) :: (new1 ++ imm)))) (by walk_at "M sub") K3)
          (by simpa only [List.append_assoc, List.cons_append] using Rows.mono (led' := new4 ++ (new3 ++ ((D1, tupO [.ref pl, .int 0 t5, .int now t6]) :: (new1 ++ imm)))) (by walk_at "M sub") R5)
      | some e =>
        refine put_some (imm := new3 ++ (new1 ++ imm)) hR' F4 X' N4 T' (DbAt.mono (by walk_at "M sub") h1) (by walk_at "M up") (by intro o9; walk_at "M sub") hW3 (by walk_at "M sub") p2 (RowAt.mono (by walk_at "M sub") rd3) hz2 h6 ?_
        clear F4 N4
        intro b new4 ro1 h5 tk5 F5 N5 ab5 R5 c5
        (repeat' (first | (k_unfold; (try dsimp only)) | ((with_reducible show wpAny _ _ (newTuple _) _ _ _); with_reducible (k_here; k_dflt (refine' kup_newTuple (by k_asm) (by k_asm) ?_ (by exact Nat.le_of_ble_eq_true rfl)); intro _ _ _ _ _; (try k_sweep))) | ((with_reducible show wpAny _ _ (compareOp CmpOp.In (Value.int _ _) (Value.ref _)) _ _ _); with_reducible (k_here; k_dflt (refine' known_in (by k_asm) (by k_mem) (by assumption) (by assumption) (by first | exact isSome_some (by assumption) | exact isSome_none (by assumption)) ?_; k_whole); intro _)) | ((with_reducible show wpAny _ _ (subscriptTail _ _ (Value.ref _) _) _ _ _); with_reducible (k_here; (with_reducible show wpAny _ _ (subscriptTail _ _ (Value.ref _) (Value.int _ _)) _ _ _); k_dflt (apply known_tail2; (case N => k_asm); (case hm => k_mem); (case R => assumption); (case hs => walk_at "M sub"); (case he => assumption); (case hu => with_unfolding_all rfl); k_whole); intro _ _ _ _ _ _ _ _ _ _)) | ((with_reducible show wpAny _ _ (assign (Expr.Tuple _ _ _) _ (Value.ref _)) _ _ _); with_reducible (k_here; (with_reducible show wpAny _ _ (assign (Expr.Tuple _ _ _) _ (Value.ref _)) _ _ _); k_dflt (refine' unpackN_ (by k_asm) (by k_asm) (by refine News.isTup (by k_asm) (by k_mem)) (by (first | assumption | exact Room.h (by assumption) | exact Room.u_lt (by assumption) | exact Room.less (by assumption) (by decide))) (by exact rfl) (by exact rfl) ?_); intro _ _ _; (try k_sweep))) | ((with_reducible show wpAny _ _ (eval (Expr.Name _ _) _) _ _ _); with_reducible (k_here; k_dflt (apply nameX_L; (case F => k_asm); (case hk => rfl); (case hx => rfl); (case hv => walk_at "M look"); (case hd => decide); k_whole))) | ((with_reducible show wpAny _ _ (call (Value.ref _) _) _ _ _); (first | with_reducible (k_here; k_dflt (refine' row_spec (by (first | assumption | exact Room.h (by assumption) | exact Room.u_lt (by assumption) | exact Room.less (by assumption) (by decide))) (by k_asm) (by k_asm) (by k_asm) (by k_asm) (by assumption) (by walk_at "M sub") ?_; k_whole); intro _ _ _ _ _ _ _ _; (try k_sweep)) | with_reducible (k_here; k_dflt (apply draw_spec; (case hR => (first | assumption | exact Room.h (by assumption) | exact Room.u_lt (by assumption) | exact Room.less (by assumption) (by decide))); (case F => k_asm); (case X => k_asm); (case N => k_asm); (case T => k_asm); (case U => walk_at "M up"); (case ho => assumption); (case hz => first | assumption | omega); (case hk => first | assumption | omega); (case hk1 => first | assumption | omega); (case hm0 => first | decide | omega); (case hm1 => first | decide | omega); (case hU => intro o9; k_mem); (case hlo => assumption); (case hi => assumption); k_whole); intro _ _ _ _ _ _ _ _ _; intro zN; (try dsimp only at zN); revert zN; intro _; intro _; (try k_sweep)))) | walk1 | (dsimp only; walk1) | (dsimp only; k_unfold; try dsimp only)))
        unfold ChangedIf at c5
        rw [h6] at c5 pc1
        have hb1 : b = true := c5 pc1.2
        subst hb1
        (refine' back_ (by k_asm) (by k_asm) ?_); intro kF kN
        exact hQ ⟨0, n, u, v, false⟩ _ (new4 ++ (new3 ++ ((D1, tupO [.ref pl, .int 0 t5, .int now t6]) :: new1))) bo1 ko1 ro1 _ _ ⟨rfl, Or.inr ⟨rfl, rfl⟩, by rw [h6]; exact ⟨pc1.1, pc1.2⟩⟩ kF (News.sub kN (by walk_at "M sub")) (by walk_at "M above") lb1
          (by simpa only [List.append_assoc, List.cons_append] using Known.mono (led' := new4 ++ (new3 ++ ((D1, tupO [.ref pl, .int 0 t5, .int now t6]) :: (new1 ++ imm)))) (by walk_at "M sub") K3)
          (by simpa only [List.append_assoc, List.cons_append] using Rows.mono (led' := new4 ++ (new3 ++ ((D1, tupO [.ref pl, .int 0 t5, .int now t6]) :: (new1 ++ imm)))) (by walk_at "M sub") R5)
    · (repeat' (first | (k_unfold; (try dsimp only)) | ((with_reducible show wpAny _ _ (newTuple _) _ _ _); with_reducible (k_here; k_dflt (refine' kup_newTuple (by k_asm) (by k_asm) ?_ (by exact Nat.le_of_ble_eq_true rfl)); intro _ _ _ _ _; (try k_sweep))) | ((with_reducible show wpAny _ _ (compareOp CmpOp.In (Value.int _ _) (Value.ref _)) _ _ _); with_reducible (k_here; k_dflt (refine' known_in (by k_asm) (by k_mem) (by assumption) (by assumption) (by first | exact isSome_some (by assumption) | exact isSome_none (by assumption)) ?_; k_whole); intro _)) | ((with_reducible show wpAny _ _ (subscriptTail _ _ (Value.ref _) _) _ _ _); with_reducible (k_here; (with_reducible show wpAny _ _ (subscriptTail _ _ (Value.ref _) (Value.int _ _)) _ _ _); k_dflt (apply known_tail2; (case N => k_asm); (case hm => k_mem); (case R => assumption); (case hs => walk_at "M sub"); (case he => assumption); (case hu => with_unfolding_all rfl); k_whole); intro _ _ _ _ _ _ _ _ _ _)) | ((with_reducible show wpAny _ _ (assign (Expr.Tuple _ _ _) _ (Value.ref _)) _ _ _); with_reducible (k_here; (with_reducible show wpAny _ _ (assign (Expr.Tuple _ _ _) _ (Value.ref _)) _ _ _); k_dflt (refine' unpackN_ (by k_asm) (by k_asm) (by refine News.isTup (by k_asm) (by k_mem)) (by (first | assumption | exact Room.h (by assumption) | exact Room.u_lt (by assumption) | exact Room.less (by assumption) (by decide))) (by exact rfl) (by exact rfl) ?_); intro _ _ _; (try k_sweep))) | ((with_reducible show wpAny _ _ (eval (Expr.Name _ _) _) _ _ _); with_reducible (k_here; k_dflt (apply nameX_L; (case F => k_asm); (case hk => rfl); (case hx => rfl); (case hv => walk_at "M look"); (case hd => decide); k_whole))) | ((with_reducible show wpAny _ _ (call (Value.ref _) _) _ _ _); (first | with_reducible (k_here; k_dflt (refine' row_spec (by (first | assumption | exact Room.h (by assumption) | exact Room.u_lt (by assumption) | exact Room.less (by assumption) (by decide))) (by k_asm) (by k_asm) (by k_asm) (by k_asm) (by assumption) (by walk_at "M sub") ?_; k_whole); intro _ _ _ _ _ _ _ _; (try k_sweep)) | with_reducible (k_here; k_dflt (apply draw_spec; (case hR => (first | assumption | exact Room.h (by assumption) | exact Room.u_lt (by assumption) | exact Room.less (by assumption) (by decide))); (case F => k_asm); (case X => k_asm); (case N => k_asm); (case T => k_asm); (case U => walk_at "M up"); (case ho => assumption); (case hz => first | assumption | omega); (case hk => first | assumption | omega); (case hk1 => first | assumption | omega); (case hm0 => first | decide | omega); (case hm1 => first | decide | omega); (case hU => intro o9; k_mem); (case hlo => assumption); (case hi => assumption); k_whole); intro _ _ _ _ _ _ _ _ _; intro zN; (try dsimp only at zN); revert zN; intro _; intro _; (try k_sweep)))) | walk1 | (dsimp only; walk1) | (dsimp only; k_unfold; try dsimp only)))
      rename_i D1 h2 F2 N20 l1
      obtain ⟨t5, t6, N2⟩ : ∃ t5 t6, News g' L' h2 ((D1, tupO [.ref pl, .int 3600 t5, .int now t6]) :: (new1 ++ ((bx, bo1) :: (kp, ko) :: (rp, ro) :: led))) := ⟨_, _, N20⟩
      refine known_set (e := ⟨⟨3600, n, u, v, true⟩, now⟩) ((D1, tupO [.ref pl, .int 3600 t5, .int now t6]) :: (new1 ++ imm)) F2 N2 (by walk_at "M up") (by walk_at "M sub") hK ⟨D1, pl, _, _, rfl, List.Mem.head _, PlaceAt.mono (by walk_at "M sub") pa1⟩ (by omega) ?_
      clear F2 N2 N20
      intro h3 ko1 tk3 F3 N3' K3
      have N3 : News g' L' h3 ((D1, tupO [.ref pl, .int 3600 t5, .int now t6]) :: (new1 ++ ((bx, bo1) :: (kp, ko1) :: (rp, ro) :: led))) := N3'
      clear N3'
      have hfe : findE (putE es ⟨⟨3600, n, u, v, true⟩, now⟩) n = some ⟨⟨3600, n, u, v, true⟩, now⟩ := findE_put es _
      have hmk : (kp, ko1) ∈ ((D1, tupO [.ref pl, .int 3600 t5, .int now t6]) :: (new1 ++ ((bx, bo1) :: (kp, ko1) :: (rp, ro) :: led))) := by k_mem
      (repeat' (first | (k_unfold; (try dsimp only)) | ((with_reducible show wpAny _ _ (newTuple _) _ _ _); with_reducible (k_here; k_dflt (refine' kup_newTuple (by k_asm) (by k_asm) ?_ (by exact Nat.le_of_ble_eq_true rfl)); intro _ _ _ _ _; (try k_sweep))) | ((with_reducible show wpAny _ _ (compareOp CmpOp.In (Value.int _ _) (Value.ref _)) _ _ _); with_reducible (k_here; k_dflt (refine' known_in (by k_asm) (by k_mem) (by assumption) (by assumption) (by first | exact isSome_some (by assumption) | exact isSome_none (by assumption)) ?_; k_whole); intro _)) | ((with_reducible show wpAny _ _ (subscriptTail _ _ (Value.ref _) _) _ _ _); with_reducible (k_here; (with_reducible show wpAny _ _ (subscriptTail _ _ (Value.ref _) (Value.int _ _)) _ _ _); k_dflt (apply known_tail2; (case N => k_asm); (case hm => k_mem); (case R => assumption); (case hs => walk_at "M sub"); (case he => assumption); (case hu => with_unfolding_all rfl); k_whole); intro _ _ _ _ _ _ _ _ _ _)) | ((with_reducible show wpAny _ _ (assign (Expr.Tuple _ _ _) _ (Value.ref _)) _ _ _); with_reducible (k_here; (with_reducible show wpAny _ _ (assign (Expr.Tuple _ _ _) _ (Value.ref _)) _ _ _); k_dflt (refine' unpackN_ (by k_asm) (by k_asm) (by refine News.isTup (by k_asm) (by k_mem)) (by (first | assumption | exact Room.h (by assumption) | exact Room.u_lt (by assumption) | exact Room.less (by assumption) (by decide))) (by exact rfl) (by exact rfl) ?_); intro _ _ _; (try k_sweep))) | ((with_reducible show wpAny _ _ (eval (Expr.Name _ _) _) _ _ _); with_reducible (k_here; k_dflt (apply nameX_L; (case F => k_asm); (case hk => rfl); (case hx => rfl); (case hv => walk_at "M look"); (case hd => decide); k_whole))) | ((with_reducible show wpAny _ _ (call (Value.ref _) _) _ _ _); (first | with_reducible (k_here; k_dflt (refine' row_spec (by (first | assumption | exact Room.h (by assumption) | exact Room.u_lt (by assumption) | exact Room.less (by assumption) (by decide))) (by k_asm) (by k_asm) (by k_asm) (by k_asm) (by assumption) (by walk_at "M sub") ?_; k_whole); intro _ _ _ _ _ _ _ _; (try k_sweep)) | with_reducible (k_here; k_dflt (apply draw_spec; (case hR => (first | assumption | exact Room.h (by assumption) | exact Room.u_lt (by assumption) | exact Room.less (by assumption) (by decide))); (case F => k_asm); (case X => k_asm); (case N => k_asm); (case T => k_asm); (case U => walk_at "M up"); (case ho => assumption); (case hz => first | assumption | omega); (case hk => first | assumption | omega); (case hk1 => first | assumption | omega); (case hm0 => first | decide | omega); (case hm1 => first | decide | omega); (case hU => intro o9; k_mem); (case hlo => assumption); (case hi => assumption); k_whole); intro _ _ _ _ _ _ _ _ _; intro zN; (try dsimp only at zN); revert zN; intro _; intro _; (try k_sweep)))) | walk1 | (dsimp only; walk1) | (dsimp only; k_unfold; try dsimp only)))
      rename_i k3 new3 h4 tk4 F4 N4 ab3 rd3
      have hW3 : Rows prog w (new3 ++ (new1 ++ imm)) ro es := Rows.mono (by walk_at "M sub") hW
      cases h6 : findE es n with
      | none =>
        refine put_none (imm := new3 ++ (new1 ++ imm)) hR' F4 X' N4 T' (DbAt.mono (by walk_at "M sub") h1) (by walk_at "M up") (by intro o9; walk_at "M sub") hW3 (by walk_at "M sub") p2 (RowAt.mono (by walk_at "M sub") rd3) hz2 h6 ?_
        clear F4 N4
        intro b new4 ro1 h5 tk5 F5 N5 ab5 R5 c5
        (repeat' (first | (k_unfold; (try dsimp only)) | ((with_reducible show wpAny _ _ (newTuple _) _ _ _); with_reducible (k_here; k_dflt (refine' kup_newTuple (by k_asm) (by k_asm) ?_ (by exact Nat.le_of_ble_eq_true rfl)); intro _ _ _ _ _; (try k_sweep))) | ((with_reducible show wpAny _ _ (compareOp CmpOp.In (Value.int _ _) (Value.ref _)) _ _ _); with_reducible (k_here; k_dflt (refine' known_in (by k_asm) (by k_mem) (by assumption) (by assumption) (by first | exact isSome_some (by assumption) | exact isSome_none (by assumption)) ?_; k_whole); intro _)) | ((with_reducible show wpAny _ _ (subscriptTail _ _ (Value.ref _) _) _ _ _); with_reducible (k_here; (with_reducible show wpAny _ _ (subscriptTail _ _ (Value.ref _) (Value.int _ _)) _ _ _); k_dflt (apply known_tail2; (case N => k_asm); (case hm => k_mem); (case R => assumption); (case hs => walk_at "M sub"); (case he => assumption); (case hu => with_unfolding_all rfl); k_whole); intro _ _ _ _ _ _ _ _ _ _)) | ((with_reducible show wpAny _ _ (assign (Expr.Tuple _ _ _) _ (Value.ref _)) _ _ _); with_reducible (k_here; (with_reducible show wpAny _ _ (assign (Expr.Tuple _ _ _) _ (Value.ref _)) _ _ _); k_dflt (refine' unpackN_ (by k_asm) (by k_asm) (by refine News.isTup (by k_asm) (by k_mem)) (by (first | assumption | exact Room.h (by assumption) | exact Room.u_lt (by assumption) | exact Room.less (by assumption) (by decide))) (by exact rfl) (by exact rfl) ?_); intro _ _ _; (try k_sweep))) | ((with_reducible show wpAny _ _ (eval (Expr.Name _ _) _) _ _ _); with_reducible (k_here; k_dflt (apply nameX_L; (case F => k_asm); (case hk => rfl); (case hx => rfl); (case hv => walk_at "M look"); (case hd => decide); k_whole))) | ((with_reducible show wpAny _ _ (call (Value.ref _) _) _ _ _); (first | with_reducible (k_here; k_dflt (refine' row_spec (by (first | assumption | exact Room.h (by assumption) | exact Room.u_lt (by assumption) | exact Room.less (by assumption) (by decide))) (by k_asm) (by k_asm) (by k_asm) (by k_asm) (by assumption) (by walk_at "M sub") ?_; k_whole); intro _ _ _ _ _ _ _ _; (try k_sweep)) | with_reducible (k_here; k_dflt (apply draw_spec; (case hR => (first | assumption | exact Room.h (by assumption) | exact Room.u_lt (by assumption) | exact Room.less (by assumption) (by decide))); (case F => k_asm); (case X => k_asm); (case N => k_asm); (case T => k_asm); (case U => walk_at "M up"); (case ho => assumption); (case hz => first | assumption | omega); (case hk => first | assumption | omega); (case hk1 => first | assumption | omega); (case hm0 => first | decide | omega); (case hm1 => first | decide | omega); (case hU => intro o9; k_mem); (case hlo => assumption); (case hi => assumption); k_whole); intro _ _ _ _ _ _ _ _ _; intro zN; (try dsimp only at zN); revert zN; intro _; intro _; (try k_sweep)))) | walk1 | (dsimp only; walk1) | (dsimp only; k_unfold; try dsimp only)))
        unfold ChangedIf at c5
        rw [h6] at c5 pc1
        have hb1 : b = true := c5
        subst hb1
        (refine' back_ (by k_asm) (by k_asm) ?_); intro kF kN
        exact hQ ⟨3600, n, u, v, true⟩ _ (new4 ++ (new3 ++ ((D1, tupO [.ref pl, .int 3600 t5, .int now t6]) :: new1))) bo1 ko1 ro1 _ _ ⟨rfl, Or.inl ⟨rfl, rfl⟩, by rw [h6]; exact pc1⟩ kF (News.sub kN (by walk_at "M sub")) (by walk_at "M above") lb1
          (by simpa only [List.append_assoc, List.cons_append] using Known.mono (led' := new4 ++ (new3 ++ ((D1, tupO [.ref pl, .int 3600 t5, .int now t6]) :: (new1 ++ imm)))) (by walk_at "M sub") K3)
          (by simpa only [List.append_assoc, List.cons_append] using Rows.mono (led' := new4 ++ (new3 ++ ((D1, tupO [.ref pl, .int 3600 t5, .int now t6]) :: (new1 ++ imm)))) (by walk_at "M sub") R5)
      | some e =>
        refine put_some (imm := new3 ++ (new1 ++ imm)) hR' F4 X' N4 T' (DbAt.mono (by walk_at "M sub") h1) (by walk_at "M up") (by intro o9; walk_at "M sub") hW3 (by walk_at "M sub") p2 (RowAt.mono (by walk_at "M sub") rd3) hz2 h6 ?_
        clear F4 N4
        intro b new4 ro1 h5 tk5 F5 N5 ab5 R5 c5
        (repeat' (first | (k_unfold; (try dsimp only)) | ((with_reducible show wpAny _ _ (newTuple _) _ _ _); with_reducible (k_here; k_dflt (refine' kup_newTuple (by k_asm) (by k_asm) ?_ (by exact Nat.le_of_ble_eq_true rfl)); intro _ _ _ _ _; (try k_sweep))) | ((with_reducible show wpAny _ _ (compareOp CmpOp.In (Value.int _ _) (Value.ref _)) _ _ _); with_reducible (k_here; k_dflt (refine' known_in (by k_asm) (by k_mem) (by assumption) (by assumption) (by first | exact isSome_some (by assumption) | exact isSome_none (by assumption)) ?_; k_whole); intro _)) | ((with_reducible show wpAny _ _ (subscriptTail _ _ (Value.ref _) _) _ _ _); with_reducible (k_here; (with_reducible show wpAny _ _ (subscriptTail _ _ (Value.ref _) (Value.int _ _)) _ _ _); k_dflt (apply known_tail2; (case N => k_asm); (case hm => k_mem); (case R => assumption); (case hs => walk_at "M sub"); (case he => assumption); (case hu => with_unfolding_all rfl); k_whole); intro _ _ _ _ _ _ _ _ _ _)) | ((with_reducible show wpAny _ _ (assign (Expr.Tuple _ _ _) _ (Value.ref _)) _ _ _); with_reducible (k_here; (with_reducible show wpAny _ _ (assign (Expr.Tuple _ _ _) _ (Value.ref _)) _ _ _); k_dflt (refine' unpackN_ (by k_asm) (by k_asm) (by refine News.isTup (by k_asm) (by k_mem)) (by (first | assumption | exact Room.h (by assumption) | exact Room.u_lt (by assumption) | exact Room.less (by assumption) (by decide))) (by exact rfl) (by exact rfl) ?_); intro _ _ _; (try k_sweep))) | ((with_reducible show wpAny _ _ (eval (Expr.Name _ _) _) _ _ _); with_reducible (k_here; k_dflt (apply nameX_L; (case F => k_asm); (case hk => rfl); (case hx => rfl); (case hv => walk_at "M look"); (case hd => decide); k_whole))) | ((with_reducible show wpAny _ _ (call (Value.ref _) _) _ _ _); (first | with_reducible (k_here; k_dflt (refine' row_spec (by (first | assumption | exact Room.h (by assumption) | exact Room.u_lt (by assumption) | exact Room.less (by assumption) (by decide))) (by k_asm) (by k_asm) (by k_asm) (by k_asm) (by assumption) (by walk_at "M sub") ?_; k_whole); intro _ _ _ _ _ _ _ _; (try k_sweep)) | with_reducible (k_here; k_dflt (apply draw_spec; (case hR => (first | assumption | exact Room.h (by assumption) | exact Room.u_lt (by assumption) | exact Room.less (by assumption) (by decide))); (case F => k_asm); (case X => k_asm); (case N => k_asm); (case T => k_asm); (case U => walk_at "M up"); (case ho => assumption); (case hz => first | assumption | omega); (case hk => first | assumption | omega); (case hk1 => first | assumption | omega); (case hm0 => first | decide | omega); (case hm1 => first | decide | omega); (case hU => intro o9; k_mem); (case hlo => assumption); (case hi => assumption); k_whole); intro _ _ _ _ _ _ _ _ _; intro zN; (try dsimp only at zN); revert zN; intro _; intro _; (try k_sweep)))) | walk1 | (dsimp only; walk1) | (dsimp only; k_unfold; try dsimp only)))
        unfold ChangedIf at c5
        rw [h6] at c5 pc1
        have hb1 : b = true := c5 pc1.2
        subst hb1
        (refine' back_ (by k_asm) (by k_asm) ?_); intro kF kN
        exact hQ ⟨3600, n, u, v, true⟩ _ (new4 ++ (new3 ++ ((D1, tupO [.ref pl, .int 3600 t5, .int now t6]) :: new1))) bo1 ko1 ro1 _ _ ⟨rfl, Or.inl ⟨rfl, rfl⟩, by rw [h6]; exact ⟨pc1.1, pc1.2⟩⟩ kF (News.sub kN (by walk_at "M sub")) (by walk_at "M above") lb1
          (by simpa only [List.append_assoc, List.cons_append] using Known.mono (led' := new4 ++ (new3 ++ ((D1, tupO [.ref pl, .int 3600 t5, .int now t6]) :: (new1 ++ imm)))) (by walk_at "M sub") K3)
          (by simpa only [List.append_assoc, List.cons_append] using Rows.mono (led' := new4 ++ (new3 ++ ((D1, tupO [.ref pl, .int 3600 t5, .int now t6]) :: (new1 ++ imm)))) (by walk_at "M sub") R5)

end

section
variable {prog : Program} {w : World} {A : Around} {s : Shared} {B : Heap} {L : Addr} {m mg mb : Str → Option Value} {led : List (Addr × Obj)} {p : Program} {loose : List Str} {mean : ExcName → Option Value} {Q E : Value → Shared → Prop} {rn : Nat}

theorem keys_spec {imm : Led} {d rp : Addr} {o : Obj} {es : List Ent}
    (hR : Room A (rn + 6)) (F : Fr B L s.heap m) (X : (hd.heap_39 w.params).In B) (N : News B L s.heap (led)) (T : Top p loose mean mg mb B)
    (h1 : DbAt led d rp) (h2 : (rp, o) ∈ led) (h3 : Rows prog w imm o es) (hs : Sub imm led) (h5 : 1 < rp) (hz : es.length ≤ 3)
    (hQ : ∀ D c out ns' h' tk', Fr B L h' m → News B L h' ((D, listOf (List.toArray out) c) :: led) → (∀ p ∈ led, p.1 < D) → All2 (KeyV imm) out ns' → ns'.Perm (names es) → ns'.Pairwise (· ≤ ·) → Q (.ref D) { s with heap := h', toks := tk' }) :
    wpAny (model prog w) A (call (.ref 121) [.ref d]) Q E s := by
  obtain ⟨dx, hsd, td, nd, d1, d2⟩ := h1
  refine callFn [("self", .ref d)] F X N T (by k_is) (by k_is) (by (first | assumption | exact Room.h (by assumption) | exact Room.u_lt (by assumption) | exact Room.less (by assumption) (by decide))) (by first | exact BindsTo.of_eq rfl | exact binds_K (by k_in) rfl (by k_is) rfl rfl rfl) (locs rfl) ?_ rfl rfl rfl (by decide)
  intro g' L' h' F' N' X' T' hz' hR'
  clear F N X T hR
  k_fold
  (repeat' (first | (k_unfold; (try dsimp only)) | ((with_reducible show wpAny _ _ (call (Value.builtin "sorted") _) _ _ _); with_reducible (k_here; k_dflt (refine' sorted_rows (by (first | assumption | exact Room.h (by assumption) | exact Room.u_lt (by assumption) | exact Room.less (by assumption) (by decide))) (by k_asm) (by k_asm) (by k_mem) (by assumption) (by walk_at "M sub") (by assumption) (by assumption) ?_; k_whole); intro _ _ _ _ _ _ _ _ _ _ _ _; (try k_sweep))) | walk1 | (dsimp only; walk1) | (dsimp only; k_unfold; try dsimp only)))
  (refine' back_ (by k_asm) (by k_asm) ?_); intro kF kN; exact hQ _ _ _ _ _ _ kF kN (by assumption) (by assumption) (by assumption) (by assumption)
end

section
variable {prog : Program} {w : World} {A : Around} {s : Shared} {B : Heap} {L : Addr} {m mg mb : Str → Option Value} {led : List (Addr × Obj)} {p : Program} {loose : List Str} {mean : ExcName → Option Value} {Q E : Value → Shared → Prop} {rn : Nat}

def agedE (now : Int) (e : Ent) : Row := { e.row with age := min (e.row.age + (now - e.since)) 3600 }
def AllRows (es : List Ent) (now : Int) (rs : List Row) : Prop := ∃ ns, ns.Perm (names es) ∧ ns.Pairwise (· ≤ ·) ∧ All2 (fun r n => ∃ e, findE es n = some e ∧ r = agedE now e) rs ns
theorem All2.get' {α β : Type} {R : α → β → Prop} {as : List α} {bs : List β} (x : All2 R as bs) : ∀ {i : Nat} {a : α}, as[i]? = some a → ∃ b, bs[i]? = some b ∧ R a b := by
  induction x with
  | nil => intro i a h; simp at h
  | cons r _ ih =>
    intro i a h
    cases i with
    | zero => simp at h; subst h; exact ⟨_, rfl, r⟩
    | succ i => simpa using ih (by simpa using h)
theorem findE_in {es : List Ent} {n : Int} (h : n ∈ names es) : ∃ e, findE es n = some e := by
  cases h' : findE es n with
  | some e => exact ⟨e, rfl⟩
  | none => exact absurd h (findE_none h')

theorem all_rows_spec {imm : Led} {d rp : Addr} {o : Obj} {es : List Ent} {now : Int} {tn : Tok}
    (hR : Room A (rn + 12)) (F : Fr B L s.heap m) (X : (hd.heap_39 w.params).In B) (N : News B L s.heap led) (T : Top p loose mean mg mb B)
    (h1 : DbAt led d rp) (h2 : (rp, o) ∈ led) (h3 : Rows prog w imm o es) (hs : Sub imm led) (h5 : 1 < rp) (hz : es.length ≤ 3)
    (hQ : ∀ D c new vs rs h' tk', Fr B L h' m → News B L h' ((D, listOf (List.toArray vs) c) :: (new ++ led)) → Above led new → Off D (new ++ led) → All2 (RowV (new ++ imm)) vs rs → AllRows es now rs → Q (.ref D) { s with heap := h', toks := tk' }) :
    wpAny (model prog w) A (call (.ref 126) [.ref d, .int now tn]) Q E s := by
  have h1c := h1
  obtain ⟨dx, hsd, td, nd, d1, d2⟩ := h1c
  refine callFnC [("self", .ref d), ("now", .int now tn)] F X N T (by k_is) (by k_is) (by (first | assumption | exact Room.h (by assumption) | exact Room.u_lt (by assumption) | exact Room.less (by assumption) (by decide))) (by first | exact BindsTo.of_eq rfl | exact binds_K (by k_in) rfl (by k_is) rfl rfl rfl) (by rfl) (by decide) ?_ rfl rfl rfl
  intro g' L' h' tk' cells F' N' Y X' T' l1 hR'
  clear F N X T hR
  have hY := CellsAre.two Y
  obtain ⟨o1, o2, hE, c1, c2⟩ := hY
  subst hE
  clear Y
  have e1 : o1.data = .cell (some (.int now tn)) := c1
  have e2 : o2.data = .cell (some (.ref d)) := c2
  clear c1 c2
  have N2 : News g' L' h' ((L' + 1 + 1, o1) :: (L' + 1, o2) :: led) := N'
  clear N'
  have l2 : ∀ p ∈ led, p.1 < (L' + 1, o2).1 := fun p hp => Nat.lt_succ_of_lt (l1 p hp)
  have l3 : ∀ p ∈ ((L' + 1, o2) :: led), p.1 < (L' + 1 + 1, o1).1 := fun p hp => by
    rcases List.mem_cons.mp hp with rfl | hp
    · exact Nat.lt_succ_self _
    · exact Nat.lt_succ_of_lt (Nat.lt_succ_of_lt (l1 p hp))
  show wpAny _ _ _ _ _ _
  try k_fold
  (repeat' (first | (k_unfold; (try dsimp only)) | ((with_reducible show wpAny _ _ (eval (Expr.Name _ _) _) _ _ _); with_reducible (k_here; (with_reducible show wpAny _ _ (eval (Expr.Name _ _) (compEnvC _ _ _ _)) _ _ _); k_dflt (first | refine LCgL.ld_own (by k_asm) (by k_mem) (by assumption) (by assumption) ?_ | refine ld_cell (by k_asm) (by rfl) (by k_mem) (by assumption) ?_))) | ((with_reducible show wpAny _ _ (call (Value.ref _) _) _ _ _); (first | with_reducible (k_here; k_dflt (refine' look_some (by (first | assumption | exact Room.h (by assumption) | exact Room.u_lt (by assumption) | exact Room.less (by assumption) (by decide))) (by k_asm) (by k_asm) (by k_asm) (by k_asm) (by walk_at "M rel") (by k_mem) (by assumption) (by walk_at "M sub") (by walk_at "M rel") (by assumption) (by assumption) ?_; k_whole); intro _ _ _ _ _ _ _ _; (try k_sweep)) | with_reducible (k_here; k_dflt (refine' keys_spec (by (first | assumption | exact Room.h (by assumption) | exact Room.u_lt (by assumption) | exact Room.less (by assumption) (by decide))) (by k_asm) (by k_asm) (by k_asm) (by k_asm) (by walk_at "M rel") (by k_mem) (by assumption) (by walk_at "M sub") (by assumption) (by assumption) ?_; k_whole); intro _ _ _ _ _ _ _ _ _ _ _ _; (try k_sweep)))) | walk1 | (dsimp only; walk1) | (dsimp only; k_unfold; try dsimp only)))
  refine LCg.ListComp_U (F₀ := F') (by rfl) (by decide) (by rfl) (by decide) (by rfl) ?_
  try k_fold
  (repeat' (first | (k_unfold; (try dsimp only)) | ((with_reducible show wpAny _ _ (eval (Expr.Name _ _) _) _ _ _); with_reducible (k_here; (with_reducible show wpAny _ _ (eval (Expr.Name _ _) (compEnvC _ _ _ _)) _ _ _); k_dflt (first | refine LCgL.ld_own (by k_asm) (by k_mem) (by assumption) (by assumption) ?_ | refine ld_cell (by k_asm) (by rfl) (by k_mem) (by assumption) ?_))) | ((with_reducible show wpAny _ _ (call (Value.ref _) _) _ _ _); (first | with_reducible (k_here; k_dflt (refine' look_some (by (first | assumption | exact Room.h (by assumption) | exact Room.u_lt (by assumption) | exact Room.less (by assumption) (by decide))) (by k_asm) (by k_asm) (by k_asm) (by k_asm) (by walk_at "M rel") (by k_mem) (by assumption) (by walk_at "M sub") (by walk_at "M rel") (by assumption) (by assumption) ?_; k_whole); intro _ _ _ _ _ _ _ _; (try k_sweep)) | with_reducible (k_here; k_dflt (refine' keys_spec (by (first | assumption | exact Room.h (by assumption) | exact Room.u_lt (by assumption) | exact Room.less (by assumption) (by decide))) (by k_asm) (by k_asm) (by k_asm) (by k_asm) (by walk_at "M rel") (by k_mem) (by assumption) (by walk_at "M sub") (by assumption) (by assumption) ?_; k_whole); intro _ _ _ _ _ _ _ _ _ _ _ _; (try k_sweep)))) | walk1 | (dsimp only; walk1) | (dsimp only; k_unfold; try dsimp only)))
  rename_i B0 c0 out0 ns0 h0 tk0 F0 N0 lB hk0 pm0 pw0
  refine comp_list (fun i ys n => ∃ new' rs, n = new' ++ ((B0, listOf (List.toArray out0) c0) :: (L' + 1 + 1, o1) :: (L' + 1, o2) :: led) ∧ Above ((B0, listOf (List.toArray out0) c0) :: (L' + 1 + 1, o1) :: (L' + 1, o2) :: led) new' ∧ All2 (RowV (new' ++ imm)) ys rs ∧ All2 (fun r n => ∃ e, findE es n = some e ∧ r = agedE now e) rs (ns0.take i))
    hR'.h F0 N0 (by k_mem) LstO.of (by rw [hk0.length, pm0.length_eq]; simp [names]; omega) ?_ ⟨[], [], rfl, Above.nil, .nil, .nil⟩ ?_ ?_
  · rintro i ys n ⟨new', rs, rfl, _⟩
    exact List.mem_append_right _ (.head _)
  · rintro i v I oI C oC D m₂ h tk E' ys n hv hC hx F N ap ⟨new', rs, rfl, ab, a1, a2⟩ zEQ zhE
    clear F0 N0
    obtain ⟨nn, hn, k, rfl, hkk⟩ := hk0.get' hv
    obtain ⟨e, he⟩ := findE_in (es := es) (n := nn) (pm0.mem_iff.mp (List.mem_of_getElem? hn))
    (repeat' (first | (k_unfold; (try dsimp only)) | ((with_reducible show wpAny _ _ (eval (Expr.Name _ _) _) _ _ _); with_reducible (k_here; (with_reducible show wpAny _ _ (eval (Expr.Name _ _) (compEnvC _ _ _ _)) _ _ _); k_dflt (first | refine LCgL.ld_own (by k_asm) (by k_mem) (by assumption) (by assumption) ?_ | refine ld_cell (by k_asm) (by rfl) (by k_mem) (by assumption) ?_))) | ((with_reducible show wpAny _ _ (call (Value.ref _) _) _ _ _); (first | with_reducible (k_here; k_dflt (refine' look_some (by (first | assumption | exact Room.h (by assumption) | exact Room.u_lt (by assumption) | exact Room.less (by assumption) (by decide))) (by k_asm) (by k_asm) (by k_asm) (by k_asm) (by walk_at "M rel") (by k_mem) (by assumption) (by walk_at "M sub") (by walk_at "M rel") (by assumption) (by assumption) ?_; k_whole); intro _ _ _ _ _ _ _ _; (try k_sweep)) | with_reducible (k_here; k_dflt (refine' keys_spec (by (first | assumption | exact Room.h (by assumption) | exact Room.u_lt (by assumption) | exact Room.less (by assumption) (by decide))) (by k_asm) (by k_asm) (by k_asm) (by k_asm) (by walk_at "M rel") (by k_mem) (by assumption) (by walk_at "M sub") (by assumption) (by assumption) ?_; k_whole); intro _ _ _ _ _ _ _ _ _ _ _ _; (try k_sweep)))) | walk1 | (dsimp only; walk1) | (dsimp only; k_unfold; try dsimp only)))
    rename_i k2 new2 h2' tk2 F2 N2' ab2 rw2
    refine zhE _ _ ?_; refine Elt.intro (new2 ++ (new' ++ ((B0, listOf (List.toArray out0) c0) :: (L' + 1 + 1, o1) :: (L' + 1, o2) :: led))) F2 N2' (by walk_at "M sub") (by
      refine Apart.both ?_ ?_
      · refine' Apart.new ab2 ?_
        walk_at "M sub"
      · skip
        exact ap) ?_
    refine ⟨new2 ++ new', rs ++ [agedE now e], by simp, by walk_at "M above", ?_, ?_⟩
    · refine All2.snoc (a1.mono fun _ _ x => x.mono (by walk_at "M sub")) ⟨k2, rfl, RowAt.mono (by walk_at "M sub") rw2⟩
    · have : ns0.take (i + 1) = ns0.take i ++ [nn] := by rw [List.take_add_one, hn]; rfl
      rw [this]
      exact a2.snoc ⟨e, he, rfl⟩
  · rintro D h tk ys n ⟨new', rs, rfl, ab, a1, a2⟩ F N off
    clear F0 N0
    k_unfold
    try dsimp only
    (refine' back_ (by k_asm) (by k_asm) ?_); intro kF kN
    have ht : ns0.take out0.length = ns0 := List.take_of_length_le (by rw [hk0.length]; exact Nat.le_refl _)
    rw [ht] at a2
    have hab : Above led (new' ++ [(B0, listOf (List.toArray out0) c0), (L' + 1 + 1, o1), (L' + 1, o2)]) := by
      refine Above.app (by walk_at "M above") ?_
      refine' Above.cons (Above.lt ?zqs1 lB) ?zqk1
      case zqs1 => walk_at "M sub"
      refine' Above.cons (Above.lt ?zqs2 l3) ?zqk2
      case zqs2 => walk_at "M sub"
      exact Above.cons l2 Above.nil
    exact hQ D _ (new' ++ [(B0, listOf (List.toArray out0) c0), (L' + 1 + 1, o1), (L' + 1, o2)]) ys rs _ _ kF (by simpa using kN) hab (by simpa using off) (a1.mono fun _ _ x => x.mono (by walk_at "M sub")) ⟨ns0, pm0, pw0, a2⟩
end

section
variable {prog : Program} {w : World} {A : Around} {s : Shared} {B : Heap} {L : Addr} {m mg mb : Str → Option Value} {led : List (Addr × Obj)} {p : Program} {loose : List Str} {mean : ExcName → Option Value} {Q E : Value → Shared → Prop} {rn : Nat}

theorem put_any {imm : Led} {d rp la : Addr} {o : Obj} {es : List Ent} {r : Row} {now : Int} {tn : Tok} {gU : Obj → Led}
    (hR : Room A (rn + 10)) (F : Fr B L s.heap m) (X : (hd.heap_39 w.params).In B) (N : News B L s.heap (led)) (T : Top p loose mean mg mb B)
    (h1 : DbAt led d rp) (U : UpF rp o led gU) (hg : ∀ o', Sub imm (gU o')) (h3 : Rows prog w imm o es) (hs : Sub imm led) (h5 : 1 < rp) (h4 : RowAt imm la r) (hz : es.length ≤ 100)
    (hQ : ∀ b new o' h' tk', Fr B L h' m → News B L h' (new ++ gU o') → Above led new → Rows prog w (new ++ imm) o' (putE es ⟨r, now⟩) → ChangedIf es r b → Q (.bool b) { s with heap := h', toks := tk' }) :
    wpAny (model prog w) A (call (.ref 93) [.ref d, .ref la, .int now tn]) Q E s := by
  cases h6 : findE es r.name with
  | none => exact put_none hR F X N T h1 U hg h3 hs h5 h4 hz h6 hQ
  | some e => exact put_some hR F X N T h1 U hg h3 hs h5 h4 hz h6 hQ

theorem new_db
    (hR : Room A (rn + 6)) (F : Fr B L s.heap m) (X : (hd.heap_39 w.params).In B) (N : News B L s.heap led) (T : Top p loose mean mg mb B)
    (hQ : ∀ x dx rp hs t n ro h' tk', Fr B L h' m → News B L h' ((rp, ro) :: (x, instObj 172 dx) :: (dx, dictOf [⟨hs, .str (Str.ofString "rows") t, .ref rp⟩] n) :: led) → ro.IsDictOf (intKind prog w) [] → (∀ p ∈ led, p.1 < dx) → dx < x → x < rp → Q (.ref x) { s with heap := h', toks := tk' }) :
    wpAny (model prog w) A (call (.ref 172) []) Q E s := by
  refine makeFn (fun x => [("self", .ref x)]) F X N T (by k_is) (by k_is) (by k_is) (by k_is) (by k_is) (by (first | assumption | exact Room.h (by assumption) | exact Room.u_lt (by assumption) | exact Room.less (by assumption) (by decide))) (fun x s' => by first | exact BindsTo.of_eq rfl | exact binds_K (by k_in) rfl (by k_is) rfl rfl rfl) (fun x => locs rfl) ?_ rfl rfl rfl (by decide)
  intro x dx g' L' h' tk' F' N' l1 l2 X' T' hR'
  clear F N X T hR
  k_fold
  (repeat' (first | (k_unfold; (try dsimp only)) | ((with_reducible show wpAny _ _ (eval (Expr.Name _ _) _) _ _ _); with_reducible (k_here; k_dflt (apply nameX_L; (case F => k_asm); (case hk => rfl); (case hx => rfl); (case hv => walk_at "M look"); (case hd => decide); k_whole))) | walk1 | (dsimp only; walk1) | (dsimp only; k_unfold; try dsimp only)))
  rename_i D h2 o2 F2 N2 _ _ _ hi2 _ l3
  have hne1 : D ≠ dx := Nat.ne_of_gt l3.2.1
  have hne2 : x ≠ dx := Nat.ne_of_gt l2
  have hoff : Off dx led := fun p hp => Nat.ne_of_lt (l1 p hp)
  have UU : UpF dx (dictOf [] 0) ((D, o2) :: (x, instObj 172 dx) :: (dx, dictOf [] 0) :: led) _ := UpF.tail hne1 (UpF.tail hne2 (UpF.head hoff))
  k_dflt (refine' set_dict ?k1 ?k2 ?k3 ?k4 ?k5 ?k6 ?k7 ?k8 ?k9 ?k10 ?k11 ?k12 ?k13 ?_; (case k1 => k_asm); (case k2 => k_asm); (case k3 => k_asm); (case k4 => k_inst); (case k5 => exact rfl); (case k6 => k_is); (case k7 => k_is); (case k8 => k_is); (case k9 => k_is); (case k10 => k_get); (case k11 => k_put); (case k12 => exact upd_of UU); (case k13 => exact Nat.le_of_ble_eq_true rfl); k_whole; intro h3 F3 N3; (try k_sweep))

  (repeat' (first | (k_unfold; (try dsimp only)) | ((with_reducible show wpAny _ _ (eval (Expr.Name _ _) _) _ _ _); with_reducible (k_here; k_dflt (apply nameX_L; (case F => k_asm); (case hk => rfl); (case hx => rfl); (case hv => walk_at "M look"); (case hd => decide); k_whole))) | walk1 | (dsimp only; walk1) | (dsimp only; k_unfold; try dsimp only)))
  (refine' back_ (by k_asm) (by k_asm) ?_); intro kF kN
  refine ⟨rfl, hQ x dx D _ _ _ o2 _ _ kF kN hi2 l1 l2 l3.1⟩
end

section
variable {prog : Program} {w : World} {A : Around} {s : Shared} {B : Heap} {L : Addr} {m mg mb : Str → Option Value} {led : List (Addr × Obj)} {p : Program} {loose : List Str} {mean : ExcName → Option Value} {Q E : Value → Shared → Prop} {rn : Nat}

def madeEs (now : Int) (rs : List Row) : List Ent := rs.foldl (fun es r => putE es ⟨r, now⟩) []
theorem putE_len (es : List Ent) (e : Ent) : (putE es e).length ≤ es.length + 1 := by
  unfold putE; split <;> simp
theorem madeEs_len (now : Int) (rs : List Row) : (madeEs now rs).length ≤ rs.length := by
  have : ∀ (rs : List Row) (es : List Ent), (rs.foldl (fun es r => putE es ⟨r, now⟩) es).length ≤ es.length + rs.length := by
    intro rs
    induction rs with
    | nil => intro es; simp
    | cons r rs ih => intro es; simp only [List.foldl_cons, List.length_cons]; have := ih (putE es ⟨r, now⟩); have := putE_len es ⟨r, now⟩; omega
  have h := this rs []
  unfold madeEs
  simpa using h
theorem madeEs_snoc (now : Int) (rs : List Row) (i : Nat) (r : Row) (h : rs[i]? = some r) : madeEs now (rs.take (i + 1)) = putE (madeEs now (rs.take i)) ⟨r, now⟩ := by
  unfold madeEs
  rw [List.take_add_one, h]
  simp
theorem empty_known {o : Obj} (h : o.IsDictOf (intKind prog w) []) : Known prog w led o [] := ⟨[], h, .nil⟩
theorem empty_rows {o : Obj} (h : o.IsDictOf (intKind prog w) []) : Rows prog w led o [] := by
  obtain ⟨es, ep, ex, hd, _, P, _⟩ := h
  have : es.toList = [] := by
    cases q : es.toList with
    | nil => rfl
    | cons a r => rw [q] at P; cases P
  exact ⟨ex, List.nodup_nil, [], es, ep, hd, by simpa using this, .nil⟩

theorem made_specI {imm : Led} {l : Addr} {lo : Obj} {vs : List Value} {rs : List Row} {now : Int} {tn : Tok}
    (hR : Room A (rn + 14)) (F : Fr B L s.heap m) (X : (hd.heap_39 w.params).In B) (N : News B L s.heap (led)) (T : Top p loose mean mg mb B)
    (hl : (l, lo) ∈ led) (hlo : LstO lo vs) (hr : All2 (RowV imm) vs rs) (hs : Sub imm led) (hz : rs.length ≤ 3)
    (hQ : ∀ T d rp kp ko ro new h' tk', Fr B L h' m → News B L h' ((T, tupO [.ref d, .ref kp]) :: (kp, ko) :: (rp, ro) :: (new ++ led)) → (∀ p ∈ (kp, ko) :: (rp, ro) :: (new ++ led), p.1 < T) → Above led ((kp, ko) :: (rp, ro) :: new) →
      Off kp ((rp, ro) :: (new ++ led)) → Off rp (new ++ led) → DbAt new d rp → Known prog w (new ++ imm) ko (madeEs now rs) → Rows prog w (new ++ imm) ro (madeEs now rs) → 1 < kp → 1 < rp → Q (.ref T) { s with heap := h', toks := tk' }) :
    wpAny (model prog w) A (call (.ref 204) [.ref l, .int now tn]) Q E s := by
  skip
  refine callFn [("rows", .ref l), ("now", .int now tn)] F X N T (by k_is) (by k_is) (by (first | assumption | exact Room.h (by assumption) | exact Room.u_lt (by assumption) | exact Room.less (by assumption) (by decide))) (by first | exact BindsTo.of_eq rfl | exact binds_K (by k_in) rfl (by k_is) rfl rfl rfl) (locs rfl) ?_ rfl rfl rfl (by decide)
  intro g' L' h' F' N' X' T' hz' hR'
  clear F N X T hR
  k_fold
  (repeat' (first | (k_unfold; (try dsimp only)) | ((with_reducible show wpAny _ _ (newTuple _) _ _ _); with_reducible (k_here; k_dflt (refine' kup_newTuple (by k_asm) (by k_asm) ?_ (by exact Nat.le_of_ble_eq_true rfl)); intro _ _ _ _ _; (try k_sweep))) | ((with_reducible show wpAny _ _ (unpackItems (Value.ref _) _ _) _ _ _); with_reducible (k_here; k_dflt (refine' unpackItemsN_ (by k_asm) (by k_asm) (by first | assumption | (refine News.isTup (by k_asm) (by k_mem))) (by (first | assumption | exact Room.h (by assumption) | exact Room.u_lt (by assumption) | exact Room.less (by assumption) (by decide))) (by exact rfl) ?_; k_whole); intro _ _ _; (try k_sweep))) | ((with_reducible show wpAny _ _ (eval (Expr.Name _ _) _) _ _ _); with_reducible (k_here; k_dflt (apply nameX_L; (case F => k_asm); (case hk => rfl); (case hx => rfl); (case hv => walk_at "M look"); (case hd => decide); k_whole))) | ((with_reducible show wpAny _ _ (call (Value.ref _) _) _ _ _); with_reducible (k_here; k_dflt (apply put_any; (case hR => (first | assumption | exact Room.h (by assumption) | exact Room.u_lt (by assumption) | exact Room.less (by assumption) (by decide))); (case F => k_asm); (case X => k_asm); (case N => k_asm); (case T => k_asm); (case h1 => walk_at "M rel"); (case U => walk_at "M up"); (case h3 => assumption); (case hs => walk_at "M sub"); (case h5 => assumption); (case h4 => walk_at "M rel"); (case hz => first | assumption | omega); (case hg => intro o9; walk_at "M sub"); k_whole); intro _ _ _ _ _ _ _ _ _ _; (try k_sweep))) | ((with_reducible show wpAny _ _ (exec (Stmt.For _ _ _ _ _) _) _ _ _); with_reducible (k_here; k_dflt (refine' for_go (by k_asm) ?_); k_whole)) | walk1 | (dsimp only; walk1) | (dsimp only; k_unfold; try dsimp only)))
  refine new_db hR' F' X' N' T' ?_
  clear F' N'
  intro x dx rp hsh t n ro h1 tk1 F1 N1 hi1 l1 l2 l3
  (repeat' (first | (k_unfold; (try dsimp only)) | ((with_reducible show wpAny _ _ (newTuple _) _ _ _); with_reducible (k_here; k_dflt (refine' kup_newTuple (by k_asm) (by k_asm) ?_ (by exact Nat.le_of_ble_eq_true rfl)); intro _ _ _ _ _; (try k_sweep))) | ((with_reducible show wpAny _ _ (unpackItems (Value.ref _) _ _) _ _ _); with_reducible (k_here; k_dflt (refine' unpackItemsN_ (by k_asm) (by k_asm) (by first | assumption | (refine News.isTup (by k_asm) (by k_mem))) (by (first | assumption | exact Room.h (by assumption) | exact Room.u_lt (by assumption) | exact Room.less (by assumption) (by decide))) (by exact rfl) ?_; k_whole); intro _ _ _; (try k_sweep))) | ((with_reducible show wpAny _ _ (eval (Expr.Name _ _) _) _ _ _); with_reducible (k_here; k_dflt (apply nameX_L; (case F => k_asm); (case hk => rfl); (case hx => rfl); (case hv => walk_at "M look"); (case hd => decide); k_whole))) | ((with_reducible show wpAny _ _ (call (Value.ref _) _) _ _ _); with_reducible (k_here; k_dflt (apply put_any; (case hR => (first | assumption | exact Room.h (by assumption) | exact Room.u_lt (by assumption) | exact Room.less (by assumption) (by decide))); (case F => k_asm); (case X => k_asm); (case N => k_asm); (case T => k_asm); (case h1 => walk_at "M rel"); (case U => walk_at "M up"); (case h3 => assumption); (case hs => walk_at "M sub"); (case h5 => assumption); (case h4 => walk_at "M rel"); (case hz => first | assumption | omega); (case hg => intro o9; walk_at "M sub"); k_whole); intro _ _ _ _ _ _ _ _ _ _; (try k_sweep))) | ((with_reducible show wpAny _ _ (exec (Stmt.For _ _ _ _ _) _) _ _ _); with_reducible (k_here; k_dflt (refine' for_go (by k_asm) ?_); k_whole)) | walk1 | (dsimp only; walk1) | (dsimp only; k_unfold; try dsimp only)))
  rename_i kp _ ko _ _ _ hik _ lk T0 _ lT _ _ h2 F2 N2
  have NN : News g' L' h2 ((kp, ko) :: (rp, ro) :: ([] ++ ((x, instObj 172 dx) :: (dx, dictOf [⟨hsh, .str (Str.ofString "rows") t, .ref rp⟩] n) :: led))) := fun p hp => N2 p (.tail _ hp)
  clear N2 lT
  have lkp := lk.1
  have lkl : ∀ p ∈ led, p.1 < (kp, ko).1 := fun p hp => Nat.lt_trans (l1 p hp) lk.2.2.1
  have lrl : ∀ p ∈ led, p.1 < (rp, ro).1 := fun p hp => Nat.lt_trans (l1 p hp) (Nat.lt_trans l2 l3)
  have lxl : ∀ p ∈ led, p.1 < (x, instObj 172 dx).1 := fun p hp => Nat.lt_trans (l1 p hp) l2
  have ldl : ∀ p ∈ led, p.1 < (dx, dictOf [⟨hsh, .str (Str.ofString "rows") t, .ref rp⟩] n).1 := l1
  have p1 : 1 < rp := by have h0 : 0 ≤ dx := Nat.zero_le _; have h1 : dx < x := l2; have h2 : x < rp := l3; exact Nat.lt_of_le_of_lt (Nat.succ_le_of_lt (Nat.lt_of_le_of_lt h0 h1)) h2
  have p2 : 1 < kp := Nat.lt_trans p1 lkp
  have nkr : kp ≠ rp := Nat.ne_of_gt lkp
  have o1 : Off kp ((x, instObj 172 dx) :: (dx, dictOf [⟨hsh, .str (Str.ofString "rows") t, .ref rp⟩] n) :: led) := fun p hp => by
    rcases List.mem_cons.mp hp with rfl | hp
    · exact Nat.ne_of_lt lk.2.1
    · rcases List.mem_cons.mp hp with rfl | hp
      · exact Nat.ne_of_lt lk.2.2.1
      · exact Nat.ne_of_lt (lkl p hp)
  have o2 : Off rp ((x, instObj 172 dx) :: (dx, dictOf [⟨hsh, .str (Str.ofString "rows") t, .ref rp⟩] n) :: led) := fun p hp => by
    rcases List.mem_cons.mp hp with rfl | hp
    · exact Nat.ne_of_lt l3
    · rcases List.mem_cons.mp hp with rfl | hp
      · exact Nat.ne_of_lt (Nat.lt_trans l2 l3)
      · exact Nat.ne_of_lt (lrl p hp)
  have hlen := hr.length
  generalize hbase : ((x, instObj 172 dx) :: (dx, dictOf [⟨hsh, .str (Str.ofString "rows") t, .ref rp⟩] n) :: led) = bl at *
  have mx : (x, instObj 172 dx) ∈ bl := by rw [← hbase]; exact .head _
  have md : (dx, dictOf [⟨hsh, .str (Str.ofString "rows") t, .ref rp⟩] n) ∈ bl := by rw [← hbase]; exact .tail _ (.head _)
  have sb : Sub led bl := by rw [← hbase]; exact (Sub.refl _).cons.cons
  have hdb : DbAt bl x rp := ⟨dx, hsh, t, n, mx, md⟩
  refine for_list (fun i m nn => ∃ new ko1 ro1, nn = (kp, ko1) :: (rp, ro1) :: (new ++ bl) ∧ Above ((kp, ko) :: (rp, ro) :: bl) new ∧ Known prog w (new ++ imm) ko1 (madeEs now (rs.take i)) ∧ Rows prog w (new ++ imm) ro1 (madeEs now (rs.take i)) ∧
      m (Str.ofString "base") = some (.ref x) ∧ m (Str.ofString "known") = some (.ref kp) ∧ m (Str.ofString "now") = some (.int now tn)) hR'.h F2 NN (List.Mem.tail _ (List.Mem.tail _ (sb _ hl))) hlo ?_ ⟨[], ko, ro, rfl, Above.nil, empty_known hik, empty_rows hi1, rfl, rfl, rfl⟩ ?_ ?_
  · rintro i m nn ⟨new, ko1, ro1, rfl, _⟩
    exact List.Mem.tail _ (List.Mem.tail _ (List.mem_append_right _ (sb _ hl)))
  · rintro i v m1 nn h3 tk3 its hv ⟨new, ko1, ro1, rfl, ab, hK, hW, q1, q2, q3⟩ F3 N3 ap
    clear F2 NN
    obtain ⟨r, hri, la, rfl, hrow⟩ := hr.get' hv
    rw [madeEs_snoc now rs i r hri]
    have hlen2 : (madeEs now (rs.take i)).length ≤ 3 := Nat.le_trans (madeEs_len _ _) (by simp; omega)
    have hrowc := hrow
    obtain ⟨hp, bp, i1, ⟨t0, t1, t2, t3, t4, t5, t6, i2⟩, ⟨pp, u0, u1, i3, ipl⟩⟩ := hrowc
    have iplc := ipl
    obtain ⟨u2, u3, i4⟩ := iplc
    have r1 := sb _ (hs _ i1)
    have r2 := sb _ (hs _ i2)
    have r3 := sb _ (hs _ i3)
    have r4 := sb _ (hs _ i4)
    clear i1 i2 i3 i4
    have sI : Sub imm bl := hs.trans sb
    intro zTQ zhT
    (repeat' (first | (k_unfold; (try dsimp only)) | ((with_reducible show wpAny _ _ (newTuple _) _ _ _); with_reducible (k_here; k_dflt (refine' kup_newTuple (by k_asm) (by k_asm) ?_ (by exact Nat.le_of_ble_eq_true rfl)); intro _ _ _ _ _; (try k_sweep))) | ((with_reducible show wpAny _ _ (unpackItems (Value.ref _) _ _) _ _ _); with_reducible (k_here; k_dflt (refine' unpackItemsN_ (by k_asm) (by k_asm) (by first | assumption | (refine News.isTup (by k_asm) (by k_mem))) (by (first | assumption | exact Room.h (by assumption) | exact Room.u_lt (by assumption) | exact Room.less (by assumption) (by decide))) (by exact rfl) ?_; k_whole); intro _ _ _; (try k_sweep))) | ((with_reducible show wpAny _ _ (eval (Expr.Name _ _) _) _ _ _); with_reducible (k_here; k_dflt (apply nameX_L; (case F => k_asm); (case hk => rfl); (case hx => rfl); (case hv => walk_at "M look"); (case hd => decide); k_whole))) | ((with_reducible show wpAny _ _ (call (Value.ref _) _) _ _ _); with_reducible (k_here; k_dflt (apply put_any; (case hR => (first | assumption | exact Room.h (by assumption) | exact Room.u_lt (by assumption) | exact Room.less (by assumption) (by decide))); (case F => k_asm); (case X => k_asm); (case N => k_asm); (case T => k_asm); (case h1 => walk_at "M rel"); (case U => walk_at "M up"); (case h3 => assumption); (case hs => walk_at "M sub"); (case h5 => assumption); (case h4 => walk_at "M rel"); (case hz => first | assumption | omega); (case hg => intro o9; walk_at "M sub"); k_whole); intro _ _ _ _ _ _ _ _ _ _; (try k_sweep))) | ((with_reducible show wpAny _ _ (exec (Stmt.For _ _ _ _ _) _) _ _ _); with_reducible (k_here; k_dflt (refine' for_go (by k_asm) ?_); k_whole)) | walk1 | (dsimp only; walk1) | (dsimp only; k_unfold; try dsimp only)))
    rename_i b1 new1 ro2 h4 tk4 ab1 R1 c1 D2 h5 F5 N5' l5
    obtain ⟨t7, t8, N5⟩ : ∃ t7 t8, News g' L' h5 ((D2, tupO [.ref pp, .int r.age t7, .int now t8]) :: (new1 ++ (its ++ ((kp, ko1) :: (rp, ro2) :: (new ++ bl))))) := ⟨_, _, N5'⟩
    refine known_set (e := ⟨r, now⟩) ((D2, tupO [.ref pp, .int r.age t7, .int now t8]) :: (new1 ++ (new ++ imm))) F5 N5 (by walk_at "M up") (by walk_at "M sub") hK ⟨D2, pp, _, _, rfl, List.Mem.head _, PlaceAt.mono (by walk_at "M sub") ipl⟩ (by omega) ?_
    clear F5 N5 N5'
    intro h6 ko2 tk6 F6 N6 K6
    (repeat' (first | (k_unfold; (try dsimp only)) | ((with_reducible show wpAny _ _ (newTuple _) _ _ _); with_reducible (k_here; k_dflt (refine' kup_newTuple (by k_asm) (by k_asm) ?_ (by exact Nat.le_of_ble_eq_true rfl)); intro _ _ _ _ _; (try k_sweep))) | ((with_reducible show wpAny _ _ (unpackItems (Value.ref _) _ _) _ _ _); with_reducible (k_here; k_dflt (refine' unpackItemsN_ (by k_asm) (by k_asm) (by first | assumption | (refine News.isTup (by k_asm) (by k_mem))) (by (first | assumption | exact Room.h (by assumption) | exact Room.u_lt (by assumption) | exact Room.less (by assumption) (by decide))) (by exact rfl) ?_; k_whole); intro _ _ _; (try k_sweep))) | ((with_reducible show wpAny _ _ (eval (Expr.Name _ _) _) _ _ _); with_reducible (k_here; k_dflt (apply nameX_L; (case F => k_asm); (case hk => rfl); (case hx => rfl); (case hv => walk_at "M look"); (case hd => decide); k_whole))) | ((with_reducible show wpAny _ _ (call (Value.ref _) _) _ _ _); with_reducible (k_here; k_dflt (apply put_any; (case hR => (first | assumption | exact Room.h (by assumption) | exact Room.u_lt (by assumption) | exact Room.less (by assumption) (by decide))); (case F => k_asm); (case X => k_asm); (case N => k_asm); (case T => k_asm); (case h1 => walk_at "M rel"); (case U => walk_at "M up"); (case h3 => assumption); (case hs => walk_at "M sub"); (case h5 => assumption); (case h4 => walk_at "M rel"); (case hz => first | assumption | omega); (case hg => intro o9; walk_at "M sub"); k_whole); intro _ _ _ _ _ _ _ _ _ _; (try k_sweep))) | ((with_reducible show wpAny _ _ (exec (Stmt.For _ _ _ _ _) _) _ _ _); with_reducible (k_here; k_dflt (refine' for_go (by k_asm) ?_); k_whole)) | walk1 | (dsimp only; walk1) | (dsimp only; k_unfold; try dsimp only)))
    refine zhT _ _ ?_; refine Turned.next ((kp, ko2) :: (rp, ro2) :: (D2, tupO [.ref pp, .int r.age t7, .int now t8]) :: (new1 ++ (new ++ bl))) F6 N6 (by walk_at "M sub") (by walk_at "M apart") ?_
    refine ⟨(D2, tupO [.ref pp, .int r.age t7, .int now t8]) :: (new1 ++ new), ko2, ro2, by simp, by walk_at "M above", by simpa only [List.append_assoc, List.cons_append] using K6, by simpa only [List.append_assoc, List.cons_append] using Rows.mono (led' := (D2, tupO [.ref pp, .int r.age t7, .int now t8]) :: (new1 ++ (new ++ imm))) (by walk_at "M sub") R1, ?_, ?_, ?_⟩
    · exact (if_neg (by decide)).trans q1
    · exact (if_neg (by decide)).trans q2
    · exact (if_neg (by decide)).trans q3
  · rintro m1 nn h3 tk3 ⟨new, ko1, ro1, rfl, ab, hK, hW, q1, q2, q3⟩ F3 N3
    clear F2 NN
    have ht : rs.take vs.length = rs := List.take_of_length_le (by omega)
    rw [ht] at hK hW
    (repeat' (first | (k_unfold; (try dsimp only)) | ((with_reducible show wpAny _ _ (newTuple _) _ _ _); with_reducible (k_here; k_dflt (refine' kup_newTuple (by k_asm) (by k_asm) ?_ (by exact Nat.le_of_ble_eq_true rfl)); intro _ _ _ _ _; (try k_sweep))) | ((with_reducible show wpAny _ _ (unpackItems (Value.ref _) _ _) _ _ _); with_reducible (k_here; k_dflt (refine' unpackItemsN_ (by k_asm) (by k_asm) (by first | assumption | (refine News.isTup (by k_asm) (by k_mem))) (by (first | assumption | exact Room.h (by assumption) | exact Room.u_lt (by assumption) | exact Room.less (by assumption) (by decide))) (by exact rfl) ?_; k_whole); intro _ _ _; (try k_sweep))) | ((with_reducible show wpAny _ _ (eval (Expr.Name _ _) _) _ _ _); with_reducible (k_here; k_dflt (apply nameX_L; (case F => k_asm); (case hk => rfl); (case hx => rfl); (case hv => walk_at "M look"); (case hd => decide); k_whole))) | ((with_reducible show wpAny _ _ (call (Value.ref _) _) _ _ _); with_reducible (k_here; k_dflt (apply put_any; (case hR => (first | assumption | exact Room.h (by assumption) | exact Room.u_lt (by assumption) | exact Room.less (by assumption) (by decide))); (case F => k_asm); (case X => k_asm); (case N => k_asm); (case T => k_asm); (case h1 => walk_at "M rel"); (case U => walk_at "M up"); (case h3 => assumption); (case hs => walk_at "M sub"); (case h5 => assumption); (case h4 => walk_at "M rel"); (case hz => first | assumption | omega); (case hg => intro o9; walk_at "M sub"); k_whole); intro _ _ _ _ _ _ _ _ _ _; (try k_sweep))) | ((with_reducible show wpAny _ _ (exec (Stmt.For _ _ _ _ _) _) _ _ _); with_reducible (k_here; k_dflt (refine' for_go (by k_asm) ?_); k_whole)) | walk1 | (dsimp only; walk1) | (dsimp only; k_unfold; try dsimp only)))
    rename_i T1 h4 F4 N4 l4
    (refine' back_ (by k_asm) (by k_asm) ?_); intro kF kN
    have ok1 : Off kp ((rp, ro1) :: (new ++ bl)) := by walk_at "M off"
    have ok2 : Off rp (new ++ bl) := by walk_at "M off"
    subst hbase
    refine hQ T1 x rp kp ko1 ro1 (new ++ [(x, instObj 172 dx), (dx, dictOf [⟨hsh, .str (Str.ofString "rows") t, .ref rp⟩] n)]) _ _ kF (by simpa using kN) (by simpa using l4) (by walk_at "M above") (by simpa using ok1) (by simpa using ok2) ⟨dx, hsh, t, n, by k_mem, by k_mem⟩ (hK.mono (by walk_at "M sub")) (hW.mono (by walk_at "M sub")) p2 p1


theorem made_spec {l : Addr} {lo : Obj} {vs : List Value} {rs : List Row} {now : Int} {tn : Tok}
    (hR : Room A (rn + 14)) (F : Fr B L s.heap m) (X : (hd.heap_39 w.params).In B) (N : News B L s.heap (led)) (T : Top p loose mean mg mb B)
    (hl : (l, lo) ∈ led) (hlo : LstO lo vs) (hr : All2 (RowV led) vs rs) (hz : rs.length ≤ 3)
    (hQ : ∀ T d rp kp ko ro new h' tk', Fr B L h' m → News B L h' ((T, tupO [.ref d, .ref kp]) :: (kp, ko) :: (rp, ro) :: (new ++ led)) → (∀ p ∈ (kp, ko) :: (rp, ro) :: (new ++ led), p.1 < T) → Above led ((kp, ko) :: (rp, ro) :: new) →
      Off kp ((rp, ro) :: (new ++ led)) → Off rp (new ++ led) → DbAt new d rp → Known prog w (new ++ led) ko (madeEs now rs) → Rows prog w (new ++ led) ro (madeEs now rs) → 1 < kp → 1 < rp → Q (.ref T) { s with heap := h', toks := tk' }) :
    wpAny (model prog w) A (call (.ref 204) [.ref l, .int now tn]) Q E s :=
  made_specI hR F X N T hl hlo hr (Sub.refl _) hz hQ
end

def rowLe (r e : Row) : Bool := leB r.num r.tot r.fin e.num e.tot e.fin
abbrev SamePl (r e : Row) : Prop := r.num = e.num ∧ r.tot = e.tot ∧ r.fin = e.fin
def stepE (now : Int) (es : List Ent) (r : Row) : List Ent × List Row := match findE es r.name with
  | none => (putE es ⟨r, now⟩, [])
  | some e => if rowLe r e.row = true then (if SamePl r e.row then (es, []) else (es, [agedE now e])) else (putE es ⟨r, now⟩, [])
def runE (now : Int) (es : List Ent) (rs : List Row) : List Ent × List Row := rs.foldl (fun q r => ((stepE now q.1 r).1, q.2 ++ (stepE now q.1 r).2)) (es, [])
def Fit (now : Int) (r : Row) : Prop := ((r.fin = true ∧ r.age = 3600) ∨ (r.fin = false ∧ 0 ≤ r.age ∧ r.age ≤ now)) ∧ r.num ≤ 1000
def Ok (now : Int) (es : List Ent) : Prop := ∀ e ∈ es, Fit now (agedE now e)
theorem vdv {now : Int} {r a : Row} (hn : now ≤ 800) (h1 : Fit now r) (h2 : Fit now a) :
    vdOf (newerR r.age r.num r.tot a.age a.num a.tot) = if rowLe r a = true then (if SamePl r a then .same else .back) else .take := by
  obtain ⟨g1, n1, u1, v1, f1⟩ := r
  obtain ⟨g2, n2, u2, v2, f2⟩ := a
  obtain ⟨h1, _⟩ := h1
  obtain ⟨h2, _⟩ := h2
  simp only [rowLe, SamePl, leB, newerR, vdOf] at *
  by_cases e1 : u1 = u2
  · subst e1
    by_cases e2 : v1 = v2
    · subst e2
      rcases h1 with ⟨rfl, rfl⟩ | ⟨rfl, a1, a2⟩ <;> rcases h2 with ⟨rfl, rfl⟩ | ⟨rfl, b1, b2⟩
      · simp
      · have : ¬ (3600 ≤ g2) := by omega
        simp [this]
      · have : ¬ (3600 ≤ g1) := by omega
        simp [this]
      · have c1 : ¬ (3600 ≤ g1) := by omega
        have c2 : ¬ (3600 ≤ g2) := by omega
        have c3 : ¬ (900 < if g1 - g2 < 0 then -(g1 - g2) else g1 - g2) := by split <;> omega
        simp [c1, c2, c3]
    · by_cases e3 : v2 < v1
      · have : ¬ (v1 ≤ v2) := by omega
        simp [e2, e3, this]
      · have : v1 ≤ v2 := by omega
        simp [e2, e3, this]
  · by_cases e3 : u2 < u1
    · have : ¬ (u1 ≤ u2) := by omega
      simp [e1, e3, this]
    · have : u1 ≤ u2 := by omega
      simp [e1, e3, this]
abbrev takeD : PyData := .tuple [.str (Str.ofString "take")]
abbrev sameD : PyData := .tuple [.str (Str.ofString "same"), .bool false]
abbrev backD : PyData := .tuple [.str (Str.ofString "send back")]
theorem vd_can1 : takeD.canLay0 = true := by have h : PyData.strOk (Str.ofString "take") = true := by decide +kernel
                                             simp [PyData.canLay0, PyData.canLayAll0, h]
theorem vd_can2 : sameD.canLay0 = true := by have h : PyData.strOk (Str.ofString "same") = true := by decide +kernel
                                             simp [PyData.canLay0, PyData.canLayAll0, h]
theorem vd_can3 : backD.canLay0 = true := by have h : PyData.strOk (Str.ofString "send back") = true := by decide +kernel
                                             simp [PyData.canLay0, PyData.canLayAll0, h]
theorem vd_dep1 : takeD.depth ≤ 8 := by simp [PyData.depth, PyData.depthAll]
theorem vd_dep2 : sameD.depth ≤ 8 := by simp [PyData.depth, PyData.depthAll]
theorem vd_dep3 : backD.depth ≤ 8 := by simp [PyData.depth, PyData.depthAll]
theorem vd_tt : PyData.eqv takeD takeD = true := by decide +kernel
theorem vd_ts : PyData.eqv takeD sameD = false := by decide +kernel
theorem vd_tb : PyData.eqv takeD backD = false := by decide +kernel
theorem vd_st : PyData.eqv sameD takeD = false := by decide +kernel
theorem vd_ss : PyData.eqv sameD sameD = true := by decide +kernel
theorem vd_sb : PyData.eqv sameD backD = false := by decide +kernel
theorem vd_bt : PyData.eqv backD takeD = false := by decide +kernel
theorem vd_bs : PyData.eqv backD sameD = false := by decide +kernel
theorem vd_bb : PyData.eqv backD backD = true := by decide +kernel
theorem vd_dat_t {led led' : Led} {a : Addr} (s : Sub led' led) (h : VdAt led' a .take) : DatAt led (.ref a) takeD := by obtain ⟨t, m⟩ := h; exact DatAt.tup (s _ m) (.cons .str .nil)
theorem vd_dat_s {led led' : Led} {a : Addr} (s : Sub led' led) (h : VdAt led' a .same) : DatAt led (.ref a) sameD := by obtain ⟨t, m⟩ := h; exact DatAt.tup (s _ m) (.cons .str (.cons .bool .nil))
theorem vd_dat_b {led led' : Led} {a : Addr} (s : Sub led' led) (h : VdAt led' a .back) : DatAt led (.ref a) backD := by obtain ⟨t, m⟩ := h; exact DatAt.tup (s _ m) (.cons .str .nil)
section
variable {prog : Program} {w : World} {A : Around} {s : Shared} {B : Heap} {L : Addr} {m mg mb : Str → Option Value} {led : List (Addr × Obj)} {p : Program} {loose : List Str} {mean : ExcName → Option Value} {Q E : Value → Shared → Prop} {rn : Nat}

theorem look_some3 {imm : Led} {d rp k : Addr} {o : Obj} {es : List Ent} {n now : Int} {tn : Tok} {e : Ent}
    (hR : Room A (rn + 8)) (F : Fr B L s.heap m) (X : (hd.heap_39 w.params).In B) (N : News B L s.heap led) (T : Top p loose mean mg mb B)
    (h1 : DbAt led d rp) (h2 : (rp, o) ∈ led) (h3 : Rows prog w imm o es) (hs : Sub imm led) (h4 : KeyAt led k n) (h5 : 1 < rp) (h6 : findE es n = some e)
    (hQ : ∀ k hp bp new h' tk', Fr B L h' m → News B L h' (new ++ led) → Above led new → (k, tupO [.ref hp, .ref bp]) ∈ new ++ led → HeadAt (new ++ led) hp (agedE now e).age e.row.name e.row.num e.row.tot → RowAt (new ++ imm) k (agedE now e) → Q (.ref k) { s with heap := h', toks := tk' }) :
    wpAny (model prog w) A (call (.ref 100) [.ref d, .ref k, .int now tn]) Q E s := by
  refine look_some hR F X N T h1 h2 h3 hs h4 h5 h6 fun k new h' tk' F' N' ab rw' => ?_
  obtain ⟨hp, bp, r1, r2, r3⟩ := rw'
  have sb : Sub (new ++ imm) (new ++ led) := Sub.both Sub.inl (hs.trans Sub.app)
  exact hQ k hp bp new h' tk' F' N' ab (sb _ r1) (r2.mono sb) ⟨hp, bp, r1, r2, r3⟩

theorem le_place2 {h₀ : Heap} {a b : Addr} {u v u' v' : Int} {f f' : Bool} {t1 t2 t3 t4 : Tok} {bb : Bool} (hR : Room A (rn + 1)) (N : News h₀ L s.heap led) (ha : (a, tupO [.int u t1, .int v t2, .bool f]) ∈ led) (hb : (b, tupO [.int u' t3, .int v' t4, .bool f']) ∈ led)
    (hbb : leB u v f u' v' f' = bb) (h : Q (.bool bb) s) : wpAny (model prog w) A (compareOp .LtE (.ref a) (.ref b)) Q E s := by
  subst hbb; exact le_place hR N ha hb h
def Chg (es : List Ent) (r : Row) : Prop := match findE es r.name with
  | none => True
  | some e => ¬ (r.num = e.row.num ∧ r.tot = e.row.tot ∧ r.fin = e.row.fin)
theorem put_true {imm : Led} {d rp la : Addr} {o : Obj} {es : List Ent} {r : Row} {now : Int} {tn : Tok} {gU : Obj → Led}
    (hR : Room A (rn + 10)) (F : Fr B L s.heap m) (X : (hd.heap_39 w.params).In B) (N : News B L s.heap (led)) (T : Top p loose mean mg mb B)
    (hc : Chg es r) (h1 : DbAt led d rp) (U : UpF rp o led gU) (hg : ∀ o', Sub imm (gU o')) (h3 : Rows prog w imm o es) (hs : Sub imm led) (h5 : 1 < rp) (h4 : RowAt imm la r) (hz : es.length ≤ 100)
    (hQ : ∀ new o' h' tk', Fr B L h' m → News B L h' (new ++ gU o') → Above led new → Rows prog w (new ++ imm) o' (putE es ⟨r, now⟩) → Q (.bool true) { s with heap := h', toks := tk' }) :
    wpAny (model prog w) A (call (.ref 93) [.ref d, .ref la, .int now tn]) Q E s := by
  refine put_any hR F X N T h1 U hg h3 hs h5 h4 hz fun b new o' h' tk' F' N' ab R' c' => ?_
  have hb : b = true := by
    unfold ChangedIf at c'
    unfold Chg at hc
    cases hf : findE es r.name with
    | none => rw [hf] at c'; exact c'
    | some e => rw [hf] at c' hc; exact c' fun ⟨x, y, z⟩ => hc ⟨x.symm, y.symm, z.symm⟩
  subst hb
  exact hQ new o' h' tk' F' N' ab R'
theorem tok3 {h₀ h : Heap} {L D pp : Addr} {a b : Int} {t7 t8 : Tok} {rest : Led} {P : Prop} (N : News h₀ L h ((D, tupO [.ref pp, .int a t7, .int b t8]) :: rest)) (k : ∀ t7 t8, News h₀ L h ((D, tupO [.ref pp, .int a t7, .int b t8]) :: rest) → P) : P := k _ _ N
theorem verdict_fit {a fd ow oh : Addr} {r : Row} {e : Ent} {vdx : Vd} {now since : Int} {tn ts : Tok}
    (hR : Room A (rn + 6)) (F : Fr B L s.heap m) (X : (hd.heap_39 w.params).In B) (N : News B L s.heap led) (T : Top p loose mean mg mb B)
    (hvd : (if rowLe r e.row = true then (if SamePl r e.row then Vd.same else .back) else .take) = vdx) (hf : Fit now r) (hf2 : Fit now (agedE now e)) (hn : now ≤ 800)
    (h1 : HeadAt led a r.age r.name r.num r.tot) (h2 : FactsAt prog w led fd) (h3 : (ow, tupO [.ref oh, .int since ts]) ∈ led) (h4 : HeadAt led oh (agedE now e).age e.row.name e.row.num e.row.tot)
    (hQ : ∀ k new h' tk', Fr B L h' m → News B L h' (new ++ led) → Above led new → VdAt new k vdx → Q (.ref k) { s with heap := h', toks := tk' }) :
    wpAny (model prog w) A (call (.ref 58) [.ref a, .ref ow, .int now tn, .ref fd]) Q E s := by
  have hu : e.row.num ≠ 2147483647 := by have : e.row.num ≤ 1000 := hf2.2; omega
  refine verdict_some hR F X N T h1 h2 h3 h4 hu fun k vd new h' tk' F' N' ab hv e' => ?_
  have hh := vdv hn hf hf2
  have h3 : vd = vdx := by rw [e', ← hvd]; exact hh
  subst h3
  exact hQ k new h' tk' F' N' ab hv
end

section
variable {prog : Program} {w : World} {A : Around} {s : Shared} {B : Heap} {L : Addr} {m mg mb : Str → Option Value} {led : List (Addr × Obj)} {p : Program} {loose : List Str} {mean : ExcName → Option Value} {Q E : Value → Shared → Prop} {rn : Nat}

theorem nameB {nl X : Led} {kk : Addr} {r : Row} {P : Prop} (_ : RowAt (nl ++ X) kk r) (k : ∀ nl' kk', nl' = nl → kk' = kk → P) : P := k nl kk rfl rfl
theorem nameL {o : Obj} {vs : List Value} {P : Prop} (_ : LstX o vs) (k : ∀ o', o' = o → P) : P := k o rfl
theorem allLt_at {d : Addr} : ∀ {l : Led}, AllLt d l → ∀ p ∈ l, p.1 < d
  | [], _, _, h => nomatch h
  | _ :: _, x, p, h => by
    rcases List.mem_cons.mp h with rfl | h
    · exact x.1
    · exact allLt_at x.2 p h
theorem runE_snoc (now : Int) (es : List Ent) (rs : List Row) (i : Nat) (r : Row) (h : rs[i]? = some r) :
    runE now es (rs.take (i + 1)) = ((stepE now (runE now es (rs.take i)).1 r).1, (runE now es (rs.take i)).2 ++ (stepE now (runE now es (rs.take i)).1 r).2) := by
  unfold runE
  rw [List.take_add_one, h]
  simp
theorem step_len (now : Int) (es : List Ent) (r : Row) : (stepE now es r).1.length ≤ es.length + 1 := by
  unfold stepE
  split
  · exact putE_len _ _
  · split
    · split <;> simp
    · exact putE_len _ _
theorem putE_mem {es : List Ent} {e x : Ent} (h : x ∈ putE es e) : x = e ∨ x ∈ es := by
  unfold putE at h
  split at h
  · obtain ⟨y, hy, q⟩ := List.mem_map.mp h
    split at q
    · exact .inl q.symm
    · exact .inr (q ▸ hy)
  · rcases List.mem_append.mp h with h | h
    · exact .inr h
    · exact .inl (List.mem_singleton.mp h)
theorem fit_new {now : Int} {r : Row} (hn : now ≤ 800) (h : Fit now r) : agedE now ⟨r, now⟩ = r := by
  obtain ⟨g, n, u, v, f⟩ := r
  obtain ⟨h, _⟩ := h
  simp only [agedE, Row.mk.injEq, and_true]
  rcases h with ⟨_, h⟩ | ⟨_, h, h'⟩ <;> simp only at * <;> omega
theorem ok_put {now : Int} {es : List Ent} {r : Row} (hn : now ≤ 800) (hok : Ok now es) (h : Fit now r) : Ok now (putE es ⟨r, now⟩) := fun x hx => by
  rcases putE_mem hx with rfl | hx
  · rw [fit_new hn h]; exact h
  · exact hok x hx
theorem ok_step {now : Int} {es : List Ent} {r : Row} (hn : now ≤ 800) (hok : Ok now es) (h : Fit now r) : Ok now (stepE now es r).1 := by
  unfold stepE
  split
  · exact ok_put hn hok h
  · split
    · split <;> exact hok
    · exact ok_put hn hok h
theorem ok_run {now : Int} {es : List Ent} (hn : now ≤ 800) (hok : Ok now es) : ∀ (rs : List Row), (∀ r ∈ rs, Fit now r) → Ok now (runE now es rs).1 := by
  have : ∀ (rs : List Row) (q : List Ent × List Row), Ok now q.1 → (∀ r ∈ rs, Fit now r) → Ok now (rs.foldl (fun q r => ((stepE now q.1 r).1, q.2 ++ (stepE now q.1 r).2)) q).1 := by
    intro rs
    induction rs with
    | nil => intro q h _; exact h
    | cons r rs ih => intro q h hf; exact ih _ (ok_step hn h (hf r (.head _))) fun x hx => hf x (.tail _ hx)
  intro rs hf
  exact this rs (es, []) hok hf
theorem run_len {now : Int} {es : List Ent} (rs : List Row) : (runE now es rs).1.length ≤ es.length + rs.length := by
  have : ∀ (rs : List Row) (q : List Ent × List Row), (rs.foldl (fun q r => ((stepE now q.1 r).1, q.2 ++ (stepE now q.1 r).2)) q).1.length ≤ q.1.length + rs.length := by
    intro rs
    induction rs with
    | nil => intro q; simp
    | cons r rs ih => intro q; simp only [List.foldl_cons, List.length_cons]; have := ih ((stepE now q.1 r).1, q.2 ++ (stepE now q.1 r).2); have := step_len now q.1 r; simp only at *; omega
  exact this rs (es, [])

theorem sent_back_spec {imm : Led} {l d kp rp : Addr} {lo ko ro : Obj} {vs : List Value} {rs : List Row} {es : List Ent} {now : Int} {tn : Tok}
    (hR : Room A (rn + 14)) (F : Fr B L s.heap m) (X : (hd.heap_39 w.params).In B) (N : News B L s.heap ((kp, ko) :: (rp, ro) :: led)) (T : Top p loose mean mg mb B)
    (hl : (l, lo) ∈ led) (hlo : LstO lo vs) (hr : All2 (RowV imm) vs rs) (hz : rs.length ≤ 50) (hz2 : es.length ≤ 50) (o2 : Off kp led) (o3 : Off rp led) (n3 : kp ≠ rp)
    (h1 : DbAt led d rp) (hK : Known prog w imm ko es) (hW : Rows prog w imm ro es) (hs : Sub imm led) (p1 : 1 < kp) (p2 : 1 < rp) (hn : now ≤ 800) (hok : Ok now es) (hfit : ∀ r ∈ rs, Fit now r)
    (hQ : ∀ D bo ko' ro' new bvs h' tk', Fr B L h' m → News B L h' ((D, bo) :: (kp, ko') :: (rp, ro') :: (new ++ led)) → Above ((kp, ko) :: (rp, ro) :: led) ((D, bo) :: new) → Off D new → LstX bo bvs → All2 (RowV (new ++ imm)) bvs (runE now es rs).2 →
      Known prog w (new ++ imm) ko' (runE now es rs).1 → Rows prog w (new ++ imm) ro' (runE now es rs).1 → Q (.ref D) { s with heap := h', toks := tk' }) :
    wpAny (model prog w) A (call (.ref 211) [.ref d, .ref kp, .ref l, .int now tn]) Q E s := by
  skip
  refine callFn [("base", .ref d), ("known", .ref kp), ("rows", .ref l), ("now", .int now tn)] F X N T (by k_is) (by k_is) (by (first | assumption | exact Room.h (by assumption) | exact Room.u_lt (by assumption) | exact Room.less (by assumption) (by decide))) (by first | exact BindsTo.of_eq rfl | exact binds_K (by k_in) rfl (by k_is) rfl rfl rfl) (locs rfl) ?_ rfl rfl rfl (by decide)
  intro g' L' h' F' N' X' T' hz' hR'
  clear F N X T hR
  k_fold
  (repeat' (first | (k_unfold; (try dsimp only)) | ((with_reducible show wpAny _ _ (newTuple _) _ _ _); with_reducible (k_here; k_dflt (refine' kup_newTuple (by k_asm) (by k_asm) ?_ (by exact Nat.le_of_ble_eq_true rfl)); intro _ _ _ _ _; (try k_sweep))) | ((with_reducible show wpAny _ _ (compareOp CmpOp.In (Value.int _ _) (Value.ref _)) _ _ _); with_reducible (k_here; k_dflt (refine' known_in (by k_asm) (by k_mem) (by assumption) (by assumption) (by first | exact isSome_some (by assumption) | exact isSome_none (by assumption)) ?_; k_whole); intro _)) | ((with_reducible show wpAny _ _ (subscriptTail _ _ (Value.ref _) _) _ _ _); with_reducible (k_here; (with_reducible show wpAny _ _ (subscriptTail _ _ (Value.ref _) (Value.int _ _)) _ _ _); k_dflt (apply known_tail2; (case N => k_asm); (case hm => k_mem); (case R => assumption); (case hs => walk_at "M sub"); (case he => assumption); (case hu => with_unfolding_all rfl); k_whole); intro _ _ _ _ _ _ _ _ _ _)) | ((with_reducible show wpAny _ _ (unpackItems (Value.ref _) _ _) _ _ _); with_reducible (k_here; k_dflt (refine' unpackItemsN_ (by k_asm) (by k_asm) (by first | assumption | (refine News.isTup (by k_asm) (by k_mem))) (by (first | assumption | exact Room.h (by assumption) | exact Room.u_lt (by assumption) | exact Room.less (by assumption) (by decide))) (by exact rfl) ?_; k_whole); intro _ _ _; (try k_sweep))) | ((with_reducible show wpAny _ _ (compareOp CmpOp.NotEq (Value.ref _) (Value.ref _)) _ _ _); with_reducible (k_here; k_dflt (refine' ne_dat (by (first | assumption | exact Room.h (by assumption) | exact Room.u_lt (by assumption) | exact Room.less (by assumption) (by decide))) (by k_asm) (by (first | (refine' vd_dat_t ?_ (by assumption); (walk_at "M sub")) | (refine' vd_dat_s ?_ (by assumption); (walk_at "M sub")) | (refine' vd_dat_b ?_ (by assumption); (walk_at "M sub")) | exact DatAt.tup (by k_mem) (.cons .str .nil) | exact DatAt.tup (by k_mem) (.cons .str (.cons .bool .nil)) | (refine' PlaceAt.dat (by walk_at "M rel")))) (by (first | (refine' vd_dat_t ?_ (by assumption); (walk_at "M sub")) | (refine' vd_dat_s ?_ (by assumption); (walk_at "M sub")) | (refine' vd_dat_b ?_ (by assumption); (walk_at "M sub")) | exact DatAt.tup (by k_mem) (.cons .str .nil) | exact DatAt.tup (by k_mem) (.cons .str (.cons .bool .nil)) | (refine' PlaceAt.dat (by walk_at "M rel")))) (by (first | exact vd_can1 | exact vd_can2 | exact vd_can3 | exact vd_dep1 | exact vd_dep2 | exact vd_dep3 | exact place_can | exact place_depth)) (by (first | exact vd_can1 | exact vd_can2 | exact vd_can3 | exact vd_dep1 | exact vd_dep2 | exact vd_dep3 | exact place_can | exact place_depth)) (by (first | exact vd_can1 | exact vd_can2 | exact vd_can3 | exact vd_dep1 | exact vd_dep2 | exact vd_dep3 | exact place_can | exact place_depth)) (by (first | exact place_eqv.trans (decide_eq_true (by assumption)) | exact place_eqv.trans (decide_eq_false (by assumption)) | exact vd_tt | exact vd_ts | exact vd_tb | exact vd_st | exact vd_ss | exact vd_sb | exact vd_bt | exact vd_bs | exact vd_bb)) ?_; k_whole))) | ((with_reducible show wpAny _ _ (eval (Expr.Name _ _) _) _ _ _); with_reducible (k_here; k_dflt (apply nameX_L; (case F => k_asm); (case hk => rfl); (case hx => rfl); (case hv => walk_at "M look"); (case hd => decide); k_whole))) | ((with_reducible show wpAny _ _ (compareOp CmpOp.LtE (Value.ref _) (Value.ref _)) _ _ _); with_reducible (k_here; k_dflt (refine' le_place2 (by (first | assumption | exact Room.h (by assumption) | exact Room.u_lt (by assumption) | exact Room.less (by assumption) (by decide))) (by k_asm) (by k_mem) (by k_mem) (by assumption) ?_; k_whole))) | ((with_reducible show wpAny _ _ (compareOp CmpOp.Eq (Value.ref _) (Value.ref _)) _ _ _); with_reducible (k_here; k_dflt (refine' eq_dat (by (first | assumption | exact Room.h (by assumption) | exact Room.u_lt (by assumption) | exact Room.less (by assumption) (by decide))) (by k_asm) (by (first | (refine' vd_dat_t ?_ (by assumption); (walk_at "M sub")) | (refine' vd_dat_s ?_ (by assumption); (walk_at "M sub")) | (refine' vd_dat_b ?_ (by assumption); (walk_at "M sub")) | exact DatAt.tup (by k_mem) (.cons .str .nil) | exact DatAt.tup (by k_mem) (.cons .str (.cons .bool .nil)) | (refine' PlaceAt.dat (by walk_at "M rel")))) (by (first | (refine' vd_dat_t ?_ (by assumption); (walk_at "M sub")) | (refine' vd_dat_s ?_ (by assumption); (walk_at "M sub")) | (refine' vd_dat_b ?_ (by assumption); (walk_at "M sub")) | exact DatAt.tup (by k_mem) (.cons .str .nil) | exact DatAt.tup (by k_mem) (.cons .str (.cons .bool .nil)) | (refine' PlaceAt.dat (by walk_at "M rel")))) (by (first | exact vd_can1 | exact vd_can2 | exact vd_can3 | exact vd_dep1 | exact vd_dep2 | exact vd_dep3 | exact place_can | exact place_depth)) (by (first | exact vd_can1 | exact vd_can2 | exact vd_can3 | exact vd_dep1 | exact vd_dep2 | exact vd_dep3 | exact place_can | exact place_depth)) (by (first | exact vd_can1 | exact vd_can2 | exact vd_can3 | exact vd_dep1 | exact vd_dep2 | exact vd_dep3 | exact place_can | exact place_depth)) (by (first | exact place_eqv.trans (decide_eq_true (by assumption)) | exact place_eqv.trans (decide_eq_false (by assumption)) | exact vd_tt | exact vd_ts | exact vd_tb | exact vd_st | exact vd_ss | exact vd_sb | exact vd_bt | exact vd_bs | exact vd_bb)) ?_; k_whole))) | ((with_reducible show wpAny _ _ (getMethod (Value.ref _) _ _) _ _ _); with_reducible (k_here; (with_reducible show wpAny _ _ (getMethod (Value.ref _) (PySem.Str.ofString "append") _) _ _ _); k_dflt (refine' lst_method (by k_asm) (by k_mem) (by assumption) PySem.F.slot_list_append PySem.F.type_list_append ?_))) | ((with_reducible show wpAny _ _ (call (Value.builtin "list.append") _) _ _ _); with_reducible (k_here; k_dflt (apply lst_append; (case F => k_asm); (case N => k_asm); (case U => walk_at "M up"); (case ho => assumption); (case hz => omega); k_whole); intro _ _ _; intro zN; (try dsimp only at zN); revert zN; intro _; intro _; (try k_sweep))) | ((with_reducible show wpAny _ _ (call (Value.ref _) _) _ _ _); (first | with_reducible (k_here; k_dflt (refine' verdict_fit (by (first | assumption | exact Room.h (by assumption) | exact Room.u_lt (by assumption) | exact Room.less (by assumption) (by decide))) (by k_asm) (by k_asm) (by k_asm) (by k_asm) (by assumption) (by assumption) (by assumption) (by assumption) (by walk_at "M rel") (by walk_at "M rel") (by k_mem) (by walk_at "M rel") ?_; k_whole); intro _ _ _ _ _ _ _ _; (try k_sweep)) | with_reducible (k_here; k_dflt (refine' verdict_none (by (first | assumption | exact Room.h (by assumption) | exact Room.u_lt (by assumption) | exact Room.less (by assumption) (by decide))) (by k_asm) (by k_asm) (by k_asm) (by k_asm) (by walk_at "M rel") (by walk_at "M rel") ?_; k_whole); intro _ _ _ _ _ _ _ _; (try k_sweep)) | with_reducible (k_here; k_dflt (refine' look_some3 (by (first | assumption | exact Room.h (by assumption) | exact Room.u_lt (by assumption) | exact Room.less (by assumption) (by decide))) (by k_asm) (by k_asm) (by k_asm) (by k_asm) (by walk_at "M rel") (by k_mem) (by assumption) (by walk_at "M sub") (by walk_at "M rel") (by assumption) (by assumption) ?_; k_whole); intro _ _ _ _ _ _ _ _ _ _ _ _; (try k_sweep)) | with_reducible (k_here; k_dflt (refine' look_none (by (first | assumption | exact Room.h (by assumption) | exact Room.u_lt (by assumption) | exact Room.less (by assumption) (by decide))) (by k_asm) (by k_asm) (by k_asm) (by k_asm) (by walk_at "M rel") (by k_mem) (by assumption) (by walk_at "M sub") (by walk_at "M rel") (by assumption) (by assumption) ?_; k_whole); intro _ _ _ _; (try k_sweep)) | with_reducible (k_here; k_dflt (refine' since_spec (by (first | assumption | exact Room.h (by assumption) | exact Room.u_lt (by assumption) | exact Room.less (by assumption) (by decide))) (by k_asm) (by k_asm) (by k_asm) (by k_asm) (by walk_at "M rel") (by k_mem) (by assumption) (by walk_at "M sub") (by walk_at "M rel") (by assumption) (by assumption) ?_; k_whole); intro _ _ _ _ _; (try k_sweep)) | with_reducible (k_here; k_dflt (apply put_true; (case hR => (first | assumption | exact Room.h (by assumption) | exact Room.u_lt (by assumption) | exact Room.less (by assumption) (by decide))); (case F => k_asm); (case X => k_asm); (case N => k_asm); (case T => k_asm); (case hc => assumption); (case h1 => walk_at "M rel"); (case U => walk_at "M up"); (case h3 => assumption); (case hs => walk_at "M sub"); (case h5 => assumption); (case h4 => walk_at "M rel"); (case hz => first | assumption | omega); (case hg => intro o9; walk_at "M sub"); k_whole); intro _ _ _ _ _ _ _ _; (try k_sweep)))) | ((with_reducible show wpAny _ _ (exec (Stmt.For _ _ _ _ _) _) _ _ _); with_reducible (k_here; k_dflt (refine' for_go (by k_asm) ?_); k_whole)) | walk1 | (dsimp only; walk1) | (dsimp only; k_unfold; try dsimp only)))
  rename_i h4 fo flo fd1 fd2 fap fl1 h5 D h6 lD h7 F7 N7
  generalize hfd : h'.objs.size = fd at *
  clear hfd hz' fap
  have lfd := allLt_at fl1.2.2
  have lDl := allLt_at lD.2.2.2
  have hfacts : FactsAt prog w ((fd, fo) :: led) fd := ⟨fo, _, .head _, flo, fd1, fd2⟩
  have NN : News g' L' h7 ((D, listOf #[] 0) :: (kp, ko) :: (rp, ro) :: ([] ++ ((fd, fo) :: led))) := News.sub N7 (Sub.consl (.head _) (Sub.consl (.tail _ (.tail _ (.head _))) (Sub.consl (.tail _ (.tail _ (.tail _ (.head _)))) (Sub.consl (.tail _ (.head _)) (Sub.refl _).cons.cons.cons.cons))))
  clear N7
  have nDk : D ≠ kp := Nat.ne_of_gt lD.2.1
  have nDr : D ≠ rp := Nat.ne_of_gt lD.2.2.1
  have ofk : Off kp ((fd, fo) :: led) := Off.cons' (Nat.ne_of_gt fl1.1) o2
  have ofr : Off rp ((fd, fo) :: led) := Off.cons' (Nat.ne_of_gt fl1.2.1) o3
  have ofD : Off D ((fd, fo) :: led) := Off.cons' (Nat.ne_of_lt lD.1) fun p hp => Nat.ne_of_lt (lDl p hp)
  have hbo : LstX (listOf #[] 0) [] := ⟨0, rfl⟩
  have hlen := hr.length
  have h1c := h1
  obtain ⟨dx, hsd, td, nd, d1, d2⟩ := h1c
  refine for_list (fun i m nn => ∃ new bo ko1 ro1 bvs, nn = (D, bo) :: (kp, ko1) :: (rp, ro1) :: (new ++ ((fd, fo) :: led)) ∧ Above ((D, listOf #[] 0) :: (kp, ko) :: (rp, ro) :: ((fd, fo) :: led)) new ∧ LstX bo bvs ∧ All2 (RowV (new ++ imm)) bvs (runE now es (rs.take i)).2 ∧
      bvs.length ≤ i ∧ Known prog w (new ++ imm) ko1 (runE now es (rs.take i)).1 ∧ Rows prog w (new ++ imm) ro1 (runE now es (rs.take i)).1 ∧
      m (Str.ofString "base") = some (.ref d) ∧ m (Str.ofString "known") = some (.ref kp) ∧ m (Str.ofString "now") = some (.int now tn) ∧ m (Str.ofString "facts") = some (.ref fd) ∧ m (Str.ofString "back") = some (.ref D)) hR'.h F7 NN
      (List.Mem.tail _ (List.Mem.tail _ (List.Mem.tail _ (List.Mem.tail _ hl)))) hlo ?_ ⟨[], _, ko, ro, [], rfl, Above.nil, hbo, .nil, by simp, hK, hW, rfl, rfl, rfl, rfl, rfl⟩ ?_ ?_
  · rintro i m nn ⟨new, bo, ko1, ro1, bvs, rfl, _⟩
    exact List.Mem.tail _ (List.Mem.tail _ (List.Mem.tail _ (List.mem_append_right _ (List.Mem.tail _ hl))))
  · rintro i v m1 nn h3 tk3 its hv ⟨new, bo, ko1, ro1, bvs, rfl, ab, lb, a2, bl, hKi, hWi, q1, q2, q3, q4, q5⟩ F3 N3 ap
    clear F7 NN hK hW
    obtain ⟨r, hri, la, rfl, hrow⟩ := hr.get' hv
    have hi50 : i < rs.length := (List.getElem?_eq_some_iff.mp hri).1
    have hOk : Ok now (runE now es (rs.take i)).1 := ok_run hn hok _ fun x hx => hfit x (List.mem_of_mem_take hx)
    have hLn : (runE now es (rs.take i)).1.length ≤ 100 := Nat.le_trans (run_len _) (by simp; omega)
    have hFr := hfit r (List.mem_of_getElem? hri)
    rw [runE_snoc now es rs i r hri]
    generalize hq : runE now es (rs.take i) = q at *
    obtain ⟨esi, bki⟩ := q
    simp only at a2 hKi hWi hOk hLn ⊢
    clear hq
    have hrowL := hrow.mono hs
    have hrowc := hrow
    obtain ⟨hp, bp, i1, ⟨t0, t1, t2, t3, t4, t5, t6, i2⟩, ⟨pp, u0, u1, i3, ipl⟩⟩ := hrowc
    have iplc := ipl
    obtain ⟨u2, u3, i4⟩ := iplc
    have r1 := hs _ i1
    have r2 := hs _ i2
    have r3 := hs _ i3
    have r4 := hs _ i4
    clear i1 i2 i3 i4
    have hrowI : RowAt (new ++ imm) la r := hrow.mono Sub.app
    unfold stepE
    cases he : findE esi r.name with
    | none =>
      simp only [List.append_nil]
      have hc : Chg esi r := by unfold Chg; rw [he]; trivial
      intro zTQ zhT
      (repeat' (first | (k_unfold; (try dsimp only)) | ((with_reducible show wpAny _ _ (newTuple _) _ _ _); with_reducible (k_here; k_dflt (refine' kup_newTuple (by k_asm) (by k_asm) ?_ (by exact Nat.le_of_ble_eq_true rfl)); intro _ _ _ _ _; (try k_sweep))) | ((with_reducible show wpAny _ _ (compareOp CmpOp.In (Value.int _ _) (Value.ref _)) _ _ _); with_reducible (k_here; k_dflt (refine' known_in (by k_asm) (by k_mem) (by assumption) (by assumption) (by first | exact isSome_some (by assumption) | exact isSome_none (by assumption)) ?_; k_whole); intro _)) | ((with_reducible show wpAny _ _ (subscriptTail _ _ (Value.ref _) _) _ _ _); with_reducible (k_here; (with_reducible show wpAny _ _ (subscriptTail _ _ (Value.ref _) (Value.int _ _)) _ _ _); k_dflt (apply known_tail2; (case N => k_asm); (case hm => k_mem); (case R => assumption); (case hs => walk_at "M sub"); (case he => assumption); (case hu => with_unfolding_all rfl); k_whole); intro _ _ _ _ _ _ _ _ _ _)) | ((with_reducible show wpAny _ _ (unpackItems (Value.ref _) _ _) _ _ _); with_reducible (k_here; k_dflt (refine' unpackItemsN_ (by k_asm) (by k_asm) (by first | assumption | (refine News.isTup (by k_asm) (by k_mem))) (by (first | assumption | exact Room.h (by assumption) | exact Room.u_lt (by assumption) | exact Room.less (by assumption) (by decide))) (by exact rfl) ?_; k_whole); intro _ _ _; (try k_sweep))) | ((with_reducible show wpAny _ _ (compareOp CmpOp.NotEq (Value.ref _) (Value.ref _)) _ _ _); with_reducible (k_here; k_dflt (refine' ne_dat (by (first | assumption | exact Room.h (by assumption) | exact Room.u_lt (by assumption) | exact Room.less (by assumption) (by decide))) (by k_asm) (by (first | (refine' vd_dat_t ?_ (by assumption); (walk_at "M sub")) | (refine' vd_dat_s ?_ (by assumption); (walk_at "M sub")) | (refine' vd_dat_b ?_ (by assumption); (walk_at "M sub")) | exact DatAt.tup (by k_mem) (.cons .str .nil) | exact DatAt.tup (by k_mem) (.cons .str (.cons .bool .nil)) | (refine' PlaceAt.dat (by walk_at "M rel")))) (by (first | (refine' vd_dat_t ?_ (by assumption); (walk_at "M sub")) | (refine' vd_dat_s ?_ (by assumption); (walk_at "M sub")) | (refine' vd_dat_b ?_ (by assumption); (walk_at "M sub")) | exact DatAt.tup (by k_mem) (.cons .str .nil) | exact DatAt.tup (by k_mem) (.cons .str (.cons .bool .nil)) | (refine' PlaceAt.dat (by walk_at "M rel")))) (by (first | exact vd_can1 | exact vd_can2 | exact vd_can3 | exact vd_dep1 | exact vd_dep2 | exact vd_dep3 | exact place_can | exact place_depth)) (by (first | exact vd_can1 | exact vd_can2 | exact vd_can3 | exact vd_dep1 | exact vd_dep2 | exact vd_dep3 | exact place_can | exact place_depth)) (by (first | exact vd_can1 | exact vd_can2 | exact vd_can3 | exact vd_dep1 | exact vd_dep2 | exact vd_dep3 | exact place_can | exact place_depth)) (by (first | exact place_eqv.trans (decide_eq_true (by assumption)) | exact place_eqv.trans (decide_eq_false (by assumption)) | exact vd_tt | exact vd_ts | exact vd_tb | exact vd_st | exact vd_ss | exact vd_sb | exact vd_bt | exact vd_bs | exact vd_bb)) ?_; k_whole))) | ((with_reducible show wpAny _ _ (eval (Expr.Name _ _) _) _ _ _); with_reducible (k_here; k_dflt (apply nameX_L; (case F => k_asm); (case hk => rfl); (case hx => rfl); (case hv => walk_at "M look"); (case hd => decide); k_whole))) | ((with_reducible show wpAny _ _ (compareOp CmpOp.LtE (Value.ref _) (Value.ref _)) _ _ _); with_reducible (k_here; k_dflt (refine' le_place2 (by (first | assumption | exact Room.h (by assumption) | exact Room.u_lt (by assumption) | exact Room.less (by assumption) (by decide))) (by k_asm) (by k_mem) (by k_mem) (by assumption) ?_; k_whole))) | ((with_reducible show wpAny _ _ (compareOp CmpOp.Eq (Value.ref _) (Value.ref _)) _ _ _); with_reducible (k_here; k_dflt (refine' eq_dat (by (first | assumption | exact Room.h (by assumption) | exact Room.u_lt (by assumption) | exact Room.less (by assumption) (by decide))) (by k_asm) (by (first | (refine' vd_dat_t ?_ (by assumption); (walk_at "M sub")) | (refine' vd_dat_s ?_ (by assumption); (walk_at "M sub")) | (refine' vd_dat_b ?_ (by assumption); (walk_at "M sub")) | exact DatAt.tup (by k_mem) (.cons .str .nil) | exact DatAt.tup (by k_mem) (.cons .str (.cons .bool .nil)) | (refine' PlaceAt.dat (by walk_at "M rel")))) (by (first | (refine' vd_dat_t ?_ (by assumption); (walk_at "M sub")) | (refine' vd_dat_s ?_ (by assumption); (walk_at "M sub")) | (refine' vd_dat_b ?_ (by assumption); (walk_at "M sub")) | exact DatAt.tup (by k_mem) (.cons .str .nil) | exact DatAt.tup (by k_mem) (.cons .str (.cons .bool .nil)) | (refine' PlaceAt.dat (by walk_at "M rel")))) (by (first | exact vd_can1 | exact vd_can2 | exact vd_can3 | exact vd_dep1 | exact vd_dep2 | exact vd_dep3 | exact place_can | exact place_depth)) (by (first | exact vd_can1 | exact vd_can2 | exact vd_can3 | exact vd_dep1 | exact vd_dep2 | exact vd_dep3 | exact place_can | exact place_depth)) (by (first | exact vd_can1 | exact vd_can2 | exact vd_can3 | exact vd_dep1 | exact vd_dep2 | exact vd_dep3 | exact place_can | exact place_depth)) (by (first | exact place_eqv.trans (decide_eq_true (by assumption)) | exact place_eqv.trans (decide_eq_false (by assumption)) | exact vd_tt | exact vd_ts | exact vd_tb | exact vd_st | exact vd_ss | exact vd_sb | exact vd_bt | exact vd_bs | exact vd_bb)) ?_; k_whole))) | ((with_reducible show wpAny _ _ (getMethod (Value.ref _) _ _) _ _ _); with_reducible (k_here; (with_reducible show wpAny _ _ (getMethod (Value.ref _) (PySem.Str.ofString "append") _) _ _ _); k_dflt (refine' lst_method (by k_asm) (by k_mem) (by assumption) PySem.F.slot_list_append PySem.F.type_list_append ?_))) | ((with_reducible show wpAny _ _ (call (Value.builtin "list.append") _) _ _ _); with_reducible (k_here; k_dflt (apply lst_append; (case F => k_asm); (case N => k_asm); (case U => walk_at "M up"); (case ho => assumption); (case hz => omega); k_whole); intro _ _ _; intro zN; (try dsimp only at zN); revert zN; intro _; intro _; (try k_sweep))) | ((with_reducible show wpAny _ _ (call (Value.ref _) _) _ _ _); (first | with_reducible (k_here; k_dflt (refine' verdict_fit (by (first | assumption | exact Room.h (by assumption) | exact Room.u_lt (by assumption) | exact Room.less (by assumption) (by decide))) (by k_asm) (by k_asm) (by k_asm) (by k_asm) (by assumption) (by assumption) (by assumption) (by assumption) (by walk_at "M rel") (by walk_at "M rel") (by k_mem) (by walk_at "M rel") ?_; k_whole); intro _ _ _ _ _ _ _ _; (try k_sweep)) | with_reducible (k_here; k_dflt (refine' verdict_none (by (first | assumption | exact Room.h (by assumption) | exact Room.u_lt (by assumption) | exact Room.less (by assumption) (by decide))) (by k_asm) (by k_asm) (by k_asm) (by k_asm) (by walk_at "M rel") (by walk_at "M rel") ?_; k_whole); intro _ _ _ _ _ _ _ _; (try k_sweep)) | with_reducible (k_here; k_dflt (refine' look_some3 (by (first | assumption | exact Room.h (by assumption) | exact Room.u_lt (by assumption) | exact Room.less (by assumption) (by decide))) (by k_asm) (by k_asm) (by k_asm) (by k_asm) (by walk_at "M rel") (by k_mem) (by assumption) (by walk_at "M sub") (by walk_at "M rel") (by assumption) (by assumption) ?_; k_whole); intro _ _ _ _ _ _ _ _ _ _ _ _; (try k_sweep)) | with_reducible (k_here; k_dflt (refine' look_none (by (first | assumption | exact Room.h (by assumption) | exact Room.u_lt (by assumption) | exact Room.less (by assumption) (by decide))) (by k_asm) (by k_asm) (by k_asm) (by k_asm) (by walk_at "M rel") (by k_mem) (by assumption) (by walk_at "M sub") (by walk_at "M rel") (by assumption) (by assumption) ?_; k_whole); intro _ _ _ _; (try k_sweep)) | with_reducible (k_here; k_dflt (refine' since_spec (by (first | assumption | exact Room.h (by assumption) | exact Room.u_lt (by assumption) | exact Room.less (by assumption) (by decide))) (by k_asm) (by k_asm) (by k_asm) (by k_asm) (by walk_at "M rel") (by k_mem) (by assumption) (by walk_at "M sub") (by walk_at "M rel") (by assumption) (by assumption) ?_; k_whole); intro _ _ _ _ _; (try k_sweep)) | with_reducible (k_here; k_dflt (apply put_true; (case hR => (first | assumption | exact Room.h (by assumption) | exact Room.u_lt (by assumption) | exact Room.less (by assumption) (by decide))); (case F => k_asm); (case X => k_asm); (case N => k_asm); (case T => k_asm); (case hc => assumption); (case h1 => walk_at "M rel"); (case U => walk_at "M up"); (case h3 => assumption); (case hs => walk_at "M sub"); (case h5 => assumption); (case h4 => walk_at "M rel"); (case hz => first | assumption | omega); (case hg => intro o9; walk_at "M sub"); k_whole); intro _ _ _ _ _ _ _ _; (try k_sweep)))) | ((with_reducible show wpAny _ _ (exec (Stmt.For _ _ _ _ _) _) _ _ _); with_reducible (k_here; k_dflt (refine' for_go (by k_asm) ?_); k_whole)) | walk1 | (dsimp only; walk1) | (dsimp only; k_unfold; try dsimp only)))
      rename_i D0 h8 F8 N8' l8
      refine tok3 N8' fun t7 t8 N8 => ?_
      clear N8'
      refine known_set (e := ⟨r, now⟩) ((D0, tupO [.ref pp, .int r.age t7, .int now t8]) :: (new ++ imm)) F8 N8 (by walk_at "M up") (by walk_at "M sub") hKi ⟨D0, pp, t7, t8, rfl, List.Mem.head _, PlaceAt.mono (by walk_at "M sub") ipl⟩ (by omega) ?_
      clear F8 N8
      intro h9 ko2 tk9 F9 N9 K9
      try dsimp only at N9
      (repeat' (first | (k_unfold; (try dsimp only)) | ((with_reducible show wpAny _ _ (newTuple _) _ _ _); with_reducible (k_here; k_dflt (refine' kup_newTuple (by k_asm) (by k_asm) ?_ (by exact Nat.le_of_ble_eq_true rfl)); intro _ _ _ _ _; (try k_sweep))) | ((with_reducible show wpAny _ _ (compareOp CmpOp.In (Value.int _ _) (Value.ref _)) _ _ _); with_reducible (k_here; k_dflt (refine' known_in (by k_asm) (by k_mem) (by assumption) (by assumption) (by first | exact isSome_some (by assumption) | exact isSome_none (by assumption)) ?_; k_whole); intro _)) | ((with_reducible show wpAny _ _ (subscriptTail _ _ (Value.ref _) _) _ _ _); with_reducible (k_here; (with_reducible show wpAny _ _ (subscriptTail _ _ (Value.ref _) (Value.int _ _)) _ _ _); k_dflt (apply known_tail2; (case N => k_asm); (case hm => k_mem); (case R => assumption); (case hs => walk_at "M sub"); (case he => assumption); (case hu => with_unfolding_all rfl); k_whole); intro _ _ _ _ _ _ _ _ _ _)) | ((with_reducible show wpAny _ _ (unpackItems (Value.ref _) _ _) _ _ _); with_reducible (k_here; k_dflt (refine' unpackItemsN_ (by k_asm) (by k_asm) (by first | assumption | (refine News.isTup (by k_asm) (by k_mem))) (by (first | assumption | exact Room.h (by assumption) | exact Room.u_lt (by assumption) | exact Room.less (by assumption) (by decide))) (by exact rfl) ?_; k_whole); intro _ _ _; (try k_sweep))) | ((with_reducible show wpAny _ _ (compareOp CmpOp.NotEq (Value.ref _) (Value.ref _)) _ _ _); with_reducible (k_here; k_dflt (refine' ne_dat (by (first | assumption | exact Room.h (by assumption) | exact Room.u_lt (by assumption) | exact Room.less (by assumption) (by decide))) (by k_asm) (by (first | (refine' vd_dat_t ?_ (by assumption); (walk_at "M sub")) | (refine' vd_dat_s ?_ (by assumption); (walk_at "M sub")) | (refine' vd_dat_b ?_ (by assumption); (walk_at "M sub")) | exact DatAt.tup (by k_mem) (.cons .str .nil) | exact DatAt.tup (by k_mem) (.cons .str (.cons .bool .nil)) | (refine' PlaceAt.dat (by walk_at "M rel")))) (by (first | (refine' vd_dat_t ?_ (by assumption); (walk_at "M sub")) | (refine' vd_dat_s ?_ (by assumption); (walk_at "M sub")) | (refine' vd_dat_b ?_ (by assumption); (walk_at "M sub")) | exact DatAt.tup (by k_mem) (.cons .str .nil) | exact DatAt.tup (by k_mem) (.cons .str (.cons .bool .nil)) | (refine' PlaceAt.dat (by walk_at "M rel")))) (by (first | exact vd_can1 | exact vd_can2 | exact vd_can3 | exact vd_dep1 | exact vd_dep2 | exact vd_dep3 | exact place_can | exact place_depth)) (by (first | exact vd_can1 | exact vd_can2 | exact vd_can3 | exact vd_dep1 | exact vd_dep2 | exact vd_dep3 | exact place_can | exact place_depth)) (by (first | exact vd_can1 | exact vd_can2 | exact vd_can3 | exact vd_dep1 | exact vd_dep2 | exact vd_dep3 | exact place_can | exact place_depth)) (by (first | exact place_eqv.trans (decide_eq_true (by assumption)) | exact place_eqv.trans (decide_eq_false (by assumption)) | exact vd_tt | exact vd_ts | exact vd_tb | exact vd_st | exact vd_ss | exact vd_sb | exact vd_bt | exact vd_bs | exact vd_bb)) ?_; k_whole))) | ((with_reducible show wpAny _ _ (eval (Expr.Name _ _) _) _ _ _); with_reducible (k_here; k_dflt (apply nameX_L; (case F => k_asm); (case hk => rfl); (case hx => rfl); (case hv => walk_at "M look"); (case hd => decide); k_whole))) | ((with_reducible show wpAny _ _ (compareOp CmpOp.LtE (Value.ref _) (Value.ref _)) _ _ _); with_reducible (k_here; k_dflt (refine' le_place2 (by (first | assumption | exact Room.h (by assumption) | exact Room.u_lt (by assumption) | exact Room.less (by assumption) (by decide))) (by k_asm) (by k_mem) (by k_mem) (by assumption) ?_; k_whole))) | ((with_reducible show wpAny _ _ (compareOp CmpOp.Eq (Value.ref _) (Value.ref _)) _ _ _); with_reducible (k_here; k_dflt (refine' eq_dat (by (first | assumption | exact Room.h (by assumption) | exact Room.u_lt (by assumption) | exact Room.less (by assumption) (by decide))) (by k_asm) (by (first | (refine' vd_dat_t ?_ (by assumption); (walk_at "M sub")) | (refine' vd_dat_s ?_ (by assumption); (walk_at "M sub")) | (refine' vd_dat_b ?_ (by assumption); (walk_at "M sub")) | exact DatAt.tup (by k_mem) (.cons .str .nil) | exact DatAt.tup (by k_mem) (.cons .str (.cons .bool .nil)) | (refine' PlaceAt.dat (by walk_at "M rel")))) (by (first | (refine' vd_dat_t ?_ (by assumption); (walk_at "M sub")) | (refine' vd_dat_s ?_ (by assumption); (walk_at "M sub")) | (refine' vd_dat_b ?_ (by assumption); (walk_at "M sub")) | exact DatAt.tup (by k_mem) (.cons .str .nil) | exact DatAt.tup (by k_mem) (.cons .str (.cons .bool .nil)) | (refine' PlaceAt.dat (by walk_at "M rel")))) (by (first | exact vd_can1 | exact vd_can2 | exact vd_can3 | exact vd_dep1 | exact vd_dep2 | exact vd_dep3 | exact place_can | exact place_depth)) (by (first | exact vd_can1 | exact vd_can2 | exact vd_can3 | exact vd_dep1 | exact vd_dep2 | exact vd_dep3 | exact place_can | exact place_depth)) (by (first | exact vd_can1 | exact vd_can2 | exact vd_can3 | exact vd_dep1 | exact vd_dep2 | exact vd_dep3 | exact place_can | exact place_depth)) (by (first | exact place_eqv.trans (decide_eq_true (by assumption)) | exact place_eqv.trans (decide_eq_false (by assumption)) | exact vd_tt | exact vd_ts | exact vd_tb | exact vd_st | exact vd_ss | exact vd_sb | exact vd_bt | exact vd_bs | exact vd_bb)) ?_; k_whole))) | ((with_reducible show wpAny _ _ (getMethod (Value.ref _) _ _) _ _ _); with_reducible (k_here; (with_reducible show wpAny _ _ (getMethod (Value.ref _) (PySem.Str.ofString "append") _) _ _ _); k_dflt (refine' lst_method (by k_asm) (by k_mem) (by assumption) PySem.F.slot_list_append PySem.F.type_list_append ?_))) | ((with_reducible show wpAny _ _ (call (Value.builtin "list.append") _) _ _ _); with_reducible (k_here; k_dflt (apply lst_append; (case F => k_asm); (case N => k_asm); (case U => walk_at "M up"); (case ho => assumption); (case hz => omega); k_whole); intro _ _ _; intro zN; (try dsimp only at zN); revert zN; intro _; intro _; (try k_sweep))) | ((with_reducible show wpAny _ _ (call (Value.ref _) _) _ _ _); (first | with_reducible (k_here; k_dflt (refine' verdict_fit (by (first | assumption | exact Room.h (by assumption) | exact Room.u_lt (by assumption) | exact Room.less (by assumption) (by decide))) (by k_asm) (by k_asm) (by k_asm) (by k_asm) (by assumption) (by assumption) (by assumption) (by assumption) (by walk_at "M rel") (by walk_at "M rel") (by k_mem) (by walk_at "M rel") ?_; k_whole); intro _ _ _ _ _ _ _ _; (try k_sweep)) | with_reducible (k_here; k_dflt (refine' verdict_none (by (first | assumption | exact Room.h (by assumption) | exact Room.u_lt (by assumption) | exact Room.less (by assumption) (by decide))) (by k_asm) (by k_asm) (by k_asm) (by k_asm) (by walk_at "M rel") (by walk_at "M rel") ?_; k_whole); intro _ _ _ _ _ _ _ _; (try k_sweep)) | with_reducible (k_here; k_dflt (refine' look_some3 (by (first | assumption | exact Room.h (by assumption) | exact Room.u_lt (by assumption) | exact Room.less (by assumption) (by decide))) (by k_asm) (by k_asm) (by k_asm) (by k_asm) (by walk_at "M rel") (by k_mem) (by assumption) (by walk_at "M sub") (by walk_at "M rel") (by assumption) (by assumption) ?_; k_whole); intro _ _ _ _ _ _ _ _ _ _ _ _; (try k_sweep)) | with_reducible (k_here; k_dflt (refine' look_none (by (first | assumption | exact Room.h (by assumption) | exact Room.u_lt (by assumption) | exact Room.less (by assumption) (by decide))) (by k_asm) (by k_asm) (by k_asm) (by k_asm) (by walk_at "M rel") (by k_mem) (by assumption) (by walk_at "M sub") (by walk_at "M rel") (by assumption) (by assumption) ?_; k_whole); intro _ _ _ _; (try k_sweep)) | with_reducible (k_here; k_dflt (refine' since_spec (by (first | assumption | exact Room.h (by assumption) | exact Room.u_lt (by assumption) | exact Room.less (by assumption) (by decide))) (by k_asm) (by k_asm) (by k_asm) (by k_asm) (by walk_at "M rel") (by k_mem) (by assumption) (by walk_at "M sub") (by walk_at "M rel") (by assumption) (by assumption) ?_; k_whole); intro _ _ _ _ _; (try k_sweep)) | with_reducible (k_here; k_dflt (apply put_true; (case hR => (first | assumption | exact Room.h (by assumption) | exact Room.u_lt (by assumption) | exact Room.less (by assumption) (by decide))); (case F => k_asm); (case X => k_asm); (case N => k_asm); (case T => k_asm); (case hc => assumption); (case h1 => walk_at "M rel"); (case U => walk_at "M up"); (case h3 => assumption); (case hs => walk_at "M sub"); (case h5 => assumption); (case h4 => walk_at "M rel"); (case hz => first | assumption | omega); (case hg => intro o9; walk_at "M sub"); k_whole); intro _ _ _ _ _ _ _ _; (try k_sweep)))) | ((with_reducible show wpAny _ _ (exec (Stmt.For _ _ _ _ _) _) _ _ _); with_reducible (k_here; k_dflt (refine' for_go (by k_asm) ?_); k_whole)) | walk1 | (dsimp only; walk1) | (dsimp only; k_unfold; try dsimp only)))
      rename_i newp ro2 _ _ abp Rp D9 h10 F10 N10 l10
      refine zhT _ _ ?_; refine Turned.next ((D, bo) :: (kp, ko2) :: (rp, ro2) :: (D0, tupO [.ref pp, .int r.age t7, .int now t8]) :: (newp ++ (new ++ ((fd, fo) :: led)))) F10 N10 (by walk_at "M sub") (by walk_at "M apart") ?_
      refine ⟨(D0, tupO [.ref pp, .int r.age t7, .int now t8]) :: (newp ++ new), bo, ko2, ro2, bvs, by simp, by walk_at "M above", lb, a2.mono fun _ _ x => x.mono (by walk_at "M sub"), by omega,
        by simpa only [List.append_assoc, List.cons_append] using Known.mono (led' := (D0, tupO [.ref pp, .int r.age t7, .int now t8]) :: (newp ++ (new ++ imm))) (by walk_at "M sub") K9,
        by simpa only [List.append_assoc, List.cons_append] using Rows.mono (led' := (D0, tupO [.ref pp, .int r.age t7, .int now t8]) :: (newp ++ (new ++ imm))) (by walk_at "M sub") Rp, ?_, ?_, ?_, ?_, ?_⟩
      all_goals (walk_at "M look")
    | some e =>
      have hFa : Fit now (agedE now e) := hOk e (findE_mem he)
      by_cases hle : rowLe r e.row = true
      · have hle' : leB r.num r.tot r.fin e.row.num e.row.tot e.row.fin = true := hle
        by_cases hsp : SamePl r e.row
        · have hsp' : r.num = e.row.num ∧ r.tot = e.row.tot ∧ r.fin = e.row.fin := hsp
          have hvd : (if rowLe r e.row = true then (if SamePl r e.row then Vd.same else .back) else .take) = Vd.same := by rw [if_pos hle, if_pos hsp]
          simp only [hle, if_pos hsp, if_true, List.append_nil]
          intro zTQ zhT
          (repeat' (first | (k_unfold; (try dsimp only)) | ((with_reducible show wpAny _ _ (newTuple _) _ _ _); with_reducible (k_here; k_dflt (refine' kup_newTuple (by k_asm) (by k_asm) ?_ (by exact Nat.le_of_ble_eq_true rfl)); intro _ _ _ _ _; (try k_sweep))) | ((with_reducible show wpAny _ _ (compareOp CmpOp.In (Value.int _ _) (Value.ref _)) _ _ _); with_reducible (k_here; k_dflt (refine' known_in (by k_asm) (by k_mem) (by assumption) (by assumption) (by first | exact isSome_some (by assumption) | exact isSome_none (by assumption)) ?_; k_whole); intro _)) | ((with_reducible show wpAny _ _ (subscriptTail _ _ (Value.ref _) _) _ _ _); with_reducible (k_here; (with_reducible show wpAny _ _ (subscriptTail _ _ (Value.ref _) (Value.int _ _)) _ _ _); k_dflt (apply known_tail2; (case N => k_asm); (case hm => k_mem); (case R => assumption); (case hs => walk_at "M sub"); (case he => assumption); (case hu => with_unfolding_all rfl); k_whole); intro _ _ _ _ _ _ _ _ _ _)) | ((with_reducible show wpAny _ _ (unpackItems (Value.ref _) _ _) _ _ _); with_reducible (k_here; k_dflt (refine' unpackItemsN_ (by k_asm) (by k_asm) (by first | assumption | (refine News.isTup (by k_asm) (by k_mem))) (by (first | assumption | exact Room.h (by assumption) | exact Room.u_lt (by assumption) | exact Room.less (by assumption) (by decide))) (by exact rfl) ?_; k_whole); intro _ _ _; (try k_sweep))) | ((with_reducible show wpAny _ _ (compareOp CmpOp.NotEq (Value.ref _) (Value.ref _)) _ _ _); with_reducible (k_here; k_dflt (refine' ne_dat (by (first | assumption | exact Room.h (by assumption) | exact Room.u_lt (by assumption) | exact Room.less (by assumption) (by decide))) (by k_asm) (by (first | (refine' vd_dat_t ?_ (by assumption); (walk_at "M sub")) | (refine' vd_dat_s ?_ (by assumption); (walk_at "M sub")) | (refine' vd_dat_b ?_ (by assumption); (walk_at "M sub")) | exact DatAt.tup (by k_mem) (.cons .str .nil) | exact DatAt.tup (by k_mem) (.cons .str (.cons .bool .nil)) | (refine' PlaceAt.dat (by walk_at "M rel")))) (by (first | (refine' vd_dat_t ?_ (by assumption); (walk_at "M sub")) | (refine' vd_dat_s ?_ (by assumption); (walk_at "M sub")) | (refine' vd_dat_b ?_ (by assumption); (walk_at "M sub")) | exact DatAt.tup (by k_mem) (.cons .str .nil) | exact DatAt.tup (by k_mem) (.cons .str (.cons .bool .nil)) | (refine' PlaceAt.dat (by walk_at "M rel")))) (by (first | exact vd_can1 | exact vd_can2 | exact vd_can3 | exact vd_dep1 | exact vd_dep2 | exact vd_dep3 | exact place_can | exact place_depth)) (by (first | exact vd_can1 | exact vd_can2 | exact vd_can3 | exact vd_dep1 | exact vd_dep2 | exact vd_dep3 | exact place_can | exact place_depth)) (by (first | exact vd_can1 | exact vd_can2 | exact vd_can3 | exact vd_dep1 | exact vd_dep2 | exact vd_dep3 | exact place_can | exact place_depth)) (by (first | exact place_eqv.trans (decide_eq_true (by assumption)) | exact place_eqv.trans (decide_eq_false (by assumption)) | exact vd_tt | exact vd_ts | exact vd_tb | exact vd_st | exact vd_ss | exact vd_sb | exact vd_bt | exact vd_bs | exact vd_bb)) ?_; k_whole))) | ((with_reducible show wpAny _ _ (eval (Expr.Name _ _) _) _ _ _); with_reducible (k_here; k_dflt (apply nameX_L; (case F => k_asm); (case hk => rfl); (case hx => rfl); (case hv => walk_at "M look"); (case hd => decide); k_whole))) | ((with_reducible show wpAny _ _ (compareOp CmpOp.LtE (Value.ref _) (Value.ref _)) _ _ _); with_reducible (k_here; k_dflt (refine' le_place2 (by (first | assumption | exact Room.h (by assumption) | exact Room.u_lt (by assumption) | exact Room.less (by assumption) (by decide))) (by k_asm) (by k_mem) (by k_mem) (by assumption) ?_; k_whole))) | ((with_reducible show wpAny _ _ (compareOp CmpOp.Eq (Value.ref _) (Value.ref _)) _ _ _); with_reducible (k_here; k_dflt (refine' eq_dat (by (first | assumption | exact Room.h (by assumption) | exact Room.u_lt (by assumption) | exact Room.less (by assumption) (by decide))) (by k_asm) (by (first | (refine' vd_dat_t ?_ (by assumption); (walk_at "M sub")) | (refine' vd_dat_s ?_ (by assumption); (walk_at "M sub")) | (refine' vd_dat_b ?_ (by assumption); (walk_at "M sub")) | exact DatAt.tup (by k_mem) (.cons .str .nil) | exact DatAt.tup (by k_mem) (.cons .str (.cons .bool .nil)) | (refine' PlaceAt.dat (by walk_at "M rel")))) (by (first | (refine' vd_dat_t ?_ (by assumption); (walk_at "M sub")) | (refine' vd_dat_s ?_ (by assumption); (walk_at "M sub")) | (refine' vd_dat_b ?_ (by assumption); (walk_at "M sub")) | exact DatAt.tup (by k_mem) (.cons .str .nil) | exact DatAt.tup (by k_mem) (.cons .str (.cons .bool .nil)) | (refine' PlaceAt.dat (by walk_at "M rel")))) (by (first | exact vd_can1 | exact vd_can2 | exact vd_can3 | exact vd_dep1 | exact vd_dep2 | exact vd_dep3 | exact place_can | exact place_depth)) (by (first | exact vd_can1 | exact vd_can2 | exact vd_can3 | exact vd_dep1 | exact vd_dep2 | exact vd_dep3 | exact place_can | exact place_depth)) (by (first | exact vd_can1 | exact vd_can2 | exact vd_can3 | exact vd_dep1 | exact vd_dep2 | exact vd_dep3 | exact place_can | exact place_depth)) (by (first | exact place_eqv.trans (decide_eq_true (by assumption)) | exact place_eqv.trans (decide_eq_false (by assumption)) | exact vd_tt | exact vd_ts | exact vd_tb | exact vd_st | exact vd_ss | exact vd_sb | exact vd_bt | exact vd_bs | exact vd_bb)) ?_; k_whole))) | ((with_reducible show wpAny _ _ (getMethod (Value.ref _) _ _) _ _ _); with_reducible (k_here; (with_reducible show wpAny _ _ (getMethod (Value.ref _) (PySem.Str.ofString "append") _) _ _ _); k_dflt (refine' lst_method (by k_asm) (by k_mem) (by assumption) PySem.F.slot_list_append PySem.F.type_list_append ?_))) | ((with_reducible show wpAny _ _ (call (Value.builtin "list.append") _) _ _ _); with_reducible (k_here; k_dflt (apply lst_append; (case F => k_asm); (case N => k_asm); (case U => walk_at "M up"); (case ho => assumption); (case hz => omega); k_whole); intro _ _ _; intro zN; (try dsimp only at zN); revert zN; intro _; intro _; (try k_sweep))) | ((with_reducible show wpAny _ _ (call (Value.ref _) _) _ _ _); (first | with_reducible (k_here; k_dflt (refine' verdict_fit (by (first | assumption | exact Room.h (by assumption) | exact Room.u_lt (by assumption) | exact Room.less (by assumption) (by decide))) (by k_asm) (by k_asm) (by k_asm) (by k_asm) (by assumption) (by assumption) (by assumption) (by assumption) (by walk_at "M rel") (by walk_at "M rel") (by k_mem) (by walk_at "M rel") ?_; k_whole); intro _ _ _ _ _ _ _ _; (try k_sweep)) | with_reducible (k_here; k_dflt (refine' verdict_none (by (first | assumption | exact Room.h (by assumption) | exact Room.u_lt (by assumption) | exact Room.less (by assumption) (by decide))) (by k_asm) (by k_asm) (by k_asm) (by k_asm) (by walk_at "M rel") (by walk_at "M rel") ?_; k_whole); intro _ _ _ _ _ _ _ _; (try k_sweep)) | with_reducible (k_here; k_dflt (refine' look_some3 (by (first | assumption | exact Room.h (by assumption) | exact Room.u_lt (by assumption) | exact Room.less (by assumption) (by decide))) (by k_asm) (by k_asm) (by k_asm) (by k_asm) (by walk_at "M rel") (by k_mem) (by assumption) (by walk_at "M sub") (by walk_at "M rel") (by assumption) (by assumption) ?_; k_whole); intro _ _ _ _ _ _ _ _ _ _ _ _; (try k_sweep)) | with_reducible (k_here; k_dflt (refine' look_none (by (first | assumption | exact Room.h (by assumption) | exact Room.u_lt (by assumption) | exact Room.less (by assumption) (by decide))) (by k_asm) (by k_asm) (by k_asm) (by k_asm) (by walk_at "M rel") (by k_mem) (by assumption) (by walk_at "M sub") (by walk_at "M rel") (by assumption) (by assumption) ?_; k_whole); intro _ _ _ _; (try k_sweep)) | with_reducible (k_here; k_dflt (refine' since_spec (by (first | assumption | exact Room.h (by assumption) | exact Room.u_lt (by assumption) | exact Room.less (by assumption) (by decide))) (by k_asm) (by k_asm) (by k_asm) (by k_asm) (by walk_at "M rel") (by k_mem) (by assumption) (by walk_at "M sub") (by walk_at "M rel") (by assumption) (by assumption) ?_; k_whole); intro _ _ _ _ _; (try k_sweep)) | with_reducible (k_here; k_dflt (apply put_true; (case hR => (first | assumption | exact Room.h (by assumption) | exact Room.u_lt (by assumption) | exact Room.less (by assumption) (by decide))); (case F => k_asm); (case X => k_asm); (case N => k_asm); (case T => k_asm); (case hc => assumption); (case h1 => walk_at "M rel"); (case U => walk_at "M up"); (case h3 => assumption); (case hs => walk_at "M sub"); (case h5 => assumption); (case h4 => walk_at "M rel"); (case hz => first | assumption | omega); (case hg => intro o9; walk_at "M sub"); k_whole); intro _ _ _ _ _ _ _ _; (try k_sweep)))) | ((with_reducible show wpAny _ _ (exec (Stmt.For _ _ _ _ _) _) _ _ _); with_reducible (k_here; k_dflt (refine' for_go (by k_asm) ?_); k_whole)) | walk1 | (dsimp only; walk1) | (dsimp only; k_unfold; try dsimp only)))
          rename_i F10 N10 _
          refine zhT _ _ ?_; refine Turned.next ((D, bo) :: (kp, ko1) :: (rp, ro1) :: (new ++ ((fd, fo) :: led))) F10 N10 (by walk_at "M sub") ap ?_
          refine ⟨new, bo, ko1, ro1, bvs, rfl, ab, lb, a2, by omega, hKi, hWi, ?_, ?_, ?_, ?_, ?_⟩
          all_goals (walk_at "M look")
        · have hsp' : ¬ (r.num = e.row.num ∧ r.tot = e.row.tot ∧ r.fin = e.row.fin) := hsp
          have hvd : (if rowLe r e.row = true then (if SamePl r e.row then Vd.same else .back) else .take) = Vd.back := by rw [if_pos hle, if_neg hsp]
          simp only [hle, hsp, if_true, if_false]
          intro zTQ zhT
          (repeat' (first | (k_unfold; (try dsimp only)) | ((with_reducible show wpAny _ _ (newTuple _) _ _ _); with_reducible (k_here; k_dflt (refine' kup_newTuple (by k_asm) (by k_asm) ?_ (by exact Nat.le_of_ble_eq_true rfl)); intro _ _ _ _ _; (try k_sweep))) | ((with_reducible show wpAny _ _ (compareOp CmpOp.In (Value.int _ _) (Value.ref _)) _ _ _); with_reducible (k_here; k_dflt (refine' known_in (by k_asm) (by k_mem) (by assumption) (by assumption) (by first | exact isSome_some (by assumption) | exact isSome_none (by assumption)) ?_; k_whole); intro _)) | ((with_reducible show wpAny _ _ (subscriptTail _ _ (Value.ref _) _) _ _ _); with_reducible (k_here; (with_reducible show wpAny _ _ (subscriptTail _ _ (Value.ref _) (Value.int _ _)) _ _ _); k_dflt (apply known_tail2; (case N => k_asm); (case hm => k_mem); (case R => assumption); (case hs => walk_at "M sub"); (case he => assumption); (case hu => with_unfolding_all rfl); k_whole); intro _ _ _ _ _ _ _ _ _ _)) | ((with_reducible show wpAny _ _ (unpackItems (Value.ref _) _ _) _ _ _); with_reducible (k_here; k_dflt (refine' unpackItemsN_ (by k_asm) (by k_asm) (by first | assumption | (refine News.isTup (by k_asm) (by k_mem))) (by (first | assumption | exact Room.h (by assumption) | exact Room.u_lt (by assumption) | exact Room.less (by assumption) (by decide))) (by exact rfl) ?_; k_whole); intro _ _ _; (try k_sweep))) | ((with_reducible show wpAny _ _ (compareOp CmpOp.NotEq (Value.ref _) (Value.ref _)) _ _ _); with_reducible (k_here; k_dflt (refine' ne_dat (by (first | assumption | exact Room.h (by assumption) | exact Room.u_lt (by assumption) | exact Room.less (by assumption) (by decide))) (by k_asm) (by (first | (refine' vd_dat_t ?_ (by assumption); (walk_at "M sub")) | (refine' vd_dat_s ?_ (by assumption); (walk_at "M sub")) | (refine' vd_dat_b ?_ (by assumption); (walk_at "M sub")) | exact DatAt.tup (by k_mem) (.cons .str .nil) | exact DatAt.tup (by k_mem) (.cons .str (.cons .bool .nil)) | (refine' PlaceAt.dat (by walk_at "M rel")))) (by (first | (refine' vd_dat_t ?_ (by assumption); (walk_at "M sub")) | (refine' vd_dat_s ?_ (by assumption); (walk_at "M sub")) | (refine' vd_dat_b ?_ (by assumption); (walk_at "M sub")) | exact DatAt.tup (by k_mem) (.cons .str .nil) | exact DatAt.tup (by k_mem) (.cons .str (.cons .bool .nil)) | (refine' PlaceAt.dat (by walk_at "M rel")))) (by (first | exact vd_can1 | exact vd_can2 | exact vd_can3 | exact vd_dep1 | exact vd_dep2 | exact vd_dep3 | exact place_can | exact place_depth)) (by (first | exact vd_can1 | exact vd_can2 | exact vd_can3 | exact vd_dep1 | exact vd_dep2 | exact vd_dep3 | exact place_can | exact place_depth)) (by (first | exact vd_can1 | exact vd_can2 | exact vd_can3 | exact vd_dep1 | exact vd_dep2 | exact vd_dep3 | exact place_can | exact place_depth)) (by (first | exact place_eqv.trans (decide_eq_true (by assumption)) | exact place_eqv.trans (decide_eq_false (by assumption)) | exact vd_tt | exact vd_ts | exact vd_tb | exact vd_st | exact vd_ss | exact vd_sb | exact vd_bt | exact vd_bs | exact vd_bb)) ?_; k_whole))) | ((with_reducible show wpAny _ _ (eval (Expr.Name _ _) _) _ _ _); with_reducible (k_here; k_dflt (apply nameX_L; (case F => k_asm); (case hk => rfl); (case hx => rfl); (case hv => walk_at "M look"); (case hd => decide); k_whole))) | ((with_reducible show wpAny _ _ (compareOp CmpOp.LtE (Value.ref _) (Value.ref _)) _ _ _); with_reducible (k_here; k_dflt (refine' le_place2 (by (first | assumption | exact Room.h (by assumption) | exact Room.u_lt (by assumption) | exact Room.less (by assumption) (by decide))) (by k_asm) (by k_mem) (by k_mem) (by assumption) ?_; k_whole))) | ((with_reducible show wpAny _ _ (compareOp CmpOp.Eq (Value.ref _) (Value.ref _)) _ _ _); with_reducible (k_here; k_dflt (refine' eq_dat (by (first | assumption | exact Room.h (by assumption) | exact Room.u_lt (by assumption) | exact Room.less (by assumption) (by decide))) (by k_asm) (by (first | (refine' vd_dat_t ?_ (by assumption); (walk_at "M sub")) | (refine' vd_dat_s ?_ (by assumption); (walk_at "M sub")) | (refine' vd_dat_b ?_ (by assumption); (walk_at "M sub")) | exact DatAt.tup (by k_mem) (.cons .str .nil) | exact DatAt.tup (by k_mem) (.cons .str (.cons .bool .nil)) | (refine' PlaceAt.dat (by walk_at "M rel")))) (by (first | (refine' vd_dat_t ?_ (by assumption); (walk_at "M sub")) | (refine' vd_dat_s ?_ (by assumption); (walk_at "M sub")) | (refine' vd_dat_b ?_ (by assumption); (walk_at "M sub")) | exact DatAt.tup (by k_mem) (.cons .str .nil) | exact DatAt.tup (by k_mem) (.cons .str (.cons .bool .nil)) | (refine' PlaceAt.dat (by walk_at "M rel")))) (by (first | exact vd_can1 | exact vd_can2 | exact vd_can3 | exact vd_dep1 | exact vd_dep2 | exact vd_dep3 | exact place_can | exact place_depth)) (by (first | exact vd_can1 | exact vd_can2 | exact vd_can3 | exact vd_dep1 | exact vd_dep2 | exact vd_dep3 | exact place_can | exact place_depth)) (by (first | exact vd_can1 | exact vd_can2 | exact vd_can3 | exact vd_dep1 | exact vd_dep2 | exact vd_dep3 | exact place_can | exact place_depth)) (by (first | exact place_eqv.trans (decide_eq_true (by assumption)) | exact place_eqv.trans (decide_eq_false (by assumption)) | exact vd_tt | exact vd_ts | exact vd_tb | exact vd_st | exact vd_ss | exact vd_sb | exact vd_bt | exact vd_bs | exact vd_bb)) ?_; k_whole))) | ((with_reducible show wpAny _ _ (getMethod (Value.ref _) _ _) _ _ _); with_reducible (k_here; (with_reducible show wpAny _ _ (getMethod (Value.ref _) (PySem.Str.ofString "append") _) _ _ _); k_dflt (refine' lst_method (by k_asm) (by k_mem) (by assumption) PySem.F.slot_list_append PySem.F.type_list_append ?_))) | ((with_reducible show wpAny _ _ (call (Value.builtin "list.append") _) _ _ _); with_reducible (k_here; k_dflt (apply lst_append; (case F => k_asm); (case N => k_asm); (case U => walk_at "M up"); (case ho => assumption); (case hz => omega); k_whole); intro _ _ _; intro zN; (try dsimp only at zN); revert zN; intro _; intro _; (try k_sweep))) | ((with_reducible show wpAny _ _ (call (Value.ref _) _) _ _ _); (first | with_reducible (k_here; k_dflt (refine' verdict_fit (by (first | assumption | exact Room.h (by assumption) | exact Room.u_lt (by assumption) | exact Room.less (by assumption) (by decide))) (by k_asm) (by k_asm) (by k_asm) (by k_asm) (by assumption) (by assumption) (by assumption) (by assumption) (by walk_at "M rel") (by walk_at "M rel") (by k_mem) (by walk_at "M rel") ?_; k_whole); intro _ _ _ _ _ _ _ _; (try k_sweep)) | with_reducible (k_here; k_dflt (refine' verdict_none (by (first | assumption | exact Room.h (by assumption) | exact Room.u_lt (by assumption) | exact Room.less (by assumption) (by decide))) (by k_asm) (by k_asm) (by k_asm) (by k_asm) (by walk_at "M rel") (by walk_at "M rel") ?_; k_whole); intro _ _ _ _ _ _ _ _; (try k_sweep)) | with_reducible (k_here; k_dflt (refine' look_some3 (by (first | assumption | exact Room.h (by assumption) | exact Room.u_lt (by assumption) | exact Room.less (by assumption) (by decide))) (by k_asm) (by k_asm) (by k_asm) (by k_asm) (by walk_at "M rel") (by k_mem) (by assumption) (by walk_at "M sub") (by walk_at "M rel") (by assumption) (by assumption) ?_; k_whole); intro _ _ _ _ _ _ _ _ _ _ _ _; (try k_sweep)) | with_reducible (k_here; k_dflt (refine' look_none (by (first | assumption | exact Room.h (by assumption) | exact Room.u_lt (by assumption) | exact Room.less (by assumption) (by decide))) (by k_asm) (by k_asm) (by k_asm) (by k_asm) (by walk_at "M rel") (by k_mem) (by assumption) (by walk_at "M sub") (by walk_at "M rel") (by assumption) (by assumption) ?_; k_whole); intro _ _ _ _; (try k_sweep)) | with_reducible (k_here; k_dflt (refine' since_spec (by (first | assumption | exact Room.h (by assumption) | exact Room.u_lt (by assumption) | exact Room.less (by assumption) (by decide))) (by k_asm) (by k_asm) (by k_asm) (by k_asm) (by walk_at "M rel") (by k_mem) (by assumption) (by walk_at "M sub") (by walk_at "M rel") (by assumption) (by assumption) ?_; k_whole); intro _ _ _ _ _; (try k_sweep)) | with_reducible (k_here; k_dflt (apply put_true; (case hR => (first | assumption | exact Room.h (by assumption) | exact Room.u_lt (by assumption) | exact Room.less (by assumption) (by decide))); (case F => k_asm); (case X => k_asm); (case N => k_asm); (case T => k_asm); (case hc => assumption); (case h1 => walk_at "M rel"); (case U => walk_at "M up"); (case h3 => assumption); (case hs => walk_at "M sub"); (case h5 => assumption); (case h4 => walk_at "M rel"); (case hz => first | assumption | omega); (case hg => intro o9; walk_at "M sub"); k_whole); intro _ _ _ _ _ _ _ _; (try k_sweep)))) | ((with_reducible show wpAny _ _ (exec (Stmt.For _ _ _ _ _) _) _ _ _); with_reducible (k_here; k_dflt (refine' for_go (by k_asm) ?_); k_whole)) | walk1 | (dsimp only; walk1) | (dsimp only; k_unfold; try dsimp only)))
          refine nameB (show RowAt _ _ (agedE now e) by assumption) fun nl kk e1 e2 => ?_
          subst e1 e2
          refine nameL (show LstX _ (bvs ++ _) by assumption) fun o2 e3 => ?_
          subst e3
          rename Fr _ _ _ _ => FF
          rename News _ _ _ _ => NF
          rename RowAt _ _ (agedE now e) => RB
          rename LstX _ (bvs ++ _) => LL
          refine zhT _ _ ?_; refine Turned.next ((D, o2) :: (kp, ko1) :: (rp, ro1) :: (nl ++ (new ++ ((fd, fo) :: led)))) FF NF (by walk_at "M sub") (by walk_at "M apart") ?_
          refine ⟨nl ++ new, o2, ko1, ro1, bvs ++ [.ref kk], by simp, by walk_at "M above", LL, All2.snoc (a2.mono fun _ _ x => x.mono (by walk_at "M sub")) ⟨kk, rfl, RB.mono (by walk_at "M sub")⟩, by simp; omega,
            hKi.mono (by walk_at "M sub"), hWi.mono (by walk_at "M sub"), ?_, ?_, ?_, ?_, ?_⟩
          all_goals (walk_at "M look")
      · have hle0 : rowLe r e.row = false := by simpa using hle
        have hle' : leB r.num r.tot r.fin e.row.num e.row.tot e.row.fin = false := hle0
        have hvd : (if rowLe r e.row = true then (if SamePl r e.row then Vd.same else .back) else .take) = Vd.take := by rw [if_neg hle]
        simp only [hle0, Bool.false_eq_true, if_false, List.append_nil]
        have hc : Chg esi r := by
          unfold Chg; rw [he]
          rintro ⟨x, y, z⟩
          apply hle
          unfold rowLe leB
          rw [if_pos x, if_pos y, z]
          cases e.row.fin <;> rfl
        intro zTQ zhT
        (repeat' (first | (k_unfold; (try dsimp only)) | ((with_reducible show wpAny _ _ (newTuple _) _ _ _); with_reducible (k_here; k_dflt (refine' kup_newTuple (by k_asm) (by k_asm) ?_ (by exact Nat.le_of_ble_eq_true rfl)); intro _ _ _ _ _; (try k_sweep))) | ((with_reducible show wpAny _ _ (compareOp CmpOp.In (Value.int _ _) (Value.ref _)) _ _ _); with_reducible (k_here; k_dflt (refine' known_in (by k_asm) (by k_mem) (by assumption) (by assumption) (by first | exact isSome_some (by assumption) | exact isSome_none (by assumption)) ?_; k_whole); intro _)) | ((with_reducible show wpAny _ _ (subscriptTail _ _ (Value.ref _) _) _ _ _); with_reducible (k_here; (with_reducible show wpAny _ _ (subscriptTail _ _ (Value.ref _) (Value.int _ _)) _ _ _); k_dflt (apply known_tail2; (case N => k_asm); (case hm => k_mem); (case R => assumption); (case hs => walk_at "M sub"); (case he => assumption); (case hu => with_unfolding_all rfl); k_whole); intro _ _ _ _ _ _ _ _ _ _)) | ((with_reducible show wpAny _ _ (unpackItems (Value.ref _) _ _) _ _ _); with_reducible (k_here; k_dflt (refine' unpackItemsN_ (by k_asm) (by k_asm) (by first | assumption | (refine News.isTup (by k_asm) (by k_mem))) (by (first | assumption | exact Room.h (by assumption) | exact Room.u_lt (by assumption) | exact Room.less (by assumption) (by decide))) (by exact rfl) ?_; k_whole); intro _ _ _; (try k_sweep))) | ((with_reducible show wpAny _ _ (compareOp CmpOp.NotEq (Value.ref _) (Value.ref _)) _ _ _); with_reducible (k_here; k_dflt (refine' ne_dat (by (first | assumption | exact Room.h (by assumption) | exact Room.u_lt (by assumption) | exact Room.less (by assumption) (by decide))) (by k_asm) (by (first | (refine' vd_dat_t ?_ (by assumption); (walk_at "M sub")) | (refine' vd_dat_s ?_ (by assumption); (walk_at "M sub")) | (refine' vd_dat_b ?_ (by assumption); (walk_at "M sub")) | exact DatAt.tup (by k_mem) (.cons .str .nil) | exact DatAt.tup (by k_mem) (.cons .str (.cons .bool .nil)) | (refine' PlaceAt.dat (by walk_at "M rel")))) (by (first | (refine' vd_dat_t ?_ (by assumption); (walk_at "M sub")) | (refine' vd_dat_s ?_ (by assumption); (walk_at "M sub")) | (refine' vd_dat_b ?_ (by assumption); (walk_at "M sub")) | exact DatAt.tup (by k_mem) (.cons .str .nil) | exact DatAt.tup (by k_mem) (.cons .str (.cons .bool .nil)) | (refine' PlaceAt.dat (by walk_at "M rel")))) (by (first | exact vd_can1 | exact vd_can2 | exact vd_can3 | exact vd_dep1 | exact vd_dep2 | exact vd_dep3 | exact place_can | exact place_depth)) (by (first | exact vd_can1 | exact vd_can2 | exact vd_can3 | exact vd_dep1 | exact vd_dep2 | exact vd_dep3 | exact place_can | exact place_depth)) (by (first | exact vd_can1 | exact vd_can2 | exact vd_can3 | exact vd_dep1 | exact vd_dep2 | exact vd_dep3 | exact place_can | exact place_depth)) (by (first | exact place_eqv.trans (decide_eq_true (by assumption)) | exact place_eqv.trans (decide_eq_false (by assumption)) | exact vd_tt | exact vd_ts | exact vd_tb | exact vd_st | exact vd_ss | exact vd_sb | exact vd_bt | exact vd_bs | exact vd_bb)) ?_; k_whole))) | ((with_reducible show wpAny _ _ (eval (Expr.Name _ _) _) _ _ _); with_reducible (k_here; k_dflt (apply nameX_L; (case F => k_asm); (case hk => rfl); (case hx => rfl); (case hv => walk_at "M look"); (case hd => decide); k_whole))) | ((with_reducible show wpAny _ _ (compareOp CmpOp.LtE (Value.ref _) (Value.ref _)) _ _ _); with_reducible (k_here; k_dflt (refine' le_place2 (by (first | assumption | exact Room.h (by assumption) | exact Room.u_lt (by assumption) | exact Room.less (by assumption) (by decide))) (by k_asm) (by k_mem) (by k_mem) (by assumption) ?_; k_whole))) | ((with_reducible show wpAny _ _ (compareOp CmpOp.Eq (Value.ref _) (Value.ref _)) _ _ _); with_reducible (k_here; k_dflt (refine' eq_dat (by (first | assumption | exact Room.h (by assumption) | exact Room.u_lt (by assumption) | exact Room.less (by assumption) (by decide))) (by k_asm) (by (first | (refine' vd_dat_t ?_ (by assumption); (walk_at "M sub")) | (refine' vd_dat_s ?_ (by assumption); (walk_at "M sub")) | (refine' vd_dat_b ?_ (by assumption); (walk_at "M sub")) | exact DatAt.tup (by k_mem) (.cons .str .nil) | exact DatAt.tup (by k_mem) (.cons .str (.cons .bool .nil)) | (refine' PlaceAt.dat (by walk_at "M rel")))) (by (first | (refine' vd_dat_t ?_ (by assumption); (walk_at "M sub")) | (refine' vd_dat_s ?_ (by assumption); (walk_at "M sub")) | (refine' vd_dat_b ?_ (by assumption); (walk_at "M sub")) | exact DatAt.tup (by k_mem) (.cons .str .nil) | exact DatAt.tup (by k_mem) (.cons .str (.cons .bool .nil)) | (refine' PlaceAt.dat (by walk_at "M rel")))) (by (first | exact vd_can1 | exact vd_can2 | exact vd_can3 | exact vd_dep1 | exact vd_dep2 | exact vd_dep3 | exact place_can | exact place_depth)) (by (first | exact vd_can1 | exact vd_can2 | exact vd_can3 | exact vd_dep1 | exact vd_dep2 | exact vd_dep3 | exact place_can | exact place_depth)) (by (first | exact vd_can1 | exact vd_can2 | exact vd_can3 | exact vd_dep1 | exact vd_dep2 | exact vd_dep3 | exact place_can | exact place_depth)) (by (first | exact place_eqv.trans (decide_eq_true (by assumption)) | exact place_eqv.trans (decide_eq_false (by assumption)) | exact vd_tt | exact vd_ts | exact vd_tb | exact vd_st | exact vd_ss | exact vd_sb | exact vd_bt | exact vd_bs | exact vd_bb)) ?_; k_whole))) | ((with_reducible show wpAny _ _ (getMethod (Value.ref _) _ _) _ _ _); with_reducible (k_here; (with_reducible show wpAny _ _ (getMethod (Value.ref _) (PySem.Str.ofString "append") _) _ _ _); k_dflt (refine' lst_method (by k_asm) (by k_mem) (by assumption) PySem.F.slot_list_append PySem.F.type_list_append ?_))) | ((with_reducible show wpAny _ _ (call (Value.builtin "list.append") _) _ _ _); with_reducible (k_here; k_dflt (apply lst_append; (case F => k_asm); (case N => k_asm); (case U => walk_at "M up"); (case ho => assumption); (case hz => omega); k_whole); intro _ _ _; intro zN; (try dsimp only at zN); revert zN; intro _; intro _; (try k_sweep))) | ((with_reducible show wpAny _ _ (call (Value.ref _) _) _ _ _); (first | with_reducible (k_here; k_dflt (refine' verdict_fit (by (first | assumption | exact Room.h (by assumption) | exact Room.u_lt (by assumption) | exact Room.less (by assumption) (by decide))) (by k_asm) (by k_asm) (by k_asm) (by k_asm) (by assumption) (by assumption) (by assumption) (by assumption) (by walk_at "M rel") (by walk_at "M rel") (by k_mem) (by walk_at "M rel") ?_; k_whole); intro _ _ _ _ _ _ _ _; (try k_sweep)) | with_reducible (k_here; k_dflt (refine' verdict_none (by (first | assumption | exact Room.h (by assumption) | exact Room.u_lt (by assumption) | exact Room.less (by assumption) (by decide))) (by k_asm) (by k_asm) (by k_asm) (by k_asm) (by walk_at "M rel") (by walk_at "M rel") ?_; k_whole); intro _ _ _ _ _ _ _ _; (try k_sweep)) | with_reducible (k_here; k_dflt (refine' look_some3 (by (first | assumption | exact Room.h (by assumption) | exact Room.u_lt (by assumption) | exact Room.less (by assumption) (by decide))) (by k_asm) (by k_asm) (by k_asm) (by k_asm) (by walk_at "M rel") (by k_mem) (by assumption) (by walk_at "M sub") (by walk_at "M rel") (by assumption) (by assumption) ?_; k_whole); intro _ _ _ _ _ _ _ _ _ _ _ _; (try k_sweep)) | with_reducible (k_here; k_dflt (refine' look_none (by (first | assumption | exact Room.h (by assumption) | exact Room.u_lt (by assumption) | exact Room.less (by assumption) (by decide))) (by k_asm) (by k_asm) (by k_asm) (by k_asm) (by walk_at "M rel") (by k_mem) (by assumption) (by walk_at "M sub") (by walk_at "M rel") (by assumption) (by assumption) ?_; k_whole); intro _ _ _ _; (try k_sweep)) | with_reducible (k_here; k_dflt (refine' since_spec (by (first | assumption | exact Room.h (by assumption) | exact Room.u_lt (by assumption) | exact Room.less (by assumption) (by decide))) (by k_asm) (by k_asm) (by k_asm) (by k_asm) (by walk_at "M rel") (by k_mem) (by assumption) (by walk_at "M sub") (by walk_at "M rel") (by assumption) (by assumption) ?_; k_whole); intro _ _ _ _ _; (try k_sweep)) | with_reducible (k_here; k_dflt (apply put_true; (case hR => (first | assumption | exact Room.h (by assumption) | exact Room.u_lt (by assumption) | exact Room.less (by assumption) (by decide))); (case F => k_asm); (case X => k_asm); (case N => k_asm); (case T => k_asm); (case hc => assumption); (case h1 => walk_at "M rel"); (case U => walk_at "M up"); (case h3 => assumption); (case hs => walk_at "M sub"); (case h5 => assumption); (case h4 => walk_at "M rel"); (case hz => first | assumption | omega); (case hg => intro o9; walk_at "M sub"); k_whole); intro _ _ _ _ _ _ _ _; (try k_sweep)))) | ((with_reducible show wpAny _ _ (exec (Stmt.For _ _ _ _ _) _) _ _ _); with_reducible (k_here; k_dflt (refine' for_go (by k_asm) ?_); k_whole)) | walk1 | (dsimp only; walk1) | (dsimp only; k_unfold; try dsimp only)))
        rename_i D0 h8 F8 N8' l8
        refine tok3 N8' fun t7 t8 N8 => ?_
        clear N8'
        refine known_set (e := ⟨r, now⟩) ((D0, tupO [.ref pp, .int r.age t7, .int now t8]) :: (new ++ imm)) F8 N8 (by walk_at "M up") (by walk_at "M sub") hKi ⟨D0, pp, t7, t8, rfl, List.Mem.head _, PlaceAt.mono (by walk_at "M sub") ipl⟩ (by omega) ?_
        clear F8 N8
        intro h9 ko2 tk9 F9 N9 K9
        try dsimp only at N9
        (repeat' (first | (k_unfold; (try dsimp only)) | ((with_reducible show wpAny _ _ (newTuple _) _ _ _); with_reducible (k_here; k_dflt (refine' kup_newTuple (by k_asm) (by k_asm) ?_ (by exact Nat.le_of_ble_eq_true rfl)); intro _ _ _ _ _; (try k_sweep))) | ((with_reducible show wpAny _ _ (compareOp CmpOp.In (Value.int _ _) (Value.ref _)) _ _ _); with_reducible (k_here; k_dflt (refine' known_in (by k_asm) (by k_mem) (by assumption) (by assumption) (by first | exact isSome_some (by assumption) | exact isSome_none (by assumption)) ?_; k_whole); intro _)) | ((with_reducible show wpAny _ _ (subscriptTail _ _ (Value.ref _) _) _ _ _); with_reducible (k_here; (with_reducible show wpAny _ _ (subscriptTail _ _ (Value.ref _) (Value.int _ _)) _ _ _); k_dflt (apply known_tail2; (case N => k_asm); (case hm => k_mem); (case R => assumption); (case hs => walk_at "M sub"); (case he => assumption); (case hu => with_unfolding_all rfl); k_whole); intro _ _ _ _ _ _ _ _ _ _)) | ((with_reducible show wpAny _ _ (unpackItems (Value.ref _) _ _) _ _ _); with_reducible (k_here; k_dflt (refine' unpackItemsN_ (by k_asm) (by k_asm) (by first | assumption | (refine News.isTup (by k_asm) (by k_mem))) (by (first | assumption | exact Room.h (by assumption) | exact Room.u_lt (by assumption) | exact Room.less (by assumption) (by decide))) (by exact rfl) ?_; k_whole); intro _ _ _; (try k_sweep))) | ((with_reducible show wpAny _ _ (compareOp CmpOp.NotEq (Value.ref _) (Value.ref _)) _ _ _); with_reducible (k_here; k_dflt (refine' ne_dat (by (first | assumption | exact Room.h (by assumption) | exact Room.u_lt (by assumption) | exact Room.less (by assumption) (by decide))) (by k_asm) (by (first | (refine' vd_dat_t ?_ (by assumption); (walk_at "M sub")) | (refine' vd_dat_s ?_ (by assumption); (walk_at "M sub")) | (refine' vd_dat_b ?_ (by assumption); (walk_at "M sub")) | exact DatAt.tup (by k_mem) (.cons .str .nil) | exact DatAt.tup (by k_mem) (.cons .str (.cons .bool .nil)) | (refine' PlaceAt.dat (by walk_at "M rel")))) (by (first | (refine' vd_dat_t ?_ (by assumption); (walk_at "M sub")) | (refine' vd_dat_s ?_ (by assumption); (walk_at "M sub")) | (refine' vd_dat_b ?_ (by assumption); (walk_at "M sub")) | exact DatAt.tup (by k_mem) (.cons .str .nil) | exact DatAt.tup (by k_mem) (.cons .str (.cons .bool .nil)) | (refine' PlaceAt.dat (by walk_at "M rel")))) (by (first | exact vd_can1 | exact vd_can2 | exact vd_can3 | exact vd_dep1 | exact vd_dep2 | exact vd_dep3 | exact place_can | exact place_depth)) (by (first | exact vd_can1 | exact vd_can2 | exact vd_can3 | exact vd_dep1 | exact vd_dep2 | exact vd_dep3 | exact place_can | exact place_depth)) (by (first | exact vd_can1 | exact vd_can2 | exact vd_can3 | exact vd_dep1 | exact vd_dep2 | exact vd_dep3 | exact place_can | exact place_depth)) (by (first | exact place_eqv.trans (decide_eq_true (by assumption)) | exact place_eqv.trans (decide_eq_false (by assumption)) | exact vd_tt | exact vd_ts | exact vd_tb | exact vd_st | exact vd_ss | exact vd_sb | exact vd_bt | exact vd_bs | exact vd_bb)) ?_; k_whole))) | ((with_reducible show wpAny _ _ (eval (Expr.Name _ _) _) _ _ _); with_reducible (k_here; k_dflt (apply nameX_L; (case F => k_asm); (case hk => rfl); (case hx => rfl); (case hv => walk_at "M look"); (case hd => decide); k_whole))) | ((with_reducible show wpAny _ _ (compareOp CmpOp.LtE (Value.ref _) (Value.ref _)) _ _ _); with_reducible (k_here; k_dflt (refine' le_place2 (by (first | assumption | exact Room.h (by assumption) | exact Room.u_lt (by assumption) | exact Room.less (by assumption) (by decide))) (by k_asm) (by k_mem) (by k_mem) (by assumption) ?_; k_whole))) | ((with_reducible show wpAny _ _ (compareOp CmpOp.Eq (Value.ref _) (Value.ref _)) _ _ _); with_reducible (k_here; k_dflt (refine' eq_dat (by (first | assumption | exact Room.h (by assumption) | exact Room.u_lt (by assumption) | exact Room.less (by assumption) (by decide))) (by k_asm) (by (first | (refine' vd_dat_t ?_ (by assumption); (walk_at "M sub")) | (refine' vd_dat_s ?_ (by assumption); (walk_at "M sub")) | (refine' vd_dat_b ?_ (by assumption); (walk_at "M sub")) | exact DatAt.tup (by k_mem) (.cons .str .nil) | exact DatAt.tup (by k_mem) (.cons .str (.cons .bool .nil)) | (refine' PlaceAt.dat (by walk_at "M rel")))) (by (first | (refine' vd_dat_t ?_ (by assumption); (walk_at "M sub")) | (refine' vd_dat_s ?_ (by assumption); (walk_at "M sub")) | (refine' vd_dat_b ?_ (by assumption); (walk_at "M sub")) | exact DatAt.tup (by k_mem) (.cons .str .nil) | exact DatAt.tup (by k_mem) (.cons .str (.cons .bool .nil)) | (refine' PlaceAt.dat (by walk_at "M rel")))) (by (first | exact vd_can1 | exact vd_can2 | exact vd_can3 | exact vd_dep1 | exact vd_dep2 | exact vd_dep3 | exact place_can | exact place_depth)) (by (first | exact vd_can1 | exact vd_can2 | exact vd_can3 | exact vd_dep1 | exact vd_dep2 | exact vd_dep3 | exact place_can | exact place_depth)) (by (first | exact vd_can1 | exact vd_can2 | exact vd_can3 | exact vd_dep1 | exact vd_dep2 | exact vd_dep3 | exact place_can | exact place_depth)) (by (first | exact place_eqv.trans (decide_eq_true (by assumption)) | exact place_eqv.trans (decide_eq_false (by assumption)) | exact vd_tt | exact vd_ts | exact vd_tb | exact vd_st | exact vd_ss | exact vd_sb | exact vd_bt | exact vd_bs | exact vd_bb)) ?_; k_whole))) | ((with_reducible show wpAny _ _ (getMethod (Value.ref _) _ _) _ _ _); with_reducible (k_here; (with_reducible show wpAny _ _ (getMethod (Value.ref _) (PySem.Str.ofString "append") _) _ _ _); k_dflt (refine' lst_method (by k_asm) (by k_mem) (by assumption) PySem.F.slot_list_append PySem.F.type_list_append ?_))) | ((with_reducible show wpAny _ _ (call (Value.builtin "list.append") _) _ _ _); with_reducible (k_here; k_dflt (apply lst_append; (case F => k_asm); (case N => k_asm); (case U => walk_at "M up"); (case ho => assumption); (case hz => omega); k_whole); intro _ _ _; intro zN; (try dsimp only at zN); revert zN; intro _; intro _; (try k_sweep))) | ((with_reducible show wpAny _ _ (call (Value.ref _) _) _ _ _); (first | with_reducible (k_here; k_dflt (refine' verdict_fit (by (first | assumption | exact Room.h (by assumption) | exact Room.u_lt (by assumption) | exact Room.less (by assumption) (by decide))) (by k_asm) (by k_asm) (by k_asm) (by k_asm) (by assumption) (by assumption) (by assumption) (by assumption) (by walk_at "M rel") (by walk_at "M rel") (by k_mem) (by walk_at "M rel") ?_; k_whole); intro _ _ _ _ _ _ _ _; (try k_sweep)) | with_reducible (k_here; k_dflt (refine' verdict_none (by (first | assumption | exact Room.h (by assumption) | exact Room.u_lt (by assumption) | exact Room.less (by assumption) (by decide))) (by k_asm) (by k_asm) (by k_asm) (by k_asm) (by walk_at "M rel") (by walk_at "M rel") ?_; k_whole); intro _ _ _ _ _ _ _ _; (try k_sweep)) | with_reducible (k_here; k_dflt (refine' look_some3 (by (first | assumption | exact Room.h (by assumption) | exact Room.u_lt (by assumption) | exact Room.less (by assumption) (by decide))) (by k_asm) (by k_asm) (by k_asm) (by k_asm) (by walk_at "M rel") (by k_mem) (by assumption) (by walk_at "M sub") (by walk_at "M rel") (by assumption) (by assumption) ?_; k_whole); intro _ _ _ _ _ _ _ _ _ _ _ _; (try k_sweep)) | with_reducible (k_here; k_dflt (refine' look_none (by (first | assumption | exact Room.h (by assumption) | exact Room.u_lt (by assumption) | exact Room.less (by assumption) (by decide))) (by k_asm) (by k_asm) (by k_asm) (by k_asm) (by walk_at "M rel") (by k_mem) (by assumption) (by walk_at "M sub") (by walk_at "M rel") (by assumption) (by assumption) ?_; k_whole); intro _ _ _ _; (try k_sweep)) | with_reducible (k_here; k_dflt (refine' since_spec (by (first | assumption | exact Room.h (by assumption) | exact Room.u_lt (by assumption) | exact Room.less (by assumption) (by decide))) (by k_asm) (by k_asm) (by k_asm) (by k_asm) (by walk_at "M rel") (by k_mem) (by assumption) (by walk_at "M sub") (by walk_at "M rel") (by assumption) (by assumption) ?_; k_whole); intro _ _ _ _ _; (try k_sweep)) | with_reducible (k_here; k_dflt (apply put_true; (case hR => (first | assumption | exact Room.h (by assumption) | exact Room.u_lt (by assumption) | exact Room.less (by assumption) (by decide))); (case F => k_asm); (case X => k_asm); (case N => k_asm); (case T => k_asm); (case hc => assumption); (case h1 => walk_at "M rel"); (case U => walk_at "M up"); (case h3 => assumption); (case hs => walk_at "M sub"); (case h5 => assumption); (case h4 => walk_at "M rel"); (case hz => first | assumption | omega); (case hg => intro o9; walk_at "M sub"); k_whole); intro _ _ _ _ _ _ _ _; (try k_sweep)))) | ((with_reducible show wpAny _ _ (exec (Stmt.For _ _ _ _ _) _) _ _ _); with_reducible (k_here; k_dflt (refine' for_go (by k_asm) ?_); k_whole)) | walk1 | (dsimp only; walk1) | (dsimp only; k_unfold; try dsimp only)))
        rename_i newp ro2 _ _ abp Rp D9 h10 F10 N10 l10
        refine zhT _ _ ?_; refine Turned.next ((D, bo) :: (kp, ko2) :: (rp, ro2) :: (D0, tupO [.ref pp, .int r.age t7, .int now t8]) :: (newp ++ (new ++ ((fd, fo) :: led)))) F10 N10 (by walk_at "M sub") (by walk_at "M apart") ?_
        refine ⟨(D0, tupO [.ref pp, .int r.age t7, .int now t8]) :: (newp ++ new), bo, ko2, ro2, bvs, by simp, by walk_at "M above", lb, a2.mono fun _ _ x => x.mono (by walk_at "M sub"), by omega,
          by simpa only [List.append_assoc, List.cons_append] using Known.mono (led' := (D0, tupO [.ref pp, .int r.age t7, .int now t8]) :: (newp ++ (new ++ imm))) (by walk_at "M sub") K9,
          by simpa only [List.append_assoc, List.cons_append] using Rows.mono (led' := (D0, tupO [.ref pp, .int r.age t7, .int now t8]) :: (newp ++ (new ++ imm))) (by walk_at "M sub") Rp, ?_, ?_, ?_, ?_, ?_⟩
        all_goals (walk_at "M look")
  · rintro m2 n2 h2 tk2 ⟨new, bo, ko1, ro1, bvs, rfl, ab, lb, a2, bl, hKi, hWi, q1, q2, q3, q4, q5⟩ F2 N2
    clear F7 NN hK hW
    rw [hlen, List.take_length] at a2 hKi hWi
    (repeat' (first | (k_unfold; (try dsimp only)) | ((with_reducible show wpAny _ _ (newTuple _) _ _ _); with_reducible (k_here; k_dflt (refine' kup_newTuple (by k_asm) (by k_asm) ?_ (by exact Nat.le_of_ble_eq_true rfl)); intro _ _ _ _ _; (try k_sweep))) | ((with_reducible show wpAny _ _ (compareOp CmpOp.In (Value.int _ _) (Value.ref _)) _ _ _); with_reducible (k_here; k_dflt (refine' known_in (by k_asm) (by k_mem) (by assumption) (by assumption) (by first | exact isSome_some (by assumption) | exact isSome_none (by assumption)) ?_; k_whole); intro _)) | ((with_reducible show wpAny _ _ (subscriptTail _ _ (Value.ref _) _) _ _ _); with_reducible (k_here; (with_reducible show wpAny _ _ (subscriptTail _ _ (Value.ref _) (Value.int _ _)) _ _ _); k_dflt (apply known_tail2; (case N => k_asm); (case hm => k_mem); (case R => assumption); (case hs => walk_at "M sub"); (case he => assumption); (case hu => with_unfolding_all rfl); k_whole); intro _ _ _ _ _ _ _ _ _ _)) | ((with_reducible show wpAny _ _ (unpackItems (Value.ref _) _ _) _ _ _); with_reducible (k_here; k_dflt (refine' unpackItemsN_ (by k_asm) (by k_asm) (by first | assumption | (refine News.isTup (by k_asm) (by k_mem))) (by (first | assumption | exact Room.h (by assumption) | exact Room.u_lt (by assumption) | exact Room.less (by assumption) (by decide))) (by exact rfl) ?_; k_whole); intro _ _ _; (try k_sweep))) | ((with_reducible show wpAny _ _ (compareOp CmpOp.NotEq (Value.ref _) (Value.ref _)) _ _ _); with_reducible (k_here; k_dflt (refine' ne_dat (by (first | assumption | exact Room.h (by assumption) | exact Room.u_lt (by assumption) | exact Room.less (by assumption) (by decide))) (by k_asm) (by (first | (refine' vd_dat_t ?_ (by assumption); (walk_at "M sub")) | (refine' vd_dat_s ?_ (by assumption); (walk_at "M sub")) | (refine' vd_dat_b ?_ (by assumption); (walk_at "M sub")) | exact DatAt.tup (by k_mem) (.cons .str .nil) | exact DatAt.tup (by k_mem) (.cons .str (.cons .bool .nil)) | (refine' PlaceAt.dat (by walk_at "M rel")))) (by (first | (refine' vd_dat_t ?_ (by assumption); (walk_at "M sub")) | (refine' vd_dat_s ?_ (by assumption); (walk_at "M sub")) | (refine' vd_dat_b ?_ (by assumption); (walk_at "M sub")) | exact DatAt.tup (by k_mem) (.cons .str .nil) | exact DatAt.tup (by k_mem) (.cons .str (.cons .bool .nil)) | (refine' PlaceAt.dat (by walk_at "M rel")))) (by (first | exact vd_can1 | exact vd_can2 | exact vd_can3 | exact vd_dep1 | exact vd_dep2 | exact vd_dep3 | exact place_can | exact place_depth)) (by (first | exact vd_can1 | exact vd_can2 | exact vd_can3 | exact vd_dep1 | exact vd_dep2 | exact vd_dep3 | exact place_can | exact place_depth)) (by (first | exact vd_can1 | exact vd_can2 | exact vd_can3 | exact vd_dep1 | exact vd_dep2 | exact vd_dep3 | exact place_can | exact place_depth)) (by (first | exact place_eqv.trans (decide_eq_true (by assumption)) | exact place_eqv.trans (decide_eq_false (by assumption)) | exact vd_tt | exact vd_ts | exact vd_tb | exact vd_st | exact vd_ss | exact vd_sb | exact vd_bt | exact vd_bs | exact vd_bb)) ?_; k_whole))) | ((with_reducible show wpAny _ _ (eval (Expr.Name _ _) _) _ _ _); with_reducible (k_here; k_dflt (apply nameX_L; (case F => k_asm); (case hk => rfl); (case hx => rfl); (case hv => walk_at "M look"); (case hd => decide); k_whole))) | ((with_reducible show wpAny _ _ (compareOp CmpOp.LtE (Value.ref _) (Value.ref _)) _ _ _); with_reducible (k_here; k_dflt (refine' le_place2 (by (first | assumption | exact Room.h (by assumption) | exact Room.u_lt (by assumption) | exact Room.less (by assumption) (by decide))) (by k_asm) (by k_mem) (by k_mem) (by assumption) ?_; k_whole))) | ((with_reducible show wpAny _ _ (compareOp CmpOp.Eq (Value.ref _) (Value.ref _)) _ _ _); with_reducible (k_here; k_dflt (refine' eq_dat (by (first | assumption | exact Room.h (by assumption) | exact Room.u_lt (by assumption) | exact Room.less (by assumption) (by decide))) (by k_asm) (by (first | (refine' vd_dat_t ?_ (by assumption); (walk_at "M sub")) | (refine' vd_dat_s ?_ (by assumption); (walk_at "M sub")) | (refine' vd_dat_b ?_ (by assumption); (walk_at "M sub")) | exact DatAt.tup (by k_mem) (.cons .str .nil) | exact DatAt.tup (by k_mem) (.cons .str (.cons .bool .nil)) | (refine' PlaceAt.dat (by walk_at "M rel")))) (by (first | (refine' vd_dat_t ?_ (by assumption); (walk_at "M sub")) | (refine' vd_dat_s ?_ (by assumption); (walk_at "M sub")) | (refine' vd_dat_b ?_ (by assumption); (walk_at "M sub")) | exact DatAt.tup (by k_mem) (.cons .str .nil) | exact DatAt.tup (by k_mem) (.cons .str (.cons .bool .nil)) | (refine' PlaceAt.dat (by walk_at "M rel")))) (by (first | exact vd_can1 | exact vd_can2 | exact vd_can3 | exact vd_dep1 | exact vd_dep2 | exact vd_dep3 | exact place_can | exact place_depth)) (by (first | exact vd_can1 | exact vd_can2 | exact vd_can3 | exact vd_dep1 | exact vd_dep2 | exact vd_dep3 | exact place_can | exact place_depth)) (by (first | exact vd_can1 | exact vd_can2 | exact vd_can3 | exact vd_dep1 | exact vd_dep2 | exact vd_dep3 | exact place_can | exact place_depth)) (by (first | exact place_eqv.trans (decide_eq_true (by assumption)) | exact place_eqv.trans (decide_eq_false (by assumption)) | exact vd_tt | exact vd_ts | exact vd_tb | exact vd_st | exact vd_ss | exact vd_sb | exact vd_bt | exact vd_bs | exact vd_bb)) ?_; k_whole))) | ((with_reducible show wpAny _ _ (getMethod (Value.ref _) _ _) _ _ _); with_reducible (k_here; (with_reducible show wpAny _ _ (getMethod (Value.ref _) (PySem.Str.ofString "append") _) _ _ _); k_dflt (refine' lst_method (by k_asm) (by k_mem) (by assumption) PySem.F.slot_list_append PySem.F.type_list_append ?_))) | ((with_reducible show wpAny _ _ (call (Value.builtin "list.append") _) _ _ _); with_reducible (k_here; k_dflt (apply lst_append; (case F => k_asm); (case N => k_asm); (case U => walk_at "M up"); (case ho => assumption); (case hz => omega); k_whole); intro _ _ _; intro zN; (try dsimp only at zN); revert zN; intro _; intro _; (try k_sweep))) | ((with_reducible show wpAny _ _ (call (Value.ref _) _) _ _ _); (first | with_reducible (k_here; k_dflt (refine' verdict_fit (by (first | assumption | exact Room.h (by assumption) | exact Room.u_lt (by assumption) | exact Room.less (by assumption) (by decide))) (by k_asm) (by k_asm) (by k_asm) (by k_asm) (by assumption) (by assumption) (by assumption) (by assumption) (by walk_at "M rel") (by walk_at "M rel") (by k_mem) (by walk_at "M rel") ?_; k_whole); intro _ _ _ _ _ _ _ _; (try k_sweep)) | with_reducible (k_here; k_dflt (refine' verdict_none (by (first | assumption | exact Room.h (by assumption) | exact Room.u_lt (by assumption) | exact Room.less (by assumption) (by decide))) (by k_asm) (by k_asm) (by k_asm) (by k_asm) (by walk_at "M rel") (by walk_at "M rel") ?_; k_whole); intro _ _ _ _ _ _ _ _; (try k_sweep)) | with_reducible (k_here; k_dflt (refine' look_some3 (by (first | assumption | exact Room.h (by assumption) | exact Room.u_lt (by assumption) | exact Room.less (by assumption) (by decide))) (by k_asm) (by k_asm) (by k_asm) (by k_asm) (by walk_at "M rel") (by k_mem) (by assumption) (by walk_at "M sub") (by walk_at "M rel") (by assumption) (by assumption) ?_; k_whole); intro _ _ _ _ _ _ _ _ _ _ _ _; (try k_sweep)) | with_reducible (k_here; k_dflt (refine' look_none (by (first | assumption | exact Room.h (by assumption) | exact Room.u_lt (by assumption) | exact Room.less (by assumption) (by decide))) (by k_asm) (by k_asm) (by k_asm) (by k_asm) (by walk_at "M rel") (by k_mem) (by assumption) (by walk_at "M sub") (by walk_at "M rel") (by assumption) (by assumption) ?_; k_whole); intro _ _ _ _; (try k_sweep)) | with_reducible (k_here; k_dflt (refine' since_spec (by (first | assumption | exact Room.h (by assumption) | exact Room.u_lt (by assumption) | exact Room.less (by assumption) (by decide))) (by k_asm) (by k_asm) (by k_asm) (by k_asm) (by walk_at "M rel") (by k_mem) (by assumption) (by walk_at "M sub") (by walk_at "M rel") (by assumption) (by assumption) ?_; k_whole); intro _ _ _ _ _; (try k_sweep)) | with_reducible (k_here; k_dflt (apply put_true; (case hR => (first | assumption | exact Room.h (by assumption) | exact Room.u_lt (by assumption) | exact Room.less (by assumption) (by decide))); (case F => k_asm); (case X => k_asm); (case N => k_asm); (case T => k_asm); (case hc => assumption); (case h1 => walk_at "M rel"); (case U => walk_at "M up"); (case h3 => assumption); (case hs => walk_at "M sub"); (case h5 => assumption); (case h4 => walk_at "M rel"); (case hz => first | assumption | omega); (case hg => intro o9; walk_at "M sub"); k_whole); intro _ _ _ _ _ _ _ _; (try k_sweep)))) | ((with_reducible show wpAny _ _ (exec (Stmt.For _ _ _ _ _) _) _ _ _); with_reducible (k_here; k_dflt (refine' for_go (by k_asm) ?_); k_whole)) | walk1 | (dsimp only; walk1) | (dsimp only; k_unfold; try dsimp only)))
    (refine' back_ (by k_asm) (by k_asm) ?_); intro kF kN
    have aD : ∀ p ∈ (kp, ko) :: (rp, ro) :: led, p.1 < (D, bo).1 := fun p hp => by
      rcases List.mem_cons.mp hp with rfl | hp
      · exact lD.2.1
      · rcases List.mem_cons.mp hp with rfl | hp
        · exact lD.2.2.1
        · exact lDl p hp
    have af : ∀ p ∈ (kp, ko) :: (rp, ro) :: led, p.1 < (fd, fo).1 := fun p hp => by
      rcases List.mem_cons.mp hp with rfl | hp
      · exact fl1.1
      · rcases List.mem_cons.mp hp with rfl | hp
        · exact fl1.2.1
        · exact lfd p hp
    have k1 : Above ((kp, ko) :: (rp, ro) :: led) ((D, bo) :: (new ++ [(fd, fo)])) := Above.cons aD (Above.app (Above.less (by walk_at "M sub") ab) (Above.cons af Above.nil))
    have k2 : Off D (new ++ [(fd, fo)]) := Off.both (Off.of' ab (List.Mem.head _)) (Off.cons' (Nat.ne_of_lt lD.1) Off.nil)
    have k3 : Sub (new ++ imm) (new ++ [(fd, fo)] ++ imm) := by walk_at "M sub"
    exact hQ D bo ko1 ro1 (new ++ [(fd, fo)]) bvs _ _ kF (by simpa using kN) k1 k2 lb (a2.mono fun _ _ x => x.mono k3) (hKi.mono k3) (hWi.mono k3)
end

theorem leB_refl (u v : Int) (f : Bool) : leB u v f u v f = true := by unfold leB; cases f <;> simp
theorem rowLe_same {a b : Row} (h : SamePl a b) : rowLe a b = true := by
  obtain ⟨h1, h2, h3⟩ := h
  unfold rowLe
  rw [h1, h2, h3]; exact leB_refl _ _ _
theorem rowLe_trans {a b c : Row} (h : rowLe a b = true) (k : rowLe b c = true) : rowLe a c = true := by
  obtain ⟨_, _, u1, v1, f1⟩ := a
  obtain ⟨_, _, u2, v2, f2⟩ := b
  obtain ⟨_, _, u3, v3, f3⟩ := c
  simp only [rowLe, leB] at *
  by_cases e1 : u1 = u2 <;> by_cases e2 : u2 = u3 <;> by_cases e3 : v1 = v2 <;> by_cases e4 : v2 = v3 <;> simp_all
  · cases f1 <;> cases f2 <;> simp_all
  all_goals (try split) <;> (try split) <;> (try simp_all) <;> (try omega)
theorem rowLe_antisymm {a b : Row} (h : rowLe a b = true) (k : rowLe b a = true) : SamePl a b := by
  obtain ⟨_, _, u1, v1, f1⟩ := a
  obtain ⟨_, _, u2, v2, f2⟩ := b
  simp only [rowLe, leB, SamePl] at *
  by_cases e1 : u1 = u2
  · subst e1
    by_cases e3 : v1 = v2
    · subst e3
      cases f1 <;> cases f2 <;> simp_all
    · have : v2 ≠ v1 := Ne.symm e3
      simp [e3, this] at h k; omega
  · have : u2 ≠ u1 := Ne.symm e1
    simp [e1, this] at h k; omega
theorem rowLe_total {a b : Row} (h : rowLe a b = false) : rowLe b a = true := by
  obtain ⟨_, _, u1, v1, f1⟩ := a
  obtain ⟨_, _, u2, v2, f2⟩ := b
  simp only [rowLe, leB] at *
  by_cases e1 : u1 = u2
  · subst e1
    by_cases e3 : v1 = v2
    · subst e3
      cases f1 <;> cases f2 <;> simp_all
    · have : v2 ≠ v1 := Ne.symm e3
      simp [e3, this] at h ⊢; omega
  · have : u2 ≠ u1 := Ne.symm e1
    simp [e1, this] at h ⊢; omega
theorem SamePl.symm {a b : Row} (h : SamePl a b) : SamePl b a := ⟨h.1.symm, h.2.1.symm, h.2.2.symm⟩
theorem SamePl.trans {a b c : Row} (h : SamePl a b) (k : SamePl b c) : SamePl a c := ⟨h.1.trans k.1, h.2.1.trans k.2.1, h.2.2.trans k.2.2⟩
theorem SamePl.refl (a : Row) : SamePl a a := ⟨rfl, rfl, rfl⟩
theorem find_put (es : List Ent) (e : Ent) (n : Int) : findE (putE es e) n = if e.row.name = n then some e else findE es n := by
  unfold putE
  by_cases q : (findE es e.row.name).isSome = true
  · rw [if_pos q]
    by_cases h : e.row.name = n
    · rw [if_pos h]
      subst h
      induction es with
      | nil => simp [findE] at q
      | cons x r ih =>
        by_cases hx : x.row.name = e.row.name
        · simp [findE, hx]
        · have q' : (findE r e.row.name).isSome = true := by simpa [findE, hx] using q
          have := ih q'
          simpa [findE, hx] using this
    · rw [if_neg h]
      clear q
      induction es with
      | nil => rfl
      | cons x r ih =>
        by_cases hx : x.row.name = e.row.name
        · have h2 : ¬ x.row.name = n := fun z => h (hx.symm.trans z)
          simp only [findE] at ih
          simp [findE, hx, h, ih]
        · by_cases h2 : x.row.name = n
          · subst h2; simp [findE, hx]
          · simp only [findE] at ih
            simp [findE, hx, h2, ih]
  · rw [if_neg q]
    have q' : findE es e.row.name = none := by simpa using q
    unfold findE at *
    rw [List.find?_append]
    by_cases h : e.row.name = n
    · subst h; rw [q']; simp
    · simp [h]
theorem run_snoc (now : Int) (es : List Ent) (rs : List Row) (r : Row) :
    runE now es (rs ++ [r]) = ((stepE now (runE now es rs).1 r).1, (runE now es rs).2 ++ (stepE now (runE now es rs).1 r).2) := by
  unfold runE; rw [List.foldl_append]; rfl
theorem made_snoc (now : Int) (rs : List Row) (r : Row) : madeEs now (rs ++ [r]) = putE (madeEs now rs) ⟨r, now⟩ := by
  unfold madeEs; rw [List.foldl_append]; rfl
theorem snoc_ind {α : Type} {P : List α → Prop} (h0 : P []) (h1 : ∀ l a, P l → P (l ++ [a])) (l : List α) : P l := by
  rw [← List.reverse_reverse l]
  induction l.reverse with
  | nil => exact h0
  | cons a r ih => rw [List.reverse_cons]; exact h1 _ _ ih
def One (rs : List Row) : Prop := ∀ x ∈ rs, ∀ y ∈ rs, x.name = y.name → x = y
theorem made_find {now : Int} {rs : List Row} (h : One rs) : ∀ r ∈ rs, findE (madeEs now rs) r.name = some ⟨r, now⟩ := by
  revert h
  refine snoc_ind (P := fun rs => One rs → ∀ r ∈ rs, findE (madeEs now rs) r.name = some ⟨r, now⟩) (fun _ r hr => nomatch hr) (fun l a ih h r hr => ?_) rs
  rw [made_snoc, find_put]
  by_cases q : a.name = r.name
  · have : a = r := h a (by simp) r hr q
    subst this; simp
  · rw [if_neg q]
    rcases List.mem_append.mp hr with hr | hr
    · exact ih (fun x hx y hy => h x (List.mem_append_left _ hx) y (List.mem_append_left _ hy)) r hr
    · exact absurd (by rw [List.mem_singleton.mp hr]) q
theorem made_from {now : Int} {rs : List Row} : ∀ {n e}, findE (madeEs now rs) n = some e → ∃ r ∈ rs, r.name = n ∧ e = ⟨r, now⟩ := by
  refine snoc_ind (P := fun rs => ∀ {n e}, findE (madeEs now rs) n = some e → ∃ r ∈ rs, r.name = n ∧ e = ⟨r, now⟩) (fun h => by simp [madeEs, findE] at h) (fun l a ih n e h => ?_) rs
  rw [made_snoc, find_put] at h
  by_cases q : a.name = n
  · rw [if_pos q] at h
    exact ⟨a, by simp, q, (Option.some.inj h).symm⟩
  · rw [if_neg q] at h
    obtain ⟨r, h1, h2⟩ := ih h
    exact ⟨r, List.mem_append_left _ h1, h2⟩
theorem step_none {now : Int} {es : List Ent} {x : Row} (h : findE es x.name = none) : stepE now es x = (putE es ⟨x, now⟩, []) := by unfold stepE; rw [h]
theorem step_same {now : Int} {es : List Ent} {x : Row} {e : Ent} (h : findE es x.name = some e) (h1 : SamePl x e.row) : stepE now es x = (es, []) := by
  unfold stepE; rw [h]; simp only; rw [if_pos (rowLe_same h1), if_pos h1]
theorem step_back {now : Int} {es : List Ent} {x : Row} {e : Ent} (h : findE es x.name = some e) (h1 : rowLe x e.row = true) (h2 : ¬ SamePl x e.row) : stepE now es x = (es, [agedE now e]) := by
  unfold stepE; rw [h]; simp only; rw [if_pos h1, if_neg h2]
theorem step_take {now : Int} {es : List Ent} {x : Row} {e : Ent} (h : findE es x.name = some e) (h1 : rowLe x e.row = false) : stepE now es x = (putE es ⟨x, now⟩, []) := by
  unfold stepE; rw [h]; simp only; rw [if_neg (by rw [h1]; simp)]
structure Ran (now : Int) (es : List Ent) (P : List Row) (es' : List Ent) (bk : List Row) : Prop where
  a : ∀ n, findE es' n = findE es n ∨ ∃ r ∈ P, r.name = n ∧ findE es' n = some ⟨r, now⟩ ∧ ∀ e, findE es n = some e → rowLe r e.row = false
  b : ∀ x ∈ P, ∃ e, findE es' x.name = some e ∧ rowLe x e.row = true
  c : ∀ y ∈ bk, ∃ e r, findE es r.name = some e ∧ r ∈ P ∧ y = agedE now e ∧ rowLe r e.row = true ∧ ¬ SamePl r e.row
  d : ∀ x ∈ P, ∃ e, findE es' x.name = some e ∧ (SamePl x e.row ∨ (findE es x.name = some e ∧ agedE now e ∈ bk))
theorem ran {now : Int} {es : List Ent} {P : List Row} (h : One P) : Ran now es P (runE now es P).1 (runE now es P).2 := by
  revert h
  refine snoc_ind (P := fun P => One P → Ran now es P (runE now es P).1 (runE now es P).2) (fun _ => ⟨fun n => .inl rfl, fun x hx => (nomatch hx), fun x hx => (nomatch hx), fun x hx => (nomatch hx)⟩) (fun P x ih h => ?_) P
  have I := ih fun a ha b hb => h a (List.mem_append_left _ ha) b (List.mem_append_left _ hb)
  have one : ∀ r ∈ P, r.name = x.name → r = x := fun r hr q => h r (List.mem_append_left _ hr) x (by simp) q
  rw [run_snoc]
  generalize hq : runE now es P = q at *
  obtain ⟨es', bk⟩ := q
  simp only at I ⊢
  have P' : ∀ {z}, z ∈ P → z ∈ P ++ [x] := fun m => List.mem_append_left _ m
  have put : (∀ e, findE es x.name = some e → rowLe x e.row = false) → (∀ y ∈ P, y.name = x.name → y = x) → Ran now es (P ++ [x]) (putE es' ⟨x, now⟩) (bk ++ []) := fun hx hp => by
    rw [List.append_nil]
    refine ⟨fun n => ?_, fun y hy => ?_, fun y hy => ?_, fun y hy => ?_⟩
    · rw [find_put]
      by_cases q : x.name = n
      · rw [if_pos q]; exact .inr ⟨x, by simp, q, rfl, fun e he => hx e (q ▸ he)⟩
      · rw [if_neg q]
        rcases I.a n with z | ⟨r, r1, r2, r3, r4⟩
        · exact .inl z
        · exact .inr ⟨r, P' r1, r2, r3, r4⟩
    · rw [find_put]
      by_cases q : x.name = y.name
      · rw [if_pos q]
        refine ⟨_, rfl, ?_⟩
        have : y = x := by
          rcases List.mem_append.mp hy with hy | hy
          · exact hp y hy q.symm
          · exact List.mem_singleton.mp hy
        rw [this]; exact rowLe_same (SamePl.refl _)
      · rw [if_neg q]
        rcases List.mem_append.mp hy with hy | hy
        · exact I.b y hy
        · exact absurd (by rw [List.mem_singleton.mp hy]) q
    · obtain ⟨e, r, c1, c2, c3⟩ := I.c y hy
      exact ⟨e, r, c1, P' c2, c3⟩
    · rw [find_put]
      by_cases q : x.name = y.name
      · rw [if_pos q]
        refine ⟨_, rfl, .inl ?_⟩
        have : y = x := by
          rcases List.mem_append.mp hy with hy | hy
          · exact hp y hy q.symm
          · exact List.mem_singleton.mp hy
        rw [this]; exact SamePl.refl _
      · rw [if_neg q]
        rcases List.mem_append.mp hy with hy | hy
        · exact I.d y hy
        · exact absurd (by rw [List.mem_singleton.mp hy]) q
  cases he : findE es' x.name with
  | none =>
    rw [step_none he]
    refine put (fun e h1 => ?_) one
    rcases I.a x.name with z | ⟨r, _, _, z, _⟩
    · rw [he, h1] at z; cases z
    · rw [he] at z; cases z
  | some e =>
    by_cases hle : rowLe x e.row = true
    · have keep : ∀ {bk'}, (∀ z ∈ bk, z ∈ bk') → (∀ y ∈ bk', y ∈ bk ∨ (findE es x.name = some e ∧ y = agedE now e ∧ ¬ SamePl x e.row)) → (SamePl x e.row ∨ (findE es x.name = some e ∧ agedE now e ∈ bk')) → Ran now es (P ++ [x]) es' bk' := fun {bk'} k1 k2 k3 => by
        refine ⟨fun n => ?_, fun y hy => ?_, fun y hy => ?_, fun y hy => ?_⟩
        · rcases I.a n with z | ⟨r, r1, r2⟩
          · exact .inl z
          · exact .inr ⟨r, P' r1, r2⟩
        · rcases List.mem_append.mp hy with hy | hy
          · exact I.b y hy
          · rw [List.mem_singleton.mp hy]; exact ⟨e, he, hle⟩
        · rcases k2 y hy with hy | ⟨h1, h2, h3⟩
          · obtain ⟨e, r, c1, c2, c3⟩ := I.c y hy
            exact ⟨e, r, c1, P' c2, c3⟩
          · exact ⟨e, x, h1, by simp, h2, hle, h3⟩
        · rcases List.mem_append.mp hy with hy | hy
          · obtain ⟨e', d1, d2⟩ := I.d y hy
            exact ⟨e', d1, d2.imp id fun d => ⟨d.1, k1 _ d.2⟩⟩
          · rw [List.mem_singleton.mp hy]; exact ⟨e, he, k3⟩
      by_cases hs : SamePl x e.row
      · rw [step_same he hs]
        exact keep (by simp) (fun y hy => .inl (by simpa using hy)) (.inl hs)
      · rw [step_back he hle hs]
        have hf : findE es x.name = some e := by
          rcases I.a x.name with z | ⟨r, r1, r2, z, _⟩
          · rw [← z]; exact he
          · rw [he] at z
            have := one r r1 r2
            subst this
            obtain rfl := Option.some.inj z
            exact absurd (SamePl.refl _) hs
        exact keep (fun z hz => List.mem_append_left _ hz) (fun y hy => (List.mem_append.mp hy).imp id fun hy => ⟨hf, List.mem_singleton.mp hy, hs⟩) (.inr ⟨hf, by simp⟩)
    · have hle : rowLe x e.row = false := by simpa using hle
      rw [step_take he hle]
      refine put (fun e' h1 => ?_) one
      rcases I.a x.name with z | ⟨r, r1, r2, z, _⟩
      · rw [he, h1] at z
        obtain rfl := Option.some.inj z
        exact hle
      · rw [he] at z
        have := one r r1 r2
        subst this
        obtain rfl := Option.some.inj z
        rw [rowLe_same (SamePl.refl _)] at hle; cases hle
theorem aged_same (now : Int) (e : Ent) : SamePl (agedE now e) e.row := ⟨rfl, rfl, rfl⟩
theorem aged_name (now : Int) (e : Ent) : (agedE now e).name = e.row.name := rfl
theorem ran_side {now : Int} {es : List Ent} {rs X : List Row} (h1 : One rs) (hX : ∀ x ∈ X, x ∈ rs) :
    (runE now (madeEs now rs) (runE now es X).2).2 = [] ∧
    ∀ x ∈ X, ∃ e1 e2, findE (runE now es X).1 x.name = some e1 ∧ findE (runE now (madeEs now rs) (runE now es X).2).1 x.name = some e2 ∧ SamePl e2.row e1.row := by
  have oX : One X := fun x hx y hy => h1 x (hX x hx) y (hX y hy)
  have R := ran (now := now) (es := es) oX
  generalize hq : runE now es X = q at *
  obtain ⟨es', bk⟩ := q
  simp only at R ⊢
  clear hq
  have oB : ∀ b ∈ bk, ∀ c ∈ bk, b.name = c.name → b = c := fun b hb c hc hn => by
    obtain ⟨e1, r1, a1, a2, a3, a4, a5⟩ := R.c b hb
    obtain ⟨e2, r2, b1, b2, b3, b4, b5⟩ := R.c c hc
    have n1 := findE_name a1
    have n2 := findE_name b1
    have : r1.name = r2.name := by rw [← n1, ← n2, ← aged_name now e1, ← aged_name now e2, ← a3, ← b3, hn]
    rw [this, b1] at a1
    obtain rfl := Option.some.inj a1
    rw [a3, b3]
  have inv : ∀ P : List Row, (∀ b ∈ P, b ∈ bk) → (runE now (madeEs now rs) P).2 = [] ∧
      (∀ n, findE (runE now (madeEs now rs) P).1 n = findE (madeEs now rs) n ∨ ∃ b ∈ P, b.name = n ∧ findE (runE now (madeEs now rs) P).1 n = some ⟨b, now⟩) ∧
      ∀ b ∈ P, findE (runE now (madeEs now rs) P).1 b.name = some ⟨b, now⟩ := fun P => by
    refine snoc_ind (P := fun P => (∀ b ∈ P, b ∈ bk) → (runE now (madeEs now rs) P).2 = [] ∧
      (∀ n, findE (runE now (madeEs now rs) P).1 n = findE (madeEs now rs) n ∨ ∃ b ∈ P, b.name = n ∧ findE (runE now (madeEs now rs) P).1 n = some ⟨b, now⟩) ∧
      ∀ b ∈ P, findE (runE now (madeEs now rs) P).1 b.name = some ⟨b, now⟩) (fun _ => ⟨rfl, fun n => .inl rfl, fun b hb => nomatch hb⟩) (fun P b ih hP => ?_) P
    obtain ⟨i1, i2, i3⟩ := ih fun c hc => hP c (List.mem_append_left _ hc)
    rw [run_snoc]
    generalize hq : runE now (madeEs now rs) P = q at *
    obtain ⟨es2, bk2⟩ := q
    simp only at i1 i2 i3 ⊢
    subst i1
    have hb : b ∈ bk := hP b (by simp)
    have bn := hb
    replace bn := R.c b bn
    obtain ⟨e, r, c1, c2, c3, c4, c5⟩ := bn
    have nb : b.name = r.name := by rw [c3, aged_name, findE_name c1]
    have hput : (∀ b' ∈ P, b'.name = b.name → b' = b) := fun b' hb' q => oB b' (hP b' (List.mem_append_left _ hb')) b hb q
    rcases i2 b.name with z | ⟨b', b1, b2, z⟩
    · rw [nb, made_find h1 r (hX r c2), ← nb] at z
      have hle : rowLe b r = false := by
        cases hl : rowLe b r with
        | false => rfl
        | true =>
          rw [c3] at hl
          exact absurd (rowLe_antisymm c4 (rowLe_trans (rowLe_same (aged_same now e).symm) hl)) c5
      rw [step_take z hle]
      refine ⟨rfl, fun n => ?_, fun c hc => ?_⟩
      · rw [find_put]
        by_cases q : b.name = n
        · rw [if_pos q]; exact .inr ⟨b, by simp, q, rfl⟩
        · rw [if_neg q]
          rcases i2 n with z | ⟨c, d1, d2⟩
          · exact .inl z
          · exact .inr ⟨c, List.mem_append_left _ d1, d2⟩
      · rw [find_put]
        by_cases q : b.name = c.name
        · rw [if_pos q]
          have : c = b := oB c (hP c hc) b hb q.symm
          rw [this]
        · rw [if_neg q]
          rcases List.mem_append.mp hc with hc | hc
          · exact i3 c hc
          · exact absurd (by rw [List.mem_singleton.mp hc]) q
    · have := hput b' b1 b2
      subst this
      rw [step_same z (SamePl.refl _)]
      refine ⟨rfl, fun n => ?_, fun c hc => ?_⟩
      · rcases i2 n with z | ⟨c, d1, d2⟩
        · exact .inl z
        · exact .inr ⟨c, List.mem_append_left _ d1, d2⟩
      · rcases List.mem_append.mp hc with hc | hc
        · exact i3 c hc
        · rw [List.mem_singleton.mp hc]; exact z
  obtain ⟨i1, i2, i3⟩ := inv bk fun b hb => hb
  refine ⟨i1, fun x hx => ?_⟩
  obtain ⟨e, d1, d2⟩ := R.d x hx
  rcases d2 with d2 | ⟨d2, d3⟩
  · rcases i2 x.name with z | ⟨b, b1, b2, z⟩
    · rw [made_find h1 x (hX x hx)] at z
      exact ⟨e, _, d1, z, d2⟩
    · exfalso
      obtain ⟨e0, r, c1, c2, c3, c4, c5⟩ := R.c b b1
      have hr : r = x := h1 r (hX r c2) x (hX x hx) (by rw [← b2, c3, aged_name, findE_name c1])
      subst hr
      rcases R.a r.name with q | ⟨r', q1, q2, q3, q4⟩
      · rw [d1, c1] at q
        obtain rfl := Option.some.inj q
        exact c5 d2
      · have hr' : r' = r := h1 r' (hX r' q1) r (hX r hx) q2
        subst hr'
        rw [q4 e0 c1] at c4; cases c4
  · have h3 := i3 _ d3
    rw [aged_name, findE_name d1] at h3
    exact ⟨e, _, d1, h3, aged_same now e⟩
structure Mx (es : List Ent) (P : List Row) (es' : List Ent) : Prop where
  a : ∀ n e, findE es n = some e → ∃ e', findE es' n = some e' ∧ rowLe e.row e'.row = true
  b : ∀ x ∈ P, ∃ e', findE es' x.name = some e' ∧ rowLe x e'.row = true
  c : ∀ n e', findE es' n = some e' → (∃ e, findE es n = some e ∧ SamePl e'.row e.row) ∨ ∃ r ∈ P, r.name = n ∧ SamePl e'.row r
theorem mx {now : Int} {es : List Ent} (P : List Row) : Mx es P (runE now es P).1 := by
  refine snoc_ind (P := fun P => Mx es P (runE now es P).1) ⟨fun n e h => ⟨e, h, rowLe_same (SamePl.refl _)⟩, fun x hx => (nomatch hx), fun n e h => .inl ⟨e, h, SamePl.refl _⟩⟩ (fun P x I => ?_) P
  rw [run_snoc]
  generalize hq : runE now es P = q at *
  obtain ⟨es', bk⟩ := q
  simp only at I ⊢
  have put : (∀ e, findE es' x.name = some e → rowLe x e.row = false) → Mx es (P ++ [x]) (putE es' ⟨x, now⟩) := fun hx => by
    have up : ∀ n e, findE es' n = some e → ∃ e', findE (putE es' ⟨x, now⟩) n = some e' ∧ rowLe e.row e'.row = true := fun n e h => by
      rw [find_put]
      by_cases q : x.name = n
      · subst q; rw [if_pos rfl]; exact ⟨_, rfl, rowLe_total (hx e h)⟩
      · rw [if_neg q]; exact ⟨e, h, rowLe_same (SamePl.refl _)⟩
    refine ⟨fun n e h => ?_, fun y hy => ?_, fun n e h => ?_⟩
    · obtain ⟨e1, h1, h2⟩ := I.a n e h
      obtain ⟨e2, h3, h4⟩ := up n e1 h1
      exact ⟨e2, h3, rowLe_trans h2 h4⟩
    · rcases List.mem_append.mp hy with hy | hy
      · obtain ⟨e1, h1, h2⟩ := I.b y hy
        obtain ⟨e2, h3, h4⟩ := up _ e1 h1
        exact ⟨e2, h3, rowLe_trans h2 h4⟩
      · rw [List.mem_singleton.mp hy, find_put, if_pos rfl]
        exact ⟨_, rfl, rowLe_same (SamePl.refl _)⟩
    · rw [find_put] at h
      by_cases q : x.name = n
      · rw [if_pos q] at h
        obtain rfl := Option.some.inj h
        exact .inr ⟨x, by simp, q, SamePl.refl _⟩
      · rw [if_neg q] at h
        rcases I.c n e h with z | ⟨r, r1, r2⟩
        · exact .inl z
        · exact .inr ⟨r, List.mem_append_left _ r1, r2⟩
  have keep : (∃ e', findE es' x.name = some e' ∧ rowLe x e'.row = true) → Mx es (P ++ [x]) es' := fun hx => by
    refine ⟨I.a, fun y hy => ?_, fun n e h => ?_⟩
    · rcases List.mem_append.mp hy with hy | hy
      · exact I.b y hy
      · rw [List.mem_singleton.mp hy]; exact hx
    · rcases I.c n e h with z | ⟨r, r1, r2⟩
      · exact .inl z
      · exact .inr ⟨r, List.mem_append_left _ r1, r2⟩
  cases he : findE es' x.name with
  | none => rw [step_none he]; exact put fun e h => by rw [he] at h; cases h
  | some e =>
    by_cases hle : rowLe x e.row = true
    · by_cases hs : SamePl x e.row
      · rw [step_same he hs]; exact keep ⟨e, he, hle⟩
      · rw [step_back he hle hs]; exact keep ⟨e, he, hle⟩
    · have hle : rowLe x e.row = false := by simpa using hle
      rw [step_take he hle]
      exact put fun e' h => by rw [he] at h; obtain rfl := Option.some.inj h; exact hle
theorem mx_le {now : Int} {es : List Ent} (P1 P2 : List Row) {n : Int} {e : Ent} (h : findE (runE now (runE now es P1).1 P2).1 n = some e) :
    ∃ e', findE (runE now (runE now es P2).1 P1).1 n = some e' ∧ rowLe e.row e'.row = true := by
  have A1 := mx (now := now) (es := es) P1
  have A2 := mx (now := now) (es := (runE now es P1).1) P2
  have B1 := mx (now := now) (es := es) P2
  have B2 := mx (now := now) (es := (runE now es P2).1) P1
  have up : ∀ e0, findE (runE now es P2).1 n = some e0 → rowLe e.row e0.row = true → ∃ e', findE (runE now (runE now es P2).1 P1).1 n = some e' ∧ rowLe e.row e'.row = true := fun e0 h0 h1 => by
    obtain ⟨e', z1, z2⟩ := B2.a n e0 h0
    exact ⟨e', z1, rowLe_trans h1 z2⟩
  rcases A2.c n e h with ⟨e1, h1, h2⟩ | ⟨r, r1, r2, r3⟩
  · rcases A1.c n e1 h1 with ⟨e2, h3, h4⟩ | ⟨r, r1, r2, r3⟩
    · obtain ⟨e3, z1, z2⟩ := B1.a n e2 h3
      exact up e3 z1 (rowLe_trans (rowLe_same (h2.trans h4)) z2)
    · obtain ⟨e', z1, z2⟩ := B2.b r r1
      subst r2
      exact ⟨e', z1, rowLe_trans (rowLe_same (h2.trans r3)) z2⟩
  · obtain ⟨e3, z1, z2⟩ := B1.b r r1
    subst r2
    exact up e3 z1 (rowLe_trans (rowLe_same r3) z2)
theorem mx_same {now : Int} {es : List Ent} (P1 P2 : List Row) {n : Int} {e : Ent} (h : findE (runE now (runE now es P1).1 P2).1 n = some e) :
    ∃ e', findE (runE now (runE now es P2).1 P1).1 n = some e' ∧ SamePl e.row e'.row := by
  obtain ⟨e', h1, h2⟩ := mx_le P1 P2 h
  obtain ⟨e2, h3, h4⟩ := mx_le P2 P1 h1
  rw [h] at h3
  obtain rfl := Option.some.inj h3
  exact ⟨e', h1, rowLe_antisymm h2 h4⟩

structure InvE (now : Int) (es : List Ent) : Prop where
  ok : Ok now es
  nd : (names es).Nodup
  nm : ∀ e ∈ es, 1 ≤ e.row.name ∧ e.row.name ≤ 3
def FitN (now : Int) (r : Row) : Prop := Fit now r ∧ 1 ≤ r.name ∧ r.name ≤ 3
theorem Fit.later {now now' : Int} {r : Row} (hn : now ≤ now') (h : Fit now r) : Fit now' r := by
  obtain ⟨h, k⟩ := h
  refine ⟨h.imp id ?_, k⟩
  rintro ⟨a, b, c⟩
  exact ⟨a, b, by omega⟩
theorem fit_aged {now now' : Int} {e : Ent} (hn : now ≤ now') (h' : now' ≤ 800) (h : Fit now (agedE now e)) : Fit now' (agedE now' e) := by
  obtain ⟨⟨g, n, u, v, f⟩, si⟩ := e
  simp only [Fit, agedE] at *
  obtain ⟨h, k⟩ := h
  refine ⟨?_, k⟩
  rcases h with ⟨a, b⟩ | ⟨a, b, c⟩
  · exact .inl ⟨a, by omega⟩
  · exact .inr ⟨a, by omega, by omega⟩
theorem InvE.later {now now' : Int} {es : List Ent} (hn : now ≤ now') (h' : now' ≤ 800) (h : InvE now es) : InvE now' es := ⟨fun e he => fit_aged hn h' (h.ok e he), h.nd, h.nm⟩
theorem InvE.nil {now : Int} : InvE now [] := ⟨fun _ h => (nomatch h), List.nodup_nil, fun _ h => (nomatch h)⟩
theorem nodup_sub {α : Type} [DecidableEq α] : ∀ (l m : List α), l.Nodup → (∀ x ∈ l, x ∈ m) → l.length ≤ m.length
  | [], _, _, _ => Nat.zero_le _
  | a :: r, m, h, k => by
    rw [List.nodup_cons] at h
    have ha : a ∈ m := k a (.head _)
    have := nodup_sub r (m.erase a) h.2 fun x hx => by
      have q : x ≠ a := fun q => by subst q; exact h.1 hx
      exact (List.mem_erase_of_ne q).mpr (k x (.tail _ hx))
    rw [List.length_erase_of_mem ha] at this
    have := List.length_pos_of_mem ha
    simp only [List.length_cons]; omega
theorem nodup3 {l : List Int} (h : l.Nodup) (k : ∀ x ∈ l, 1 ≤ x ∧ x ≤ 3) : l.length ≤ 3 := by
  refine nodup_sub l [1, 2, 3] h fun x hx => ?_
  have := k x hx
  have : x = 1 ∨ x = 2 ∨ x = 3 := by omega
  simp; exact this
theorem InvE.len {now : Int} {es : List Ent} (h : InvE now es) : es.length ≤ 3 := by
  have := nodup3 h.nd fun x hx => by
    obtain ⟨e, he, rfl⟩ := List.mem_map.mp hx
    exact h.nm e he
  simpa [names] using this
theorem InvE.put {now : Int} {es : List Ent} {r : Row} (hn : now ≤ 800) (h : InvE now es) (hr : FitN now r) : InvE now (putE es ⟨r, now⟩) := by
  refine ⟨ok_put hn h.ok hr.1, nodup_put h.nd, fun e he => ?_⟩
  rcases putE_mem he with rfl | he
  · exact hr.2
  · exact h.nm e he
theorem InvE.step {now : Int} {es : List Ent} {r : Row} (hn : now ≤ 800) (h : InvE now es) (hr : FitN now r) : InvE now (stepE now es r).1 := by
  unfold stepE
  split
  · exact h.put hn hr
  · split
    · split <;> exact h
    · exact h.put hn hr
theorem InvE.run {now : Int} {es : List Ent} (hn : now ≤ 800) (h : InvE now es) (rs : List Row) : (∀ r ∈ rs, FitN now r) → InvE now (runE now es rs).1 := by
  refine snoc_ind (P := fun rs => (∀ r ∈ rs, FitN now r) → InvE now (runE now es rs).1) (fun _ => h) (fun l a ih hf => ?_) rs
  rw [run_snoc]
  exact (ih fun r hr => hf r (List.mem_append_left _ hr)).step hn (hf a (by simp))
theorem InvE.made {now : Int} (hn : now ≤ 800) (rs : List Row) : (∀ r ∈ rs, FitN now r) → InvE now (madeEs now rs) := by
  refine snoc_ind (P := fun rs => (∀ r ∈ rs, FitN now r) → InvE now (madeEs now rs)) (fun _ => InvE.nil) (fun l a ih hf => ?_) rs
  rw [made_snoc]
  exact (ih fun r hr => hf r (List.mem_append_left _ hr)).put hn (hf a (by simp))
theorem back_fit {now : Int} {es : List Ent} (hn : now ≤ 800) (h : InvE now es) (rs : List Row) : (∀ r ∈ rs, FitN now r) → ∀ b ∈ (runE now es rs).2, FitN now b := by
  refine snoc_ind (P := fun rs => (∀ r ∈ rs, FitN now r) → ∀ b ∈ (runE now es rs).2, FitN now b) (fun _ b hb => (nomatch hb)) (fun l a ih hf b hb => ?_) rs
  rw [run_snoc] at hb
  have hfl : ∀ r ∈ l, FitN now r := fun r hr => hf r (List.mem_append_left _ hr)
  rcases List.mem_append.mp hb with hb | hb
  · exact ih hfl b hb
  · have I := InvE.run hn h l hfl
    generalize (runE now es l).1 = es' at *
    simp only [stepE] at hb
    split at hb
    · cases hb
    · rename_i e he
      split at hb
      · split at hb
        · cases hb
        · rw [List.mem_singleton.mp hb]
          exact ⟨I.ok e (findE_mem he), I.nm e (findE_mem he)⟩
      · cases hb
theorem back_len {now : Int} {es : List Ent} (rs : List Row) : (runE now es rs).2.length ≤ rs.length := by
  refine snoc_ind (P := fun rs => (runE now es rs).2.length ≤ rs.length) (Nat.le_refl _) (fun l a ih => ?_) rs
  rw [run_snoc]
  have : (stepE now (runE now es l).1 a).2.length ≤ 1 := by
    unfold stepE
    split
    · simp
    · split
      · split <;> simp
      · simp
  simp only [List.length_append, List.length_singleton]; omega
theorem sorted_one {l l' : List Int} (h : l.Pairwise (· ≤ ·)) (h' : l'.Pairwise (· ≤ ·)) (p : l.Perm l') : l = l' := p.eq_of_pairwise (fun _ _ _ _ => Int.le_antisymm) h h'
theorem mem_names {es : List Ent} {n : Int} : n ∈ names es ↔ ∃ e, findE es n = some e := by
  constructor
  · exact findE_in
  · rintro ⟨e, h⟩
    exact List.mem_map.mpr ⟨e, findE_mem h, findE_name h⟩
theorem All2.memL {α β : Type} {R : α → β → Prop} {as : List α} {bs : List β} (x : All2 R as bs) : ∀ a ∈ as, ∃ b ∈ bs, R a b := by
  induction x with
  | nil => intro a h; cases h
  | cons r _ ih =>
    intro a h
    rcases List.mem_cons.mp h with rfl | h
    · exact ⟨_, .head _, r⟩
    · obtain ⟨b, h1, h2⟩ := ih a h
      exact ⟨b, .tail _ h1, h2⟩
structure Pic (now : Int) (rs : List Row) : Prop where
  one : One rs
  fit : ∀ r ∈ rs, FitN now r
  len : rs.length ≤ 3
theorem Pic.later {now now' : Int} {rs : List Row} (hn : now ≤ now') (h : Pic now rs) : Pic now' rs := ⟨h.one, fun r hr => ⟨(h.fit r hr).1.later hn, (h.fit r hr).2⟩, h.len⟩
theorem All2.len {α β : Type} {R : α → β → Prop} {as : List α} {bs : List β} (x : All2 R as bs) : as.length = bs.length := by
  induction x with
  | nil => rfl
  | cons _ _ ih => simp [ih]
theorem pic_of {now : Int} {es : List Ent} {rs : List Row} (h : InvE now es) (a : AllRows es now rs) : Pic now rs := by
  obtain ⟨ns, p, _, x⟩ := a
  refine ⟨fun r hr r' hr' q => ?_, fun r hr => ?_, ?_⟩
  · obtain ⟨n, _, e, h1, h2⟩ := x.memL r hr
    obtain ⟨n', _, e', h3, h4⟩ := x.memL r' hr'
    have : n = n' := by rw [← findE_name h1, ← findE_name h3, ← aged_name now e, ← aged_name now e', ← h2, ← h4, q]
    subst this
    rw [h1] at h3
    obtain rfl := Option.some.inj h3
    rw [h2, h4]
  · obtain ⟨n, _, e, h1, h2⟩ := x.memL r hr
    rw [h2]
    exact ⟨h.ok e (findE_mem h1), h.nm e (findE_mem h1)⟩
  · rw [x.len, p.length_eq]
    have := h.len
    simpa [names] using this
theorem same_all {now : Int} {es es' : List Ent} {rs rs' : List Row} (h : (names es).Nodup) (h' : (names es').Nodup)
    (u : ∀ n e, findE es n = some e → ∃ e', findE es' n = some e' ∧ SamePl e.row e'.row) (u' : ∀ n e, findE es' n = some e → ∃ e', findE es n = some e')
    (a : AllRows es now rs) (a' : AllRows es' now rs') : All2 SamePl rs rs' := by
  obtain ⟨ns, p, o, x⟩ := a
  obtain ⟨ns', p', o', x'⟩ := a'
  have hn : ns = ns' := by
    refine sorted_one o o' ?_
    refine (List.perm_ext_iff_of_nodup (p.nodup_iff.mpr h) (p'.nodup_iff.mpr h')).mpr fun n => ?_
    rw [p.mem_iff, p'.mem_iff, mem_names, mem_names]
    exact ⟨fun ⟨e, q⟩ => (u n e q).imp fun _ z => z.1, fun ⟨e, q⟩ => u' n e q⟩
  subst hn
  clear p p' o o'
  induction x generalizing rs' with
  | nil => cases x'; exact .nil
  | cons r _ ih =>
    cases x' with
    | cons r' x' =>
      refine .cons ?_ (ih x')
      obtain ⟨e, h1, rfl⟩ := r
      obtain ⟨e', h2, rfl⟩ := r'
      obtain ⟨e2, h3, h4⟩ := u _ e h1
      rw [h2] at h3
      obtain rfl := Option.some.inj h3
      exact h4

section
variable {prog : Program} {w : World} {A : Around} {s : Shared} {h₀ : Heap} {L : Addr} {led : Led} {E : Value → Shared → Prop} {m : Str → Option Value}
theorem LstX.is {h : Heap} {l : Addr} {o : Obj} {vs : List Value} (N : News h₀ L h led) (hm : (l, o) ∈ led) (x : LstX o vs) : h.IsList l vs.toArray := x.lst.is N hm
theorem pick_upto (vs : List Value) {y : Int} (h : 0 ≤ y) : slicePick vs.toArray none (some y) none = (vs.take y.toNat).toArray := by
  have e : sliceBounds none (some y) none vs.toArray.size = (((0 : Nat) : Int), ((min y.toNat vs.toArray.size : Nat) : Int), 1) := by
    simp only [sliceBounds, Option.getD_none, show (1 : Int) > 0 by decide, if_true, if_neg (show ¬ (y < 0) by omega)]
    congr 1
    congr 1
    omega
  rw [kmk_pick_nat _ e]
  rw [List.drop_zero, Nat.sub_zero, List.size_toArray, kmk_take_min]
theorem lst_upto {value slice : Expr} {l : Addr} {o : Obj} {vs : List Value} {y : Int} {u : Tok} {Q : Value → Shared → Prop} {hp : Heap} {gs : Array GenState} {dr : Drawn} {tk : Nat} {os : OsState}
    (F : Fr h₀ L hp m) (N : News h₀ L hp led) (hm : (l, o) ∈ led) (ho : LstX o vs) (hy : 0 ≤ y) (hz : vs.length ≤ 1000)
    (h : ∀ D o' h', Fr h₀ L h' m → News h₀ L h' ((D, o') :: led) → (∀ p ∈ led, p.1 < D) → LstX o' (vs.take y.toNat) → Q (.ref D) ⟨h', gs, dr, tk, os⟩)
    (hs : subscripted slice false (.ref l) (.ref hp.objs.size) = operate [.ref hp.objs.size, .ref l] (getItem (.ref l) (.ref hp.objs.size)))
    (ht : ∀ r, letTemporaryGo value (.ref l) r = pure ()) :
    wpAny (model prog w) A (subscriptTail value slice (.ref l) (.ref hp.objs.size)) Q E ⟨hp.push { cls := .type "slice", data := .fields #[.none, .int y u, .none] }, gs, dr, tk, os⟩ :=
  kmk_slice (s := ⟨hp, gs, dr, tk, os⟩) F N (ho.is N hm) .none (.int y u) (fun D h' F' N' l1 => h D _ h' F' N' l1 ⟨0, by rw [pick_upto vs hy]⟩) hs ht (by rw [List.size_toArray, sizeLine_eq]; omega)
theorem lst_rev {value slice : Expr} {l : Addr} {o : Obj} {vs : List Value} {vk : Value} {ops : List Value} {Q : Value → Shared → Prop} {hp : Heap} {gs : Array GenState} {dr : Drawn} {tk : Nat} {os : OsState}
    (F : Fr h₀ L hp m) (N : News h₀ L hp led) (hm : (l, o) ∈ led) (ho : LstX o vs) (pk : IsPart vk (some (-1))) (hz : vs.length ≤ 1000)
    (h : ∀ D o' h', Fr h₀ L h' m → News h₀ L h' ((D, o') :: led) → (∀ p ∈ led, p.1 < D) → LstX o' vs.reverse → Q (.ref D) ⟨h', gs, dr, tk, os⟩)
    (hs : subscripted slice false (.ref l) (.ref hp.objs.size) = operate ops (getItem (.ref l) (.ref hp.objs.size)))
    (ht : ∀ r, letTemporaryGo value (.ref l) r = pure ()) :
    wpAny (model prog w) A (subscriptTail value slice (.ref l) (.ref hp.objs.size)) Q E ⟨hp.push { cls := .type "slice", data := .fields #[.none, .none, vk] }, gs, dr, tk, os⟩ :=
  krv_lit (s := ⟨hp, gs, dr, tk, os⟩) (its := vs.toArray) (zs := vs.reverse) F N (ho.is N hm) pk rfl (fun D h' F' N' l1 => h D _ h' F' N' l1 ⟨0, rfl⟩) hs ht (by rw [List.size_toArray, sizeLine_eq]; omega)
theorem lst_add {a b : Addr} {o o2 : Obj} {vs ws : List Value} {Q : Value → Shared → Prop} (F : Fr h₀ L s.heap m) (N : News h₀ L s.heap led) (ha : (a, o) ∈ led) (hb : (b, o2) ∈ led) (xa : LstX o vs) (xb : LstX o2 ws) (hz : vs.length ≤ 1000) (hz2 : ws.length ≤ 1000)
    (h : ∀ D o' h', Fr h₀ L h' m → News h₀ L h' ((D, o') :: led) → (∀ p ∈ led, p.1 < D) → LstX o' (vs ++ ws) → Q (.ref D) { s with heap := h' }) :
    wpAny (model prog w) A (binaryOp .Add (.ref a) (.ref b)) Q E s :=
  kmk_add_lit (its := vs.toArray) (its2 := ws.toArray) F N (xa.is N ha) (xb.is N hb) rfl (fun D h' F' N' l1 => h D _ h' F' N' l1 ⟨0, rfl⟩) (by rw [sizeLine_eq]; simp only [List.toList_toArray]; omega)
theorem pow2 {n : Int} {t u : Tok} {Q : Value → Shared → Prop} (hn : 0 ≤ n) (hn2 : n ≤ 3) (h : ∀ v t tk, 1 ≤ v → v ≤ 8 → (1 ≤ n → 2 ≤ v) → Q (.int v t) { s with toks := tk }) : wpAny (model prog w) A (binaryOp .Pow (.int 2 t) (.int n u)) Q E s := by
  refine pow_int_small hn (by omega) (by decide) ?_
  have : n = 0 ∨ n = 1 ∨ n = 2 ∨ n = 3 := by omega
  rcases this with rfl | rfl | rfl | rfl
  · exact h 1 _ _ (by decide) (by decide) (by decide)
  · exact h 2 _ _ (by decide) (by decide) (by decide)
  · exact h 4 _ _ (by decide) (by decide) (by decide)
  · exact h 8 _ _ (by decide) (by decide) (by decide)
theorem DatAt.lstX {led : Led} {a : Addr} {o : Obj} {vs : List Value} {ds : List PyData} (m : (a, o) ∈ led) (ho : LstX o vs) (x : All2 (DatAt led) vs ds) : DatAt led (.ref a) (.list ds) := by
  obtain ⟨n, rfl⟩ := ho
  exact DatAt.lst m (by simpa using x)
theorem nameO {o : Obj} {bl : Addr} {k : Int} {t : Tok} {P : Prop} (_ : LstO o [.ref bl, .int k t]) (f : ∀ o' t', o' = o → t' = t → P) : P := f o t rfl rfl
theorem all_mono {led led' : Led} {vs : List Value} {rs : List Row} (s : Sub led led') (h : All2 (RowV led) vs rs) : All2 (RowV led') vs rs := h.mono fun _ _ x => x.mono s
theorem rows_can (rs : List Row) : (PyData.list (rs.map rowD)).canLay0 = true := by
  simp only [PyData.canLay0]
  induction rs with
  | nil => rfl
  | cons r rs ih => simp only [List.map_cons, PyData.canLayAll0, ih, row_can, Bool.and_self]
theorem rows_depth (rs : List Row) : (PyData.list (rs.map rowD)).depth ≤ 8 := by
  have : ∀ rs : List Row, PyData.depthAll (rs.map rowD) ≤ 3 := by
    intro rs
    induction rs with
    | nil => simp [PyData.depthAll]
    | cons r rs ih => simp only [List.map_cons, PyData.depthAll]; have : (rowD r).depth ≤ 3 := by simp [PyData.depth, PyData.depthAll]
                      omega
  simp only [PyData.depth]; have := this rs; omega
theorem bodies_can (rs : List Row) : (PyData.list (rs.map fun r => bodyD r.num r.tot r.fin)).canLay0 = true := by
  simp only [PyData.canLay0]
  induction rs with
  | nil => rfl
  | cons r rs ih => simp only [List.map_cons, PyData.canLayAll0, ih, body_can, Bool.and_self]
theorem bodies_depth (rs : List Row) : (PyData.list (rs.map fun r => bodyD r.num r.tot r.fin)).depth ≤ 8 := by
  have : ∀ rs : List Row, PyData.depthAll (rs.map fun r => bodyD r.num r.tot r.fin) ≤ 3 := by
    intro rs
    induction rs with
    | nil => simp [PyData.depthAll]
    | cons r rs ih => simp only [List.map_cons, PyData.depthAll]; have : (bodyD r.num r.tot r.fin).depth ≤ 3 := by simp [PyData.depth, PyData.depthAll]
                      omega
  simp only [PyData.depth]; have := this rs; omega
theorem nil_can : (PyData.list []).canLay0 = true := rfl
theorem nil_depth : (PyData.list []).depth ≤ 8 := by simp [PyData.depth, PyData.depthAll]
theorem nil_eqv : PyData.eqv (PyData.list []) (PyData.list []) = true := PySem.SeqAt.eqv_refl _ nil_can
theorem All2.take {α β : Type} {R : α → β → Prop} {as : List α} {bs : List β} (x : All2 R as bs) : ∀ n : Nat, All2 R (as.take n) (bs.take n) := by
  induction x with
  | nil => intro n; simp; exact .nil
  | cons r _ ih =>
    intro n
    cases n with
    | zero => exact .nil
    | succ n => exact .cons r (ih n)
end

section
variable {prog : Program} {w : World} {A : Around} {s : Shared} {B : Heap} {L : Addr} {m mg mb : Str → Option Value} {led : List (Addr × Obj)} {p : Program} {loose : List Str} {mean : ExcName → Option Value} {Q E : Value → Shared → Prop} {rn : Nat}
theorem look_body {imm : Led} {d rp k : Addr} {o : Obj} {es : List Ent} {n now : Int} {tn : Tok} {e : Ent}
    (hR : Room A (rn + 8)) (F : Fr B L s.heap m) (X : (hd.heap_39 w.params).In B) (N : News B L s.heap led) (T : Top p loose mean mg mb B)
    (h1 : DbAt led d rp) (h2 : (rp, o) ∈ led) (h3 : Rows prog w imm o es) (hs : Sub imm led) (h4 : KeyAt led k n) (h5 : 1 < rp) (h6 : findE es n = some e)
    (hQ : ∀ k hp bp new h' tk', Fr B L h' m → News B L h' (new ++ led) → Above led new → (k, tupO [.ref hp, .ref bp]) ∈ new ++ led → BodyAt (new ++ led) bp e.row.num e.row.tot e.row.fin → Q (.ref k) { s with heap := h', toks := tk' }) :
    wpAny (model prog w) A (call (.ref 100) [.ref d, .ref k, .int now tn]) Q E s := by
  refine look_some hR F X N T h1 h2 h3 hs h4 h5 h6 fun k new h' tk' F' N' ab rw' => ?_
  obtain ⟨hp, bp, r1, r2, r3⟩ := rw'
  have sb : Sub (new ++ imm) (new ++ led) := Sub.both Sub.inl (hs.trans Sub.app)
  exact hQ k hp bp new h' tk' F' N' ab (sb _ r1) (BodyAt.mono sb r3)
end

section
variable {prog : Program} {w : World} {A : Around} {s : Shared} {B : Heap} {L : Addr} {m mg mb : Str → Option Value} {led : List (Addr × Obj)} {p : Program} {loose : List Str} {mean : ExcName → Option Value} {Q E : Value → Shared → Prop} {rn : Nat}

theorem come_right_spec {imm : Led} {l d kp rp bx bl : Addr} {lo ko ro bo blo : Obj} {vs wl : List Value} {rs : List Row} {es : List Ent} {ns : List Int} {now k : Int} {tn kt : Tok}
    (hR : Room A (rn + 20)) (F : Fr B L s.heap m) (X : (hd.heap_39 w.params).In B) (N : News B L s.heap ((bx, bo) :: (kp, ko) :: (rp, ro) :: led)) (T : Top p loose mean mg mb B)
    (hb : (bl, blo) ∈ led) (hblo : LstO blo wl) (hbi : IntsAre wl ns) (hbz : wl.length ≤ 1000) (ho : LstO bo [.ref bl, .int k kt]) (hk : 0 ≤ k) (hk1 : k ≤ 900)
    (hl : (l, lo) ∈ led) (hlo : LstO lo vs) (hr : All2 (RowV imm) vs rs) (hP : Pic now rs) (hne : 1 ≤ rs.length) (o1 : Off bx led) (o2 : Off kp led) (o3 : Off rp led) (n1 : bx ≠ kp) (n2 : bx ≠ rp) (n3 : kp ≠ rp)
    (h1 : DbAt led d rp) (hK : Known prog w imm ko es) (hW : Rows prog w imm ro es) (hs : Sub imm led) (p1 : 1 < kp) (p2 : 1 < rp) (hn : now ≤ 800) (hI : InvE now es)
    (hQ : ∀ bo' k' kt' ko' ro' Xs new h' tk', (∀ x ∈ Xs, x ∈ rs) → Fr B L h' m → News B L h' ((bx, bo') :: (kp, ko') :: (rp, ro') :: (new ++ led)) → Above ((bx, bo) :: (kp, ko) :: (rp, ro) :: led) new → LstO bo' [.ref bl, .int k' kt'] → k ≤ k' → k' ≤ k + 3 →
      Known prog w (new ++ imm) ko' (runE now es Xs).1 → Rows prog w (new ++ imm) ro' (runE now es Xs).1 → Q (.bool true) { s with heap := h', toks := tk' }) :
    wpAny (model prog w) A (call (.ref 218) [.ref bx, .ref d, .ref kp, .ref l, .int now tn]) Q E s := by
  have hlen := hr.length
  have hl3 := hP.len
  refine callFn [("box", .ref bx), ("base", .ref d), ("known", .ref kp), ("picture", .ref l), ("now", .int now tn)] F X N T (by k_is) (by k_is) (by (first | assumption | exact Room.h (by assumption) | exact Room.u_lt (by assumption) | exact Room.less (by assumption) (by decide))) (by first | exact BindsTo.of_eq rfl | exact binds_K (by k_in) rfl (by k_is) rfl rfl rfl) (locs rfl) ?_ rfl rfl rfl (by decide)
  intro g' L' h' F' N' X' T' hz' hR'
  clear F N X T hR
  k_fold
  refine execs_cut 3 (fun s' => Hold (∃ h' tk' m' P po pvs ps bo1 k1 t1, s' = ⟨h', s.gens, s.drawn, tk', s.os⟩ ∧ Fr g' L' h' m' ∧ News g' L' h' ((P, po) :: (bx, bo1) :: (kp, ko) :: (rp, ro) :: led) ∧ (∀ p ∈ (bx, bo) :: (kp, ko) :: (rp, ro) :: led, p.1 < P) ∧
    LstO bo1 [.ref bl, .int k1 t1] ∧ (k ≤ k1 ∧ k1 ≤ k + 2) ∧ LstX po pvs ∧ All2 (RowV imm) pvs ps ∧ (∀ p ∈ ps, p ∈ rs) ∧ pvs.length ≤ 3 ∧
    m' (Str.ofString "box") = some (.ref bx) ∧ m' (Str.ofString "base") = some (.ref d) ∧ m' (Str.ofString "known") = some (.ref kp) ∧ m' (Str.ofString "picture") = some (.ref l) ∧ m' (Str.ofString "now") = some (.int now tn) ∧ m' (Str.ofString "part") = some (.ref P))) ?_ ?_
  · intro zIQ zhI
    simp only [List.take_succ_cons, List.take_zero]
    (repeat' (first | (k_unfold; (try dsimp only)) | ((with_reducible show wpAny _ _ (subscriptTail _ _ (Value.ref _) (Value.ref _)) _ _ _); (first | with_reducible (k_here; (with_reducible show wpAny _ _ (subscriptTail _ (PySem.Expr.Slice none none (some _) _) (Value.ref _) (Value.ref _)) _ _ _); k_dflt (refine' lst_rev (by k_asm) (by k_asm) (by k_mem) (by assumption) (by exact IsPart.int _ _) (by omega) ?_ (by with_unfolding_all rfl) (by intro _; with_unfolding_all rfl); k_whole); intro _ _ _ _ _ _ _; (try k_sweep)) | with_reducible (k_here; (with_reducible show wpAny _ _ (subscriptTail _ (PySem.Expr.Slice none (some _) none _) (Value.ref _) (Value.ref _)) _ _ _); k_dflt (refine' lst_upto (by k_asm) (by k_asm) (by k_mem) (by assumption) (by (first | assumption | omega | exact Int.mul_nonneg (by assumption) (Int.natCast_nonneg _))) (by omega) ?_ (by with_unfolding_all rfl) (by intro _; with_unfolding_all rfl); k_whole); intro _ _ _ _ _ _ _; (try k_sweep)))) | ((with_reducible show wpAny _ _ (binaryOp Operator.Add (Value.ref _) (Value.ref _)) _ _ _); with_reducible (k_here; k_dflt (refine' lst_add (by k_asm) (by k_asm) (by k_mem) (by k_mem) (by assumption) (by assumption) (by (first | assumption | omega | (simp only [List.length_reverse, List.length_take]; omega))) (by (first | assumption | omega | (simp only [List.length_reverse, List.length_take]; omega))) ?_; k_whole); intro _ _ _ _ _ _ _; (try k_sweep))) | ((with_reducible show wpAny _ _ (newTuple _) _ _ _); with_reducible (k_here; k_dflt (refine' kup_newTuple (by k_asm) (by k_asm) ?_ (by exact Nat.le_of_ble_eq_true rfl)); intro _ _ _ _ _; (try k_sweep))) | ((with_reducible show wpAny _ _ (assign (Expr.Tuple _ _ _) _ (Value.ref _)) _ _ _); with_reducible (k_here; (with_reducible show wpAny _ _ (assign (Expr.Tuple _ _ _) _ (Value.ref _)) _ _ _); k_dflt (refine' unpackN_ (by k_asm) (by k_asm) (by first | assumption | (refine News.isTup (by k_asm) (by k_mem))) (by (first | assumption | exact Room.h (by assumption) | exact Room.u_lt (by assumption) | exact Room.less (by assumption) (by decide))) (by exact rfl) (by exact rfl) ?_); intro _ _ _; (try k_sweep))) | ((with_reducible show wpAny _ _ (unpackItems (Value.ref _) _ _) _ _ _); with_reducible (k_here; k_dflt (refine' unpackItemsN_ (by k_asm) (by k_asm) (by first | assumption | (refine News.isTup (by k_asm) (by k_mem))) (by (first | assumption | exact Room.h (by assumption) | exact Room.u_lt (by assumption) | exact Room.less (by assumption) (by decide))) (by exact rfl) ?_; k_whole); intro _ _ _; (try k_sweep))) | ((with_reducible show wpAny _ _ (compareOp CmpOp.NotEq (Value.ref _) (Value.ref _)) _ _ _); with_reducible (k_here; k_dflt (refine' ne_dat (by (first | assumption | exact Room.h (by assumption) | exact Room.u_lt (by assumption) | exact Room.less (by assumption) (by decide))) (by k_asm) (by (first | (refine' BodyAt.dat (by walk_at "M rel")) | exact DatAt.lstX (by k_mem) (by assumption) .nil | exact DatAt.lst (by k_mem) .nil)) (by (first | (refine' BodyAt.dat (by walk_at "M rel")) | exact DatAt.lstX (by k_mem) (by assumption) .nil | exact DatAt.lst (by k_mem) .nil)) (by (first | exact body_can | exact body_depth | exact nil_can | exact nil_depth)) (by (first | exact body_can | exact body_depth | exact nil_can | exact nil_depth)) (by (first | exact body_can | exact body_depth | exact nil_can | exact nil_depth)) (by (first | exact body_eqv.trans (decide_eq_true (by assumption)) | exact nil_eqv)) ?_; k_whole))) | ((with_reducible show wpAny _ _ (call (Value.builtin "len") _) _ _ _); (first | with_reducible (k_here; (with_reducible show wpAny _ _ (call (Value.builtin "len") [Value.ref _]) _ _ _); k_dflt (refine' lst_len (by k_asm) (by k_mem) (by exact LstX.lst (by assumption)) (by omega) ?_; k_whole); intro _ _) | with_reducible (k_here; (with_reducible show wpAny _ _ (call (Value.builtin "len") [Value.ref _]) _ _ _); k_dflt (refine' lst_len (by k_asm) (by k_mem) (by assumption) (by omega) ?_; k_whole); intro _ _))) | ((with_reducible show wpAny _ _ (eval (Expr.Name _ _) _) _ _ _); with_reducible (k_here; k_dflt (apply nameX_L; (case F => k_asm); (case hk => rfl); (case hx => rfl); (case hv => walk_at "M look"); (case hd => decide); k_whole))) | ((with_reducible show wpAny _ _ (getMethod (Value.ref _) _ _) _ _ _); with_reducible (k_here; (with_reducible show wpAny _ _ (getMethod (Value.ref _) (PySem.Str.ofString "append") _) _ _ _); k_dflt (refine' lst_method (by k_asm) (by k_mem) (by assumption) PySem.F.slot_list_append PySem.F.type_list_append ?_))) | ((with_reducible show wpAny _ _ (call (Value.builtin "list.append") _) _ _ _); with_reducible (k_here; k_dflt (apply lst_append; (case F => k_asm); (case N => k_asm); (case U => walk_at "M up"); (case ho => assumption); (case hz => omega); k_whole); intro _ _ _; intro zN; (try dsimp only at zN); revert zN; intro _; intro _; (try k_sweep))) | ((with_reducible show wpAny _ _ (exec (Stmt.For _ _ _ _ _) _) _ _ _); with_reducible (k_here; k_dflt (refine' for_go (by k_asm) ?_); k_whole)) | ((with_reducible show wpAny _ _ (exec (Stmt.For _ _ _ _ _) _) _ _ _); with_reducible (k_here; k_dflt (refine' for_go (by k_asm) ?_); k_whole)) | ((with_reducible show wpAny _ _ (call (Value.ref _) _) _ _ _); (first | with_reducible (k_here; k_dflt (refine' made_spec (by (first | assumption | exact Room.h (by assumption) | exact Room.u_lt (by assumption) | exact Room.less (by assumption) (by decide))) (by k_asm) (by k_asm) (by k_asm) (by k_asm) (by k_mem) (by assumption) (by (first | assumption | (refine' all_mono ?_ (by assumption); (walk_at "M sub")))) (by assumption) ?_; k_whole); intro _ _ _ _ _ _ _ _ _ _ _ _ _ _ _ _ _ _ _ _; (try k_sweep)) | with_reducible (k_here; k_dflt (refine' look_body (by (first | assumption | exact Room.h (by assumption) | exact Room.u_lt (by assumption) | exact Room.less (by assumption) (by decide))) (by k_asm) (by k_asm) (by k_asm) (by k_asm) (by walk_at "M rel") (by k_mem) (by assumption) (by walk_at "M sub") (by walk_at "M rel") (by assumption) (by assumption) ?_; k_whole); intro _ _ _ _ _ _ _ _ _ _ _; (try k_sweep)) | with_reducible (k_here; k_dflt (apply draw_spec; (case hR => (first | assumption | exact Room.h (by assumption) | exact Room.u_lt (by assumption) | exact Room.less (by assumption) (by decide))); (case F => k_asm); (case X => k_asm); (case N => k_asm); (case T => k_asm); (case U => walk_at "M up"); (case ho => assumption); (case hz => first | assumption | omega); (case hk => first | assumption | omega); (case hk1 => first | assumption | omega); (case hm0 => first | decide | omega); (case hm1 => first | decide | omega); (case hU => intro o9; k_mem); (case hlo => assumption); (case hi => assumption); k_whole); intro _ _ _ _ _ _ _ _ _; intro zN; (try dsimp only at zN); revert zN; intro _; intro _; (try k_sweep)))) | ((with_reducible show wpAny _ _ (binaryOp Operator.Pow _ _) _ _ _); with_reducible (k_here; k_dflt (refine' pow2 (by omega) (by omega) ?_; k_whole); intro _ _ _ _ _ _)) | walk1 | (dsimp only; walk1) | (dsimp only; k_unfold; try dsimp only)))
    rename_i v0 t0 t1 bo1 _ tk1 w0 w1 lb1 P _ lP D _ _ _ _ _ FF NN0
    have lPa : ∀ p ∈ (bx, bo) :: (kp, ko) :: (rp, ro) :: led, p.1 < P := fun p hp => by
      rcases List.mem_cons.mp hp with rfl | hp
      · exact lP.1
      rcases List.mem_cons.mp hp with rfl | hp
      · exact lP.2.1
      rcases List.mem_cons.mp hp with rfl | hp
      · exact lP.2.2.1
      · exact allLt_at lP.2.2.2 p hp
    have oP : Off P led := fun p hp => Nat.ne_of_lt (allLt_at lP.2.2.2 p hp)
    have nPx : P ≠ bx := Nat.ne_of_gt lP.1
    have nPk : P ≠ kp := Nat.ne_of_gt lP.2.1
    have nPr : P ≠ rp := Nat.ne_of_gt lP.2.2.1
    have NN := News.sub NN0 (Sub.refl _ : Sub ((P, listOf #[] 0) :: (bx, bo1) :: (kp, ko) :: (rp, ro) :: led) _).cons
    clear NN0
    refine call_stop (for_enum (fun i m nn => ∃ po pvs ps, nn = (P, po) :: (bx, bo1) :: (kp, ko) :: (rp, ro) :: led ∧ LstX po pvs ∧ All2 (RowV imm) pvs ps ∧ (∀ p ∈ ps, p ∈ rs) ∧ pvs.length ≤ i ∧
      m (Str.ofString "box") = some (.ref bx) ∧ m (Str.ofString "base") = some (.ref d) ∧ m (Str.ofString "known") = some (.ref kp) ∧ m (Str.ofString "picture") = some (.ref l) ∧ m (Str.ofString "now") = some (.int now tn) ∧ m (Str.ofString "part") = some (.ref P) ∧ m (Str.ofString "bits") = some (.int (1 + v0) tk1)) hR'.h FF NN
      (List.Mem.tail _ (List.Mem.tail _ (List.Mem.tail _ (List.Mem.tail _ hl)))) hlo ?_ ⟨_, [], [], rfl, ⟨0, rfl⟩, .nil, fun _ h => (nomatch h), by simp, rfl, rfl, rfl, rfl, rfl, rfl, rfl⟩ ?_ ?_)
    · rintro i m nn ⟨po, pvs, ps, rfl, _⟩
      exact List.Mem.tail _ (List.Mem.tail _ (List.Mem.tail _ (List.Mem.tail _ hl)))
    · rintro i v T t m1 nn h3 tk3 its hv hT ⟨po, pvs, ps, rfl, lpo, a2, hin, pl, q1, q2, q3, q4, q5, q6, q7⟩ F3 N3 ap zTQ zhT
      clear FF NN
      obtain ⟨r, hri, la, rfl, hrow⟩ := hr.get' hv
      have hi3 : i < rs.length := (List.getElem?_eq_some_iff.mp hri).1
      (repeat' (first | (k_unfold; (try dsimp only)) | ((with_reducible show wpAny _ _ (subscriptTail _ _ (Value.ref _) (Value.ref _)) _ _ _); (first | with_reducible (k_here; (with_reducible show wpAny _ _ (subscriptTail _ (PySem.Expr.Slice none none (some _) _) (Value.ref _) (Value.ref _)) _ _ _); k_dflt (refine' lst_rev (by k_asm) (by k_asm) (by k_mem) (by assumption) (by exact IsPart.int _ _) (by omega) ?_ (by with_unfolding_all rfl) (by intro _; with_unfolding_all rfl); k_whole); intro _ _ _ _ _ _ _; (try k_sweep)) | with_reducible (k_here; (with_reducible show wpAny _ _ (subscriptTail _ (PySem.Expr.Slice none (some _) none _) (Value.ref _) (Value.ref _)) _ _ _); k_dflt (refine' lst_upto (by k_asm) (by k_asm) (by k_mem) (by assumption) (by (first | assumption | omega | exact Int.mul_nonneg (by assumption) (Int.natCast_nonneg _))) (by omega) ?_ (by with_unfolding_all rfl) (by intro _; with_unfolding_all rfl); k_whole); intro _ _ _ _ _ _ _; (try k_sweep)))) | ((with_reducible show wpAny _ _ (binaryOp Operator.Add (Value.ref _) (Value.ref _)) _ _ _); with_reducible (k_here; k_dflt (refine' lst_add (by k_asm) (by k_asm) (by k_mem) (by k_mem) (by assumption) (by assumption) (by (first | assumption | omega | (simp only [List.length_reverse, List.length_take]; omega))) (by (first | assumption | omega | (simp only [List.length_reverse, List.length_take]; omega))) ?_; k_whole); intro _ _ _ _ _ _ _; (try k_sweep))) | ((with_reducible show wpAny _ _ (newTuple _) _ _ _); with_reducible (k_here; k_dflt (refine' kup_newTuple (by k_asm) (by k_asm) ?_ (by exact Nat.le_of_ble_eq_true rfl)); intro _ _ _ _ _; (try k_sweep))) | ((with_reducible show wpAny _ _ (assign (Expr.Tuple _ _ _) _ (Value.ref _)) _ _ _); with_reducible (k_here; (with_reducible show wpAny _ _ (assign (Expr.Tuple _ _ _) _ (Value.ref _)) _ _ _); k_dflt (refine' unpackN_ (by k_asm) (by k_asm) (by first | assumption | (refine News.isTup (by k_asm) (by k_mem))) (by (first | assumption | exact Room.h (by assumption) | exact Room.u_lt (by assumption) | exact Room.less (by assumption) (by decide))) (by exact rfl) (by exact rfl) ?_); intro _ _ _; (try k_sweep))) | ((with_reducible show wpAny _ _ (unpackItems (Value.ref _) _ _) _ _ _); with_reducible (k_here; k_dflt (refine' unpackItemsN_ (by k_asm) (by k_asm) (by first | assumption | (refine News.isTup (by k_asm) (by k_mem))) (by (first | assumption | exact Room.h (by assumption) | exact Room.u_lt (by assumption) | exact Room.less (by assumption) (by decide))) (by exact rfl) ?_; k_whole); intro _ _ _; (try k_sweep))) | ((with_reducible show wpAny _ _ (compareOp CmpOp.NotEq (Value.ref _) (Value.ref _)) _ _ _); with_reducible (k_here; k_dflt (refine' ne_dat (by (first | assumption | exact Room.h (by assumption) | exact Room.u_lt (by assumption) | exact Room.less (by assumption) (by decide))) (by k_asm) (by (first | (refine' BodyAt.dat (by walk_at "M rel")) | exact DatAt.lstX (by k_mem) (by assumption) .nil | exact DatAt.lst (by k_mem) .nil)) (by (first | (refine' BodyAt.dat (by walk_at "M rel")) | exact DatAt.lstX (by k_mem) (by assumption) .nil | exact DatAt.lst (by k_mem) .nil)) (by (first | exact body_can | exact body_depth | exact nil_can | exact nil_depth)) (by (first | exact body_can | exact body_depth | exact nil_can | exact nil_depth)) (by (first | exact body_can | exact body_depth | exact nil_can | exact nil_depth)) (by (first | exact body_eqv.trans (decide_eq_true (by assumption)) | exact nil_eqv)) ?_; k_whole))) | ((with_reducible show wpAny _ _ (call (Value.builtin "len") _) _ _ _); (first | with_reducible (k_here; (with_reducible show wpAny _ _ (call (Value.builtin "len") [Value.ref _]) _ _ _); k_dflt (refine' lst_len (by k_asm) (by k_mem) (by exact LstX.lst (by assumption)) (by omega) ?_; k_whole); intro _ _) | with_reducible (k_here; (with_reducible show wpAny _ _ (call (Value.builtin "len") [Value.ref _]) _ _ _); k_dflt (refine' lst_len (by k_asm) (by k_mem) (by assumption) (by omega) ?_; k_whole); intro _ _))) | ((with_reducible show wpAny _ _ (eval (Expr.Name _ _) _) _ _ _); with_reducible (k_here; k_dflt (apply nameX_L; (case F => k_asm); (case hk => rfl); (case hx => rfl); (case hv => walk_at "M look"); (case hd => decide); k_whole))) | ((with_reducible show wpAny _ _ (getMethod (Value.ref _) _ _) _ _ _); with_reducible (k_here; (with_reducible show wpAny _ _ (getMethod (Value.ref _) (PySem.Str.ofString "append") _) _ _ _); k_dflt (refine' lst_method (by k_asm) (by k_mem) (by assumption) PySem.F.slot_list_append PySem.F.type_list_append ?_))) | ((with_reducible show wpAny _ _ (call (Value.builtin "list.append") _) _ _ _); with_reducible (k_here; k_dflt (apply lst_append; (case F => k_asm); (case N => k_asm); (case U => walk_at "M up"); (case ho => assumption); (case hz => omega); k_whole); intro _ _ _; intro zN; (try dsimp only at zN); revert zN; intro _; intro _; (try k_sweep))) | ((with_reducible show wpAny _ _ (exec (Stmt.For _ _ _ _ _) _) _ _ _); with_reducible (k_here; k_dflt (refine' for_go (by k_asm) ?_); k_whole)) | ((with_reducible show wpAny _ _ (exec (Stmt.For _ _ _ _ _) _) _ _ _); with_reducible (k_here; k_dflt (refine' for_go (by k_asm) ?_); k_whole)) | ((with_reducible show wpAny _ _ (call (Value.ref _) _) _ _ _); (first | with_reducible (k_here; k_dflt (refine' made_spec (by (first | assumption | exact Room.h (by assumption) | exact Room.u_lt (by assumption) | exact Room.less (by assumption) (by decide))) (by k_asm) (by k_asm) (by k_asm) (by k_asm) (by k_mem) (by assumption) (by (first | assumption | (refine' all_mono ?_ (by assumption); (walk_at "M sub")))) (by assumption) ?_; k_whole); intro _ _ _ _ _ _ _ _ _ _ _ _ _ _ _ _ _ _ _ _; (try k_sweep)) | with_reducible (k_here; k_dflt (refine' look_body (by (first | assumption | exact Room.h (by assumption) | exact Room.u_lt (by assumption) | exact Room.less (by assumption) (by decide))) (by k_asm) (by k_asm) (by k_asm) (by k_asm) (by walk_at "M rel") (by k_mem) (by assumption) (by walk_at "M sub") (by walk_at "M rel") (by assumption) (by assumption) ?_; k_whole); intro _ _ _ _ _ _ _ _ _ _ _; (try k_sweep)) | with_reducible (k_here; k_dflt (apply draw_spec; (case hR => (first | assumption | exact Room.h (by assumption) | exact Room.u_lt (by assumption) | exact Room.less (by assumption) (by decide))); (case F => k_asm); (case X => k_asm); (case N => k_asm); (case T => k_asm); (case U => walk_at "M up"); (case ho => assumption); (case hz => first | assumption | omega); (case hk => first | assumption | omega); (case hk1 => first | assumption | omega); (case hm0 => first | decide | omega); (case hm1 => first | decide | omega); (case hU => intro o9; k_mem); (case hlo => assumption); (case hi => assumption); k_whole); intro _ _ _ _ _ _ _ _ _; intro zN; (try dsimp only at zN); revert zN; intro _; intro _; (try k_sweep)))) | ((with_reducible show wpAny _ _ (binaryOp Operator.Pow _ _) _ _ _); with_reducible (k_here; k_dflt (refine' pow2 (by omega) (by omega) ?_; k_whole); intro _ _ _ _ _ _)) | walk1 | (dsimp only; walk1) | (dsimp only; k_unfold; try dsimp only)))
      all_goals (rename Fr _ _ _ _ => F4)
      all_goals (rename News _ _ _ _ => N4)
      all_goals (first
        | (refine nameL (show LstX _ (pvs ++ _) by assumption) fun o2 e3 => ?_
           subst e3
           rename LstX _ (pvs ++ _) => LL
           refine zhT _ _ ?_; refine Turned.next ((P, o2) :: (bx, bo1) :: (kp, ko) :: (rp, ro) :: led) F4 N4 (by walk_at "M sub") (by walk_at "M apart") ⟨o2, _, ps ++ [r], rfl, LL, a2.snoc ⟨la, rfl, hrow⟩, ?_, by simp; omega, ?_, ?_, ?_, ?_, ?_, ?_, ?_⟩
           · intro p hp
             rcases List.mem_append.mp hp with hp | hp
             · exact hin p hp
             · rw [List.mem_singleton.mp hp]; exact List.mem_of_getElem? hri
           all_goals (walk_at "M look"))
        | (refine zhT _ _ ?_; refine Turned.next ((P, po) :: (bx, bo1) :: (kp, ko) :: (rp, ro) :: led) F4 N4 (by walk_at "M sub") ap ⟨po, pvs, ps, rfl, lpo, a2, hin, by omega, ?_, ?_, ?_, ?_, ?_, ?_, ?_⟩
           all_goals (walk_at "M look"))
        | trace_state)
    · rintro m2 n2 h2 tk2 ⟨po, pvs, ps, rfl, lpo, a2, hin, pl, q1, q2, q3, q4, q5, q6, q7⟩ F2 N2
      clear FF NN
      (repeat' (first | (k_unfold; (try dsimp only)) | ((with_reducible show wpAny _ _ (subscriptTail _ _ (Value.ref _) (Value.ref _)) _ _ _); (first | with_reducible (k_here; (with_reducible show wpAny _ _ (subscriptTail _ (PySem.Expr.Slice none none (some _) _) (Value.ref _) (Value.ref _)) _ _ _); k_dflt (refine' lst_rev (by k_asm) (by k_asm) (by k_mem) (by assumption) (by exact IsPart.int _ _) (by omega) ?_ (by with_unfolding_all rfl) (by intro _; with_unfolding_all rfl); k_whole); intro _ _ _ _ _ _ _; (try k_sweep)) | with_reducible (k_here; (with_reducible show wpAny _ _ (subscriptTail _ (PySem.Expr.Slice none (some _) none _) (Value.ref _) (Value.ref _)) _ _ _); k_dflt (refine' lst_upto (by k_asm) (by k_asm) (by k_mem) (by assumption) (by (first | assumption | omega | exact Int.mul_nonneg (by assumption) (Int.natCast_nonneg _))) (by omega) ?_ (by with_unfolding_all rfl) (by intro _; with_unfolding_all rfl); k_whole); intro _ _ _ _ _ _ _; (try k_sweep)))) | ((with_reducible show wpAny _ _ (binaryOp Operator.Add (Value.ref _) (Value.ref _)) _ _ _); with_reducible (k_here; k_dflt (refine' lst_add (by k_asm) (by k_asm) (by k_mem) (by k_mem) (by assumption) (by assumption) (by (first | assumption | omega | (simp only [List.length_reverse, List.length_take]; omega))) (by (first | assumption | omega | (simp only [List.length_reverse, List.length_take]; omega))) ?_; k_whole); intro _ _ _ _ _ _ _; (try k_sweep))) | ((with_reducible show wpAny _ _ (newTuple _) _ _ _); with_reducible (k_here; k_dflt (refine' kup_newTuple (by k_asm) (by k_asm) ?_ (by exact Nat.le_of_ble_eq_true rfl)); intro _ _ _ _ _; (try k_sweep))) | ((with_reducible show wpAny _ _ (assign (Expr.Tuple _ _ _) _ (Value.ref _)) _ _ _); with_reducible (k_here; (with_reducible show wpAny _ _ (assign (Expr.Tuple _ _ _) _ (Value.ref _)) _ _ _); k_dflt (refine' unpackN_ (by k_asm) (by k_asm) (by first | assumption | (refine News.isTup (by k_asm) (by k_mem))) (by (first | assumption | exact Room.h (by assumption) | exact Room.u_lt (by assumption) | exact Room.less (by assumption) (by decide))) (by exact rfl) (by exact rfl) ?_); intro _ _ _; (try k_sweep))) | ((with_reducible show wpAny _ _ (unpackItems (Value.ref _) _ _) _ _ _); with_reducible (k_here; k_dflt (refine' unpackItemsN_ (by k_asm) (by k_asm) (by first | assumption | (refine News.isTup (by k_asm) (by k_mem))) (by (first | assumption | exact Room.h (by assumption) | exact Room.u_lt (by assumption) | exact Room.less (by assumption) (by decide))) (by exact rfl) ?_; k_whole); intro _ _ _; (try k_sweep))) | ((with_reducible show wpAny _ _ (compareOp CmpOp.NotEq (Value.ref _) (Value.ref _)) _ _ _); with_reducible (k_here; k_dflt (refine' ne_dat (by (first | assumption | exact Room.h (by assumption) | exact Room.u_lt (by assumption) | exact Room.less (by assumption) (by decide))) (by k_asm) (by (first | (refine' BodyAt.dat (by walk_at "M rel")) | exact DatAt.lstX (by k_mem) (by assumption) .nil | exact DatAt.lst (by k_mem) .nil)) (by (first | (refine' BodyAt.dat (by walk_at "M rel")) | exact DatAt.lstX (by k_mem) (by assumption) .nil | exact DatAt.lst (by k_mem) .nil)) (by (first | exact body_can | exact body_depth | exact nil_can | exact nil_depth)) (by (first | exact body_can | exact body_depth | exact nil_can | exact nil_depth)) (by (first | exact body_can | exact body_depth | exact nil_can | exact nil_depth)) (by (first | exact body_eqv.trans (decide_eq_true (by assumption)) | exact nil_eqv)) ?_; k_whole))) | ((with_reducible show wpAny _ _ (call (Value.builtin "len") _) _ _ _); (first | with_reducible (k_here; (with_reducible show wpAny _ _ (call (Value.builtin "len") [Value.ref _]) _ _ _); k_dflt (refine' lst_len (by k_asm) (by k_mem) (by exact LstX.lst (by assumption)) (by omega) ?_; k_whole); intro _ _) | with_reducible (k_here; (with_reducible show wpAny _ _ (call (Value.builtin "len") [Value.ref _]) _ _ _); k_dflt (refine' lst_len (by k_asm) (by k_mem) (by assumption) (by omega) ?_; k_whole); intro _ _))) | ((with_reducible show wpAny _ _ (eval (Expr.Name _ _) _) _ _ _); with_reducible (k_here; k_dflt (apply nameX_L; (case F => k_asm); (case hk => rfl); (case hx => rfl); (case hv => walk_at "M look"); (case hd => decide); k_whole))) | ((with_reducible show wpAny _ _ (getMethod (Value.ref _) _ _) _ _ _); with_reducible (k_here; (with_reducible show wpAny _ _ (getMethod (Value.ref _) (PySem.Str.ofString "append") _) _ _ _); k_dflt (refine' lst_method (by k_asm) (by k_mem) (by assumption) PySem.F.slot_list_append PySem.F.type_list_append ?_))) | ((with_reducible show wpAny _ _ (call (Value.builtin "list.append") _) _ _ _); with_reducible (k_here; k_dflt (apply lst_append; (case F => k_asm); (case N => k_asm); (case U => walk_at "M up"); (case ho => assumption); (case hz => omega); k_whole); intro _ _ _; intro zN; (try dsimp only at zN); revert zN; intro _; intro _; (try k_sweep))) | ((with_reducible show wpAny _ _ (exec (Stmt.For _ _ _ _ _) _) _ _ _); with_reducible (k_here; k_dflt (refine' for_go (by k_asm) ?_); k_whole)) | ((with_reducible show wpAny _ _ (exec (Stmt.For _ _ _ _ _) _) _ _ _); with_reducible (k_here; k_dflt (refine' for_go (by k_asm) ?_); k_whole)) | ((with_reducible show wpAny _ _ (call (Value.ref _) _) _ _ _); (first | with_reducible (k_here; k_dflt (refine' made_spec (by (first | assumption | exact Room.h (by assumption) | exact Room.u_lt (by assumption) | exact Room.less (by assumption) (by decide))) (by k_asm) (by k_asm) (by k_asm) (by k_asm) (by k_mem) (by assumption) (by (first | assumption | (refine' all_mono ?_ (by assumption); (walk_at "M sub")))) (by assumption) ?_; k_whole); intro _ _ _ _ _ _ _ _ _ _ _ _ _ _ _ _ _ _ _ _; (try k_sweep)) | with_reducible (k_here; k_dflt (refine' look_body (by (first | assumption | exact Room.h (by assumption) | exact Room.u_lt (by assumption) | exact Room.less (by assumption) (by decide))) (by k_asm) (by k_asm) (by k_asm) (by k_asm) (by walk_at "M rel") (by k_mem) (by assumption) (by walk_at "M sub") (by walk_at "M rel") (by assumption) (by assumption) ?_; k_whole); intro _ _ _ _ _ _ _ _ _ _ _; (try k_sweep)) | with_reducible (k_here; k_dflt (apply draw_spec; (case hR => (first | assumption | exact Room.h (by assumption) | exact Room.u_lt (by assumption) | exact Room.less (by assumption) (by decide))); (case F => k_asm); (case X => k_asm); (case N => k_asm); (case T => k_asm); (case U => walk_at "M up"); (case ho => assumption); (case hz => first | assumption | omega); (case hk => first | assumption | omega); (case hk1 => first | assumption | omega); (case hm0 => first | decide | omega); (case hm1 => first | decide | omega); (case hU => intro o9; k_mem); (case hlo => assumption); (case hi => assumption); k_whole); intro _ _ _ _ _ _ _ _ _; intro zN; (try dsimp only at zN); revert zN; intro _; intro _; (try k_sweep)))) | ((with_reducible show wpAny _ _ (binaryOp Operator.Pow _ _) _ _ _); with_reducible (k_here; k_dflt (refine' pow2 (by omega) (by omega) ?_; k_whole); intro _ _ _ _ _ _)) | walk1 | (dsimp only; walk1) | (dsimp only; k_unfold; try dsimp only)))
      all_goals (try dsimp only)
      · rename_i D o5 _ _ _ lD lo5 _ F4 N4
        refine nameO (show LstO _ [.ref bl, .int (k + 1 + 1) _] by assumption) fun bo2 t2 e1 e2 => ?_
        subst e1 e2
        rename LstO _ [.ref bl, .int (k + 1 + 1) _] => lb2
        refine zhI _ ?_; refine Hold.of ⟨_, _, _, D, o5, pvs.reverse, ps.reverse, bo2, _, t2, rfl, F4, News.sub N4 (by walk_at "M sub"), fun p hp => ?_, lb2, by omega, lo5, a2.reverse, fun p hp => hin p (List.mem_reverse.mp hp), by simp; omega, ?_, ?_, ?_, ?_, ?_, ?_⟩
        · have hP' := lD (P, po) (by k_mem)
          exact Nat.lt_trans (lPa p hp) hP'
        all_goals (walk_at "M look")
      · rename Fr _ _ _ _ => F4
        rename News _ _ _ _ => N4
        refine nameO (show LstO _ [.ref bl, .int (k + 1 + 1) _] by assumption) fun bo2 t2 e1 e2 => ?_
        subst e1 e2
        rename LstO _ [.ref bl, .int (k + 1 + 1) _] => lb2
        refine zhI _ ?_; refine Hold.of ⟨_, _, _, P, po, pvs, ps, bo2, _, t2, rfl, F4, N4, lPa, lb2, by omega, lpo, a2, hin, by omega, ?_, ?_, ?_, ?_, ?_, ?_⟩
        all_goals (walk_at "M look")
  · rintro s' ⟨h1', tk1, m1, P, po, pvs, ps, bo1, k1, t1, rfl, F1, N1, lP, lb1, hk2, lpo, a2, hin, pl, q1, q2, q3, q4, q5, q6⟩
    clear F' N'
    simp only [List.drop_succ_cons, List.drop_zero]
    (repeat' (first | (k_unfold; (try dsimp only)) | ((with_reducible show wpAny _ _ (subscriptTail _ _ (Value.ref _) (Value.ref _)) _ _ _); (first | with_reducible (k_here; (with_reducible show wpAny _ _ (subscriptTail _ (PySem.Expr.Slice none none (some _) _) (Value.ref _) (Value.ref _)) _ _ _); k_dflt (refine' lst_rev (by k_asm) (by k_asm) (by k_mem) (by assumption) (by exact IsPart.int _ _) (by omega) ?_ (by with_unfolding_all rfl) (by intro _; with_unfolding_all rfl); k_whole); intro _ _ _ _ _ _ _; (try k_sweep)) | with_reducible (k_here; (with_reducible show wpAny _ _ (subscriptTail _ (PySem.Expr.Slice none (some _) none _) (Value.ref _) (Value.ref _)) _ _ _); k_dflt (refine' lst_upto (by k_asm) (by k_asm) (by k_mem) (by assumption) (by (first | assumption | omega | exact Int.mul_nonneg (by assumption) (Int.natCast_nonneg _))) (by omega) ?_ (by with_unfolding_all rfl) (by intro _; with_unfolding_all rfl); k_whole); intro _ _ _ _ _ _ _; (try k_sweep)))) | ((with_reducible show wpAny _ _ (binaryOp Operator.Add (Value.ref _) (Value.ref _)) _ _ _); with_reducible (k_here; k_dflt (refine' lst_add (by k_asm) (by k_asm) (by k_mem) (by k_mem) (by assumption) (by assumption) (by (first | assumption | omega | (simp only [List.length_reverse, List.length_take]; omega))) (by (first | assumption | omega | (simp only [List.length_reverse, List.length_take]; omega))) ?_; k_whole); intro _ _ _ _ _ _ _; (try k_sweep))) | ((with_reducible show wpAny _ _ (newTuple _) _ _ _); with_reducible (k_here; k_dflt (refine' kup_newTuple (by k_asm) (by k_asm) ?_ (by exact Nat.le_of_ble_eq_true rfl)); intro _ _ _ _ _; (try k_sweep))) | ((with_reducible show wpAny _ _ (assign (Expr.Tuple _ _ _) _ (Value.ref _)) _ _ _); with_reducible (k_here; (with_reducible show wpAny _ _ (assign (Expr.Tuple _ _ _) _ (Value.ref _)) _ _ _); k_dflt (refine' unpackN_ (by k_asm) (by k_asm) (by first | assumption | (refine News.isTup (by k_asm) (by k_mem))) (by (first | assumption | exact Room.h (by assumption) | exact Room.u_lt (by assumption) | exact Room.less (by assumption) (by decide))) (by exact rfl) (by exact rfl) ?_); intro _ _ _; (try k_sweep))) | ((with_reducible show wpAny _ _ (unpackItems (Value.ref _) _ _) _ _ _); with_reducible (k_here; k_dflt (refine' unpackItemsN_ (by k_asm) (by k_asm) (by first | assumption | (refine News.isTup (by k_asm) (by k_mem))) (by (first | assumption | exact Room.h (by assumption) | exact Room.u_lt (by assumption) | exact Room.less (by assumption) (by decide))) (by exact rfl) ?_; k_whole); intro _ _ _; (try k_sweep))) | ((with_reducible show wpAny _ _ (compareOp CmpOp.NotEq (Value.ref _) (Value.ref _)) _ _ _); with_reducible (k_here; k_dflt (refine' ne_dat (by (first | assumption | exact Room.h (by assumption) | exact Room.u_lt (by assumption) | exact Room.less (by assumption) (by decide))) (by k_asm) (by (first | (refine' BodyAt.dat (by walk_at "M rel")) | exact DatAt.lstX (by k_mem) (by assumption) .nil | exact DatAt.lst (by k_mem) .nil)) (by (first | (refine' BodyAt.dat (by walk_at "M rel")) | exact DatAt.lstX (by k_mem) (by assumption) .nil | exact DatAt.lst (by k_mem) .nil)) (by (first | exact body_can | exact body_depth | exact nil_can | exact nil_depth)) (by (first | exact body_can | exact body_depth | exact nil_can | exact nil_depth)) (by (first | exact body_can | exact body_depth | exact nil_can | exact nil_depth)) (by (first | exact body_eqv.trans (decide_eq_true (by assumption)) | exact nil_eqv)) ?_; k_whole))) | ((with_reducible show wpAny _ _ (call (Value.builtin "len") _) _ _ _); (first | with_reducible (k_here; (with_reducible show wpAny _ _ (call (Value.builtin "len") [Value.ref _]) _ _ _); k_dflt (refine' lst_len (by k_asm) (by k_mem) (by exact LstX.lst (by assumption)) (by omega) ?_; k_whole); intro _ _) | with_reducible (k_here; (with_reducible show wpAny _ _ (call (Value.builtin "len") [Value.ref _]) _ _ _); k_dflt (refine' lst_len (by k_asm) (by k_mem) (by assumption) (by omega) ?_; k_whole); intro _ _))) | ((with_reducible show wpAny _ _ (eval (Expr.Name _ _) _) _ _ _); with_reducible (k_here; k_dflt (apply nameX_L; (case F => k_asm); (case hk => rfl); (case hx => rfl); (case hv => walk_at "M look"); (case hd => decide); k_whole))) | ((with_reducible show wpAny _ _ (getMethod (Value.ref _) _ _) _ _ _); with_reducible (k_here; (with_reducible show wpAny _ _ (getMethod (Value.ref _) (PySem.Str.ofString "append") _) _ _ _); k_dflt (refine' lst_method (by k_asm) (by k_mem) (by assumption) PySem.F.slot_list_append PySem.F.type_list_append ?_))) | ((with_reducible show wpAny _ _ (call (Value.builtin "list.append") _) _ _ _); with_reducible (k_here; k_dflt (apply lst_append; (case F => k_asm); (case N => k_asm); (case U => walk_at "M up"); (case ho => assumption); (case hz => omega); k_whole); intro _ _ _; intro zN; (try dsimp only at zN); revert zN; intro _; intro _; (try k_sweep))) | ((with_reducible show wpAny _ _ (exec (Stmt.For _ _ _ _ _) _) _ _ _); with_reducible (k_here; k_dflt (refine' for_go (by k_asm) ?_); k_whole)) | ((with_reducible show wpAny _ _ (exec (Stmt.For _ _ _ _ _) _) _ _ _); with_reducible (k_here; k_dflt (refine' for_go (by k_asm) ?_); k_whole)) | ((with_reducible show wpAny _ _ (call (Value.ref _) _) _ _ _); (first | with_reducible (k_here; k_dflt (refine' made_spec (by (first | assumption | exact Room.h (by assumption) | exact Room.u_lt (by assumption) | exact Room.less (by assumption) (by decide))) (by k_asm) (by k_asm) (by k_asm) (by k_asm) (by k_mem) (by assumption) (by (first | assumption | (refine' all_mono ?_ (by assumption); (walk_at "M sub")))) (by assumption) ?_; k_whole); intro _ _ _ _ _ _ _ _ _ _ _ _ _ _ _ _ _ _ _ _; (try k_sweep)) | with_reducible (k_here; k_dflt (refine' look_body (by (first | assumption | exact Room.h (by assumption) | exact Room.u_lt (by assumption) | exact Room.less (by assumption) (by decide))) (by k_asm) (by k_asm) (by k_asm) (by k_asm) (by walk_at "M rel") (by k_mem) (by assumption) (by walk_at "M sub") (by walk_at "M rel") (by assumption) (by assumption) ?_; k_whole); intro _ _ _ _ _ _ _ _ _ _ _; (try k_sweep)) | with_reducible (k_here; k_dflt (apply draw_spec; (case hR => (first | assumption | exact Room.h (by assumption) | exact Room.u_lt (by assumption) | exact Room.less (by assumption) (by decide))); (case F => k_asm); (case X => k_asm); (case N => k_asm); (case T => k_asm); (case U => walk_at "M up"); (case ho => assumption); (case hz => first | assumption | omega); (case hk => first | assumption | omega); (case hk1 => first | assumption | omega); (case hm0 => first | decide | omega); (case hm1 => first | decide | omega); (case hU => intro o9; k_mem); (case hlo => assumption); (case hi => assumption); k_whole); intro _ _ _ _ _ _ _ _ _; intro zN; (try dsimp only at zN); revert zN; intro _; intro _; (try k_sweep)))) | ((with_reducible show wpAny _ _ (binaryOp Operator.Pow _ _) _ _ _); with_reducible (k_here; k_dflt (refine' pow2 (by omega) (by omega) ?_; k_whole); intro _ _ _ _ _ _)) | walk1 | (dsimp only; walk1) | (dsimp only; k_unfold; try dsimp only)))
    rename_i v0 _ t2 bo2 _ _ w0 w1 lb2 _ _ S so _ lS ls X xo _ F2 N2 lX lxo
    generalize hn0 : (v0 * (pvs.length : Int)).toNat = n0 at *
    have hX0 : All2 (RowV imm) (pvs ++ pvs.take n0) (ps ++ ps.take n0) := a2.append (a2.take n0)
    have hXin : ∀ p ∈ ps ++ ps.take n0, p ∈ rs := fun p hp => (List.mem_append.mp hp).elim (hin p) fun h => hin p (List.mem_of_mem_take h)
    have hpl : ps.length ≤ 3 := by rw [← a2.length]; exact pl
    have hXlen : (ps ++ ps.take n0).length ≤ 6 := by simp; omega
    generalize hXs : ps ++ ps.take n0 = Xs at *
    generalize hXv : pvs ++ pvs.take n0 = Xv at *
    have aX : ∀ p ∈ (bx, bo) :: (kp, ko) :: (rp, ro) :: led, p.1 < X := fun p hp => Nat.lt_trans (lP p hp) (lX (P, po) (by k_mem))
    have lPl : ∀ p ∈ led, p.1 < P := fun p hp => lP p (List.Mem.tail _ (List.Mem.tail _ (List.Mem.tail _ hp)))
    have N3 := News.sub N2 (by walk_at "M sub" : Sub ((kp, ko) :: (rp, ro) :: ((X, xo) :: (bx, bo2) :: (P, po) :: led)) _)
    have nkX : X ≠ kp := Nat.ne_of_gt (aX (kp, ko) (by k_mem))
    have nrX : X ≠ rp := Nat.ne_of_gt (aX (rp, ro) (by k_mem))
    have nkP : P ≠ kp := Nat.ne_of_gt (lP (kp, ko) (by k_mem))
    have nrP : P ≠ rp := Nat.ne_of_gt (lP (rp, ro) (by k_mem))
    clear N2
    refine sent_back_spec hR' F2 X' N3 T' (List.Mem.head _) lxo.lst hX0 (by omega) (by have := hI.len; omega) (Off.cons' nkX (Off.cons' n1 (Off.cons' nkP o2))) (Off.cons' nrX (Off.cons' n2 (Off.cons' nrP o3))) n3 (h1.mono (by walk_at "M sub")) hK hW (by walk_at "M sub") p1 p2 hn hI.ok (fun r hr => (hP.fit r (hXin r hr)).1) ?_
    clear F2 N3
    intro D2 bo3 ko2 ro2 new2 bvs h5 tk5 F5 N5 ab5 oD2 lbo3 hbk hK2 hW2
    have hXfit : ∀ x ∈ Xs, FitN now x := fun x hx => hP.fit x (hXin x hx)
    have hI2 : InvE now (runE now es Xs).1 := hI.run hn Xs hXfit
    have hbf : ∀ b ∈ (runE now es Xs).2, FitN now b := back_fit hn hI Xs hXfit
    have hbl : (runE now es Xs).2.length ≤ 6 := Nat.le_trans (back_len Xs) hXlen
    obtain ⟨hside1, hside2⟩ := ran_side (now := now) (es := es) hP.one hXin
    have hbt : ∀ x ∈ ps, x ∈ Xs := fun x hx => by rw [← hXs]; exact List.mem_append_left _ hx
    have abn : Above ((bx, bo) :: (kp, ko) :: (rp, ro) :: led) new2 := fun q hq p hp => by
      have z := ab5 q (List.Mem.tail _ hq)
      rcases List.mem_cons.mp hp with rfl | hp
      · exact z (bx, bo2) (by k_mem)
      rcases List.mem_cons.mp hp with rfl | hp
      · exact z (kp, ko) (by k_mem)
      rcases List.mem_cons.mp hp with rfl | hp
      · exact z (rp, ro) (by k_mem)
      · exact z p (by k_mem)
    have hmI : InvE now (madeEs now rs) := InvE.made hn rs hP.fit
    generalize hes2 : (runE now es Xs).1 = es2 at *
    generalize hbks : (runE now es Xs).2 = bks at *
    (repeat' (first | (k_unfold; (try dsimp only)) | ((with_reducible show wpAny _ _ (subscriptTail _ _ (Value.ref _) (Value.ref _)) _ _ _); (first | with_reducible (k_here; (with_reducible show wpAny _ _ (subscriptTail _ (PySem.Expr.Slice none none (some _) _) (Value.ref _) (Value.ref _)) _ _ _); k_dflt (refine' lst_rev (by k_asm) (by k_asm) (by k_mem) (by assumption) (by exact IsPart.int _ _) (by omega) ?_ (by with_unfolding_all rfl) (by intro _; with_unfolding_all rfl); k_whole); intro _ _ _ _ _ _ _; (try k_sweep)) | with_reducible (k_here; (with_reducible show wpAny _ _ (subscriptTail _ (PySem.Expr.Slice none (some _) none _) (Value.ref _) (Value.ref _)) _ _ _); k_dflt (refine' lst_upto (by k_asm) (by k_asm) (by k_mem) (by assumption) (by (first | assumption | omega | exact Int.mul_nonneg (by assumption) (Int.natCast_nonneg _))) (by omega) ?_ (by with_unfolding_all rfl) (by intro _; with_unfolding_all rfl); k_whole); intro _ _ _ _ _ _ _; (try k_sweep)))) | ((with_reducible show wpAny _ _ (binaryOp Operator.Add (Value.ref _) (Value.ref _)) _ _ _); with_reducible (k_here; k_dflt (refine' lst_add (by k_asm) (by k_asm) (by k_mem) (by k_mem) (by assumption) (by assumption) (by (first | assumption | omega | (simp only [List.length_reverse, List.length_take]; omega))) (by (first | assumption | omega | (simp only [List.length_reverse, List.length_take]; omega))) ?_; k_whole); intro _ _ _ _ _ _ _; (try k_sweep))) | ((with_reducible show wpAny _ _ (newTuple _) _ _ _); with_reducible (k_here; k_dflt (refine' kup_newTuple (by k_asm) (by k_asm) ?_ (by exact Nat.le_of_ble_eq_true rfl)); intro _ _ _ _ _; (try k_sweep))) | ((with_reducible show wpAny _ _ (assign (Expr.Tuple _ _ _) _ (Value.ref _)) _ _ _); with_reducible (k_here; (with_reducible show wpAny _ _ (assign (Expr.Tuple _ _ _) _ (Value.ref _)) _ _ _); k_dflt (refine' unpackN_ (by k_asm) (by k_asm) (by first | assumption | (refine News.isTup (by k_asm) (by k_mem))) (by (first | assumption | exact Room.h (by assumption) | exact Room.u_lt (by assumption) | exact Room.less (by assumption) (by decide))) (by exact rfl) (by exact rfl) ?_); intro _ _ _; (try k_sweep))) | ((with_reducible show wpAny _ _ (unpackItems (Value.ref _) _ _) _ _ _); with_reducible (k_here; k_dflt (refine' unpackItemsN_ (by k_asm) (by k_asm) (by first | assumption | (refine News.isTup (by k_asm) (by k_mem))) (by (first | assumption | exact Room.h (by assumption) | exact Room.u_lt (by assumption) | exact Room.less (by assumption) (by decide))) (by exact rfl) ?_; k_whole); intro _ _ _; (try k_sweep))) | ((with_reducible show wpAny _ _ (compareOp CmpOp.NotEq (Value.ref _) (Value.ref _)) _ _ _); with_reducible (k_here; k_dflt (refine' ne_dat (by (first | assumption | exact Room.h (by assumption) | exact Room.u_lt (by assumption) | exact Room.less (by assumption) (by decide))) (by k_asm) (by (first | (refine' BodyAt.dat (by walk_at "M rel")) | exact DatAt.lstX (by k_mem) (by assumption) .nil | exact DatAt.lst (by k_mem) .nil)) (by (first | (refine' BodyAt.dat (by walk_at "M rel")) | exact DatAt.lstX (by k_mem) (by assumption) .nil | exact DatAt.lst (by k_mem) .nil)) (by (first | exact body_can | exact body_depth | exact nil_can | exact nil_depth)) (by (first | exact body_can | exact body_depth | exact nil_can | exact nil_depth)) (by (first | exact body_can | exact body_depth | exact nil_can | exact nil_depth)) (by (first | exact body_eqv.trans (decide_eq_true (by assumption)) | exact nil_eqv)) ?_; k_whole))) | ((with_reducible show wpAny _ _ (call (Value.builtin "len") _) _ _ _); (first | with_reducible (k_here; (with_reducible show wpAny _ _ (call (Value.builtin "len") [Value.ref _]) _ _ _); k_dflt (refine' lst_len (by k_asm) (by k_mem) (by exact LstX.lst (by assumption)) (by omega) ?_; k_whole); intro _ _) | with_reducible (k_here; (with_reducible show wpAny _ _ (call (Value.builtin "len") [Value.ref _]) _ _ _); k_dflt (refine' lst_len (by k_asm) (by k_mem) (by assumption) (by omega) ?_; k_whole); intro _ _))) | ((with_reducible show wpAny _ _ (eval (Expr.Name _ _) _) _ _ _); with_reducible (k_here; k_dflt (apply nameX_L; (case F => k_asm); (case hk => rfl); (case hx => rfl); (case hv => walk_at "M look"); (case hd => decide); k_whole))) | ((with_reducible show wpAny _ _ (getMethod (Value.ref _) _ _) _ _ _); with_reducible (k_here; (with_reducible show wpAny _ _ (getMethod (Value.ref _) (PySem.Str.ofString "append") _) _ _ _); k_dflt (refine' lst_method (by k_asm) (by k_mem) (by assumption) PySem.F.slot_list_append PySem.F.type_list_append ?_))) | ((with_reducible show wpAny _ _ (call (Value.builtin "list.append") _) _ _ _); with_reducible (k_here; k_dflt (apply lst_append; (case F => k_asm); (case N => k_asm); (case U => walk_at "M up"); (case ho => assumption); (case hz => omega); k_whole); intro _ _ _; intro zN; (try dsimp only at zN); revert zN; intro _; intro _; (try k_sweep))) | ((with_reducible show wpAny _ _ (exec (Stmt.For _ _ _ _ _) _) _ _ _); with_reducible (k_here; k_dflt (refine' for_go (by k_asm) ?_); k_whole)) | ((with_reducible show wpAny _ _ (exec (Stmt.For _ _ _ _ _) _) _ _ _); with_reducible (k_here; k_dflt (refine' for_go (by k_asm) ?_); k_whole)) | ((with_reducible show wpAny _ _ (call (Value.ref _) _) _ _ _); (first | with_reducible (k_here; k_dflt (refine' made_spec (by (first | assumption | exact Room.h (by assumption) | exact Room.u_lt (by assumption) | exact Room.less (by assumption) (by decide))) (by k_asm) (by k_asm) (by k_asm) (by k_asm) (by k_mem) (by assumption) (by (first | assumption | (refine' all_mono ?_ (by assumption); (walk_at "M sub")))) (by assumption) ?_; k_whole); intro _ _ _ _ _ _ _ _ _ _ _ _ _ _ _ _ _ _ _ _; (try k_sweep)) | with_reducible (k_here; k_dflt (refine' look_body (by (first | assumption | exact Room.h (by assumption) | exact Room.u_lt (by assumption) | exact Room.less (by assumption) (by decide))) (by k_asm) (by k_asm) (by k_asm) (by k_asm) (by walk_at "M rel") (by k_mem) (by assumption) (by walk_at "M sub") (by walk_at "M rel") (by assumption) (by assumption) ?_; k_whole); intro _ _ _ _ _ _ _ _ _ _ _; (try k_sweep)) | with_reducible (k_here; k_dflt (apply draw_spec; (case hR => (first | assumption | exact Room.h (by assumption) | exact Room.u_lt (by assumption) | exact Room.less (by assumption) (by decide))); (case F => k_asm); (case X => k_asm); (case N => k_asm); (case T => k_asm); (case U => walk_at "M up"); (case ho => assumption); (case hz => first | assumption | omega); (case hk => first | assumption | omega); (case hk1 => first | assumption | omega); (case hm0 => first | decide | omega); (case hm1 => first | decide | omega); (case hU => intro o9; k_mem); (case hlo => assumption); (case hi => assumption); k_whole); intro _ _ _ _ _ _ _ _ _; intro zN; (try dsimp only at zN); revert zN; intro _; intro _; (try k_sweep)))) | ((with_reducible show wpAny _ _ (binaryOp Operator.Pow _ _) _ _ _); with_reducible (k_here; k_dflt (refine' pow2 (by omega) (by omega) ?_; k_whole); intro _ _ _ _ _ _)) | walk1 | (dsimp only; walk1) | (dsimp only; k_unfold; try dsimp only)))
    rename_i T d' rp' kp' ko' ro' new' _ _ lT ab' ok' or' db' K' R' p1' p2' _ _ _ F6 N6
    clear hK hW
    have nkr' : kp' ≠ rp' := fun q => ok' (rp', ro') (List.Mem.head _) q.symm
    have ok2 := fun p hp => ok' p (List.Mem.tail _ hp)
    generalize hbig : new' ++ ((D2, bo3) :: (kp, ko2) :: (rp, ro2) :: (new2 ++ ((X, xo) :: (bx, bo2) :: (P, po) :: led))) = big at *
    have sbig : Sub (new2 ++ imm) big := by rw [← hbig]; walk_at "M sub"
    have sbig1 : Sub new' big := by rw [← hbig]; walk_at "M sub"
    have sbig2 : Sub led big := by rw [← hbig]; walk_at "M sub"
    have mD2 : (D2, bo3) ∈ big := by rw [← hbig]; k_mem
    have mk2 : (kp, ko2) ∈ big := by rw [← hbig]; k_mem
    have mr2 : (rp, ro2) ∈ big := by rw [← hbig]; k_mem
    have mbx : (bx, bo2) ∈ big := by rw [← hbig]; k_mem
    have mP : (P, po) ∈ big := by rw [← hbig]; k_mem
    have sfin : Sub ((bx, bo2) :: (kp, ko2) :: (rp, ro2) :: (new2 ++ led)) big := by rw [← hbig]; walk_at "M sub"
    have N7 : News g' L' _ ((kp', ko') :: (rp', ro') :: big) := fun p hp => N6 p (List.Mem.tail _ hp)
    clear N6 hbig
    refine sent_back_spec hR' F6 X' N7 T' mD2 lbo3.lst (all_mono sbig hbk) (by omega) (by have := hmI.len; omega) ok2 or' nkr' (db'.mono sbig1) K' R' (Sub.refl _) p1' p2' hn hmI.ok (fun r hr => (hbf r hr).1) ?_
    clear F6 N7
    intro D4 bo4 ko4 ro4 new4 bvs4 h8 tk8 F8 N8 ab8 oD4 lbo4 hbk4 hK4 hW4
    rw [hside1] at hbk4
    cases hbk4
    generalize hes4 : (runE now (madeEs now rs) bks).1 = es4 at *
    (repeat' (first | (k_unfold; (try dsimp only)) | ((with_reducible show wpAny _ _ (subscriptTail _ _ (Value.ref _) (Value.ref _)) _ _ _); (first | with_reducible (k_here; (with_reducible show wpAny _ _ (subscriptTail _ (PySem.Expr.Slice none none (some _) _) (Value.ref _) (Value.ref _)) _ _ _); k_dflt (refine' lst_rev (by k_asm) (by k_asm) (by k_mem) (by assumption) (by exact IsPart.int _ _) (by omega) ?_ (by with_unfolding_all rfl) (by intro _; with_unfolding_all rfl); k_whole); intro _ _ _ _ _ _ _; (try k_sweep)) | with_reducible (k_here; (with_reducible show wpAny _ _ (subscriptTail _ (PySem.Expr.Slice none (some _) none _) (Value.ref _) (Value.ref _)) _ _ _); k_dflt (refine' lst_upto (by k_asm) (by k_asm) (by k_mem) (by assumption) (by (first | assumption | omega | exact Int.mul_nonneg (by assumption) (Int.natCast_nonneg _))) (by omega) ?_ (by with_unfolding_all rfl) (by intro _; with_unfolding_all rfl); k_whole); intro _ _ _ _ _ _ _; (try k_sweep)))) | ((with_reducible show wpAny _ _ (binaryOp Operator.Add (Value.ref _) (Value.ref _)) _ _ _); with_reducible (k_here; k_dflt (refine' lst_add (by k_asm) (by k_asm) (by k_mem) (by k_mem) (by assumption) (by assumption) (by (first | assumption | omega | (simp only [List.length_reverse, List.length_take]; omega))) (by (first | assumption | omega | (simp only [List.length_reverse, List.length_take]; omega))) ?_; k_whole); intro _ _ _ _ _ _ _; (try k_sweep))) | ((with_reducible show wpAny _ _ (newTuple _) _ _ _); with_reducible (k_here; k_dflt (refine' kup_newTuple (by k_asm) (by k_asm) ?_ (by exact Nat.le_of_ble_eq_true rfl)); intro _ _ _ _ _; (try k_sweep))) | ((with_reducible show wpAny _ _ (assign (Expr.Tuple _ _ _) _ (Value.ref _)) _ _ _); with_reducible (k_here; (with_reducible show wpAny _ _ (assign (Expr.Tuple _ _ _) _ (Value.ref _)) _ _ _); k_dflt (refine' unpackN_ (by k_asm) (by k_asm) (by first | assumption | (refine News.isTup (by k_asm) (by k_mem))) (by (first | assumption | exact Room.h (by assumption) | exact Room.u_lt (by assumption) | exact Room.less (by assumption) (by decide))) (by exact rfl) (by exact rfl) ?_); intro _ _ _; (try k_sweep))) | ((with_reducible show wpAny _ _ (unpackItems (Value.ref _) _ _) _ _ _); with_reducible (k_here; k_dflt (refine' unpackItemsN_ (by k_asm) (by k_asm) (by first | assumption | (refine News.isTup (by k_asm) (by k_mem))) (by (first | assumption | exact Room.h (by assumption) | exact Room.u_lt (by assumption) | exact Room.less (by assumption) (by decide))) (by exact rfl) ?_; k_whole); intro _ _ _; (try k_sweep))) | ((with_reducible show wpAny _ _ (compareOp CmpOp.NotEq (Value.ref _) (Value.ref _)) _ _ _); with_reducible (k_here; k_dflt (refine' ne_dat (by (first | assumption | exact Room.h (by assumption) | exact Room.u_lt (by assumption) | exact Room.less (by assumption) (by decide))) (by k_asm) (by (first | (refine' BodyAt.dat (by walk_at "M rel")) | exact DatAt.lstX (by k_mem) (by assumption) .nil | exact DatAt.lst (by k_mem) .nil)) (by (first | (refine' BodyAt.dat (by walk_at "M rel")) | exact DatAt.lstX (by k_mem) (by assumption) .nil | exact DatAt.lst (by k_mem) .nil)) (by (first | exact body_can | exact body_depth | exact nil_can | exact nil_depth)) (by (first | exact body_can | exact body_depth | exact nil_can | exact nil_depth)) (by (first | exact body_can | exact body_depth | exact nil_can | exact nil_depth)) (by (first | exact body_eqv.trans (decide_eq_true (by assumption)) | exact nil_eqv)) ?_; k_whole))) | ((with_reducible show wpAny _ _ (call (Value.builtin "len") _) _ _ _); (first | with_reducible (k_here; (with_reducible show wpAny _ _ (call (Value.builtin "len") [Value.ref _]) _ _ _); k_dflt (refine' lst_len (by k_asm) (by k_mem) (by exact LstX.lst (by assumption)) (by omega) ?_; k_whole); intro _ _) | with_reducible (k_here; (with_reducible show wpAny _ _ (call (Value.builtin "len") [Value.ref _]) _ _ _); k_dflt (refine' lst_len (by k_asm) (by k_mem) (by assumption) (by omega) ?_; k_whole); intro _ _))) | ((with_reducible show wpAny _ _ (eval (Expr.Name _ _) _) _ _ _); with_reducible (k_here; k_dflt (apply nameX_L; (case F => k_asm); (case hk => rfl); (case hx => rfl); (case hv => walk_at "M look"); (case hd => decide); k_whole))) | ((with_reducible show wpAny _ _ (getMethod (Value.ref _) _ _) _ _ _); with_reducible (k_here; (with_reducible show wpAny _ _ (getMethod (Value.ref _) (PySem.Str.ofString "append") _) _ _ _); k_dflt (refine' lst_method (by k_asm) (by k_mem) (by assumption) PySem.F.slot_list_append PySem.F.type_list_append ?_))) | ((with_reducible show wpAny _ _ (call (Value.builtin "list.append") _) _ _ _); with_reducible (k_here; k_dflt (apply lst_append; (case F => k_asm); (case N => k_asm); (case U => walk_at "M up"); (case ho => assumption); (case hz => omega); k_whole); intro _ _ _; intro zN; (try dsimp only at zN); revert zN; intro _; intro _; (try k_sweep))) | ((with_reducible show wpAny _ _ (exec (Stmt.For _ _ _ _ _) _) _ _ _); with_reducible (k_here; k_dflt (refine' for_go (by k_asm) ?_); k_whole)) | ((with_reducible show wpAny _ _ (exec (Stmt.For _ _ _ _ _) _) _ _ _); with_reducible (k_here; k_dflt (refine' for_go (by k_asm) ?_); k_whole)) | ((with_reducible show wpAny _ _ (call (Value.ref _) _) _ _ _); (first | with_reducible (k_here; k_dflt (refine' made_spec (by (first | assumption | exact Room.h (by assumption) | exact Room.u_lt (by assumption) | exact Room.less (by assumption) (by decide))) (by k_asm) (by k_asm) (by k_asm) (by k_asm) (by k_mem) (by assumption) (by (first | assumption | (refine' all_mono ?_ (by assumption); (walk_at "M sub")))) (by assumption) ?_; k_whole); intro _ _ _ _ _ _ _ _ _ _ _ _ _ _ _ _ _ _ _ _; (try k_sweep)) | with_reducible (k_here; k_dflt (refine' look_body (by (first | assumption | exact Room.h (by assumption) | exact Room.u_lt (by assumption) | exact Room.less (by assumption) (by decide))) (by k_asm) (by k_asm) (by k_asm) (by k_asm) (by walk_at "M rel") (by k_mem) (by assumption) (by walk_at "M sub") (by walk_at "M rel") (by assumption) (by assumption) ?_; k_whole); intro _ _ _ _ _ _ _ _ _ _ _; (try k_sweep)) | with_reducible (k_here; k_dflt (apply draw_spec; (case hR => (first | assumption | exact Room.h (by assumption) | exact Room.u_lt (by assumption) | exact Room.less (by assumption) (by decide))); (case F => k_asm); (case X => k_asm); (case N => k_asm); (case T => k_asm); (case U => walk_at "M up"); (case ho => assumption); (case hz => first | assumption | omega); (case hk => first | assumption | omega); (case hk1 => first | assumption | omega); (case hm0 => first | decide | omega); (case hm1 => first | decide | omega); (case hU => intro o9; k_mem); (case hlo => assumption); (case hi => assumption); k_whole); intro _ _ _ _ _ _ _ _ _; intro zN; (try dsimp only at zN); revert zN; intro _; intro _; (try k_sweep)))) | ((with_reducible show wpAny _ _ (binaryOp Operator.Pow _ _) _ _ _); with_reducible (k_here; k_dflt (refine' pow2 (by omega) (by omega) ?_; k_whole); intro _ _ _ _ _ _)) | walk1 | (dsimp only; walk1) | (dsimp only; k_unfold; try dsimp only)))
    rename_i lx _ FF N9 _
    have N10 : News g' L' _ ([] ++ ((rp', ro4) :: (new4 ++ big))) := fun p hp => N9 p (List.Mem.tail _ (List.Mem.tail _ (List.Mem.tail _ hp)))
    clear N9
    have hdb1 : DbAt big d' rp' := db'.mono sbig1
    have hdb2 : DbAt big d rp := h1.mono sbig2
    clear db' h1
    have hdb1c := hdb1
    have hdb2c := hdb2
    obtain ⟨dx1, hsd1, td1, nd1, d11, d12⟩ := hdb1c
    obtain ⟨dx2, hsd2, td2, nd2, d21, d22⟩ := hdb2c
    have hW2b : Rows prog w big ro2 es2 := hW2.mono sbig
    refine for_list (fun i m nn => ∃ new, nn = new ++ ((rp', ro4) :: (new4 ++ big)) ∧ m (Str.ofString "side") = some (.ref d') ∧ m (Str.ofString "base") = some (.ref d) ∧ m (Str.ofString "now") = some (.int now tn)) hR'.h FF N10
      (List.Mem.tail _ (List.mem_append_right _ mP)) lpo.lst ?_ ⟨[], rfl, rfl, ?_, ?_⟩ ?_ ?_
    · rintro i m nn ⟨new, rfl, _⟩
      exact List.mem_append_right _ (List.Mem.tail _ (List.mem_append_right _ mP))
    · walk_at "M look"
    · walk_at "M look"
    · rintro i v m1 nn h3 tk3 its hv ⟨new, rfl, q1, q2, q3⟩ F3 N3 ap zTQ zhT
      clear FF N10
      obtain ⟨r, hri, la, rfl, hrow⟩ := a2.get' hv
      obtain ⟨e1, e2, f1, f2, f3⟩ := hside2 r (hbt r (List.mem_of_getElem? hri))
      have hsm : e2.row.num = e1.row.num ∧ e2.row.tot = e1.row.tot ∧ e2.row.fin = e1.row.fin := f3
      obtain ⟨hp, bp, i1, ⟨t0, t1, t3, t4, t5, t6, t7, i2⟩, _⟩ := hrow
      have r1 := sbig2 _ (hs _ i1)
      have r2 := sbig2 _ (hs _ i2)
      clear i1 i2 f3
      (repeat' (first | (k_unfold; (try dsimp only)) | ((with_reducible show wpAny _ _ (subscriptTail _ _ (Value.ref _) (Value.ref _)) _ _ _); (first | with_reducible (k_here; (with_reducible show wpAny _ _ (subscriptTail _ (PySem.Expr.Slice none none (some _) _) (Value.ref _) (Value.ref _)) _ _ _); k_dflt (refine' lst_rev (by k_asm) (by k_asm) (by k_mem) (by assumption) (by exact IsPart.int _ _) (by omega) ?_ (by with_unfolding_all rfl) (by intro _; with_unfolding_all rfl); k_whole); intro _ _ _ _ _ _ _; (try k_sweep)) | with_reducible (k_here; (with_reducible show wpAny _ _ (subscriptTail _ (PySem.Expr.Slice none (some _) none _) (Value.ref _) (Value.ref _)) _ _ _); k_dflt (refine' lst_upto (by k_asm) (by k_asm) (by k_mem) (by assumption) (by (first | assumption | omega | exact Int.mul_nonneg (by assumption) (Int.natCast_nonneg _))) (by omega) ?_ (by with_unfolding_all rfl) (by intro _; with_unfolding_all rfl); k_whole); intro _ _ _ _ _ _ _; (try k_sweep)))) | ((with_reducible show wpAny _ _ (binaryOp Operator.Add (Value.ref _) (Value.ref _)) _ _ _); with_reducible (k_here; k_dflt (refine' lst_add (by k_asm) (by k_asm) (by k_mem) (by k_mem) (by assumption) (by assumption) (by (first | assumption | omega | (simp only [List.length_reverse, List.length_take]; omega))) (by (first | assumption | omega | (simp only [List.length_reverse, List.length_take]; omega))) ?_; k_whole); intro _ _ _ _ _ _ _; (try k_sweep))) | ((with_reducible show wpAny _ _ (newTuple _) _ _ _); with_reducible (k_here; k_dflt (refine' kup_newTuple (by k_asm) (by k_asm) ?_ (by exact Nat.le_of_ble_eq_true rfl)); intro _ _ _ _ _; (try k_sweep))) | ((with_reducible show wpAny _ _ (assign (Expr.Tuple _ _ _) _ (Value.ref _)) _ _ _); with_reducible (k_here; (with_reducible show wpAny _ _ (assign (Expr.Tuple _ _ _) _ (Value.ref _)) _ _ _); k_dflt (refine' unpackN_ (by k_asm) (by k_asm) (by first | assumption | (refine News.isTup (by k_asm) (by k_mem))) (by (first | assumption | exact Room.h (by assumption) | exact Room.u_lt (by assumption) | exact Room.less (by assumption) (by decide))) (by exact rfl) (by exact rfl) ?_); intro _ _ _; (try k_sweep))) | ((with_reducible show wpAny _ _ (unpackItems (Value.ref _) _ _) _ _ _); with_reducible (k_here; k_dflt (refine' unpackItemsN_ (by k_asm) (by k_asm) (by first | assumption | (refine News.isTup (by k_asm) (by k_mem))) (by (first | assumption | exact Room.h (by assumption) | exact Room.u_lt (by assumption) | exact Room.less (by assumption) (by decide))) (by exact rfl) ?_; k_whole); intro _ _ _; (try k_sweep))) | ((with_reducible show wpAny _ _ (compareOp CmpOp.NotEq (Value.ref _) (Value.ref _)) _ _ _); with_reducible (k_here; k_dflt (refine' ne_dat (by (first | assumption | exact Room.h (by assumption) | exact Room.u_lt (by assumption) | exact Room.less (by assumption) (by decide))) (by k_asm) (by (first | (refine' BodyAt.dat (by walk_at "M rel")) | exact DatAt.lstX (by k_mem) (by assumption) .nil | exact DatAt.lst (by k_mem) .nil)) (by (first | (refine' BodyAt.dat (by walk_at "M rel")) | exact DatAt.lstX (by k_mem) (by assumption) .nil | exact DatAt.lst (by k_mem) .nil)) (by (first | exact body_can | exact body_depth | exact nil_can | exact nil_depth)) (by (first | exact body_can | exact body_depth | exact nil_can | exact nil_depth)) (by (first | exact body_can | exact body_depth | exact nil_can | exact nil_depth)) (by (first | exact body_eqv.trans (decide_eq_true (by assumption)) | exact nil_eqv)) ?_; k_whole))) | ((with_reducible show wpAny _ _ (call (Value.builtin "len") _) _ _ _); (first | with_reducible (k_here; (with_reducible show wpAny _ _ (call (Value.builtin "len") [Value.ref _]) _ _ _); k_dflt (refine' lst_len (by k_asm) (by k_mem) (by exact LstX.lst (by assumption)) (by omega) ?_; k_whole); intro _ _) | with_reducible (k_here; (with_reducible show wpAny _ _ (call (Value.builtin "len") [Value.ref _]) _ _ _); k_dflt (refine' lst_len (by k_asm) (by k_mem) (by assumption) (by omega) ?_; k_whole); intro _ _))) | ((with_reducible show wpAny _ _ (eval (Expr.Name _ _) _) _ _ _); with_reducible (k_here; k_dflt (apply nameX_L; (case F => k_asm); (case hk => rfl); (case hx => rfl); (case hv => walk_at "M look"); (case hd => decide); k_whole))) | ((with_reducible show wpAny _ _ (getMethod (Value.ref _) _ _) _ _ _); with_reducible (k_here; (with_reducible show wpAny _ _ (getMethod (Value.ref _) (PySem.Str.ofString "append") _) _ _ _); k_dflt (refine' lst_method (by k_asm) (by k_mem) (by assumption) PySem.F.slot_list_append PySem.F.type_list_append ?_))) | ((with_reducible show wpAny _ _ (call (Value.builtin "list.append") _) _ _ _); with_reducible (k_here; k_dflt (apply lst_append; (case F => k_asm); (case N => k_asm); (case U => walk_at "M up"); (case ho => assumption); (case hz => omega); k_whole); intro _ _ _; intro zN; (try dsimp only at zN); revert zN; intro _; intro _; (try k_sweep))) | ((with_reducible show wpAny _ _ (exec (Stmt.For _ _ _ _ _) _) _ _ _); with_reducible (k_here; k_dflt (refine' for_go (by k_asm) ?_); k_whole)) | ((with_reducible show wpAny _ _ (exec (Stmt.For _ _ _ _ _) _) _ _ _); with_reducible (k_here; k_dflt (refine' for_go (by k_asm) ?_); k_whole)) | ((with_reducible show wpAny _ _ (call (Value.ref _) _) _ _ _); (first | with_reducible (k_here; k_dflt (refine' made_spec (by (first | assumption | exact Room.h (by assumption) | exact Room.u_lt (by assumption) | exact Room.less (by assumption) (by decide))) (by k_asm) (by k_asm) (by k_asm) (by k_asm) (by k_mem) (by assumption) (by (first | assumption | (refine' all_mono ?_ (by assumption); (walk_at "M sub")))) (by assumption) ?_; k_whole); intro _ _ _ _ _ _ _ _ _ _ _ _ _ _ _ _ _ _ _ _; (try k_sweep)) | with_reducible (k_here; k_dflt (refine' look_body (by (first | assumption | exact Room.h (by assumption) | exact Room.u_lt (by assumption) | exact Room.less (by assumption) (by decide))) (by k_asm) (by k_asm) (by k_asm) (by k_asm) (by walk_at "M rel") (by k_mem) (by assumption) (by walk_at "M sub") (by walk_at "M rel") (by assumption) (by assumption) ?_; k_whole); intro _ _ _ _ _ _ _ _ _ _ _; (try k_sweep)) | with_reducible (k_here; k_dflt (apply draw_spec; (case hR => (first | assumption | exact Room.h (by assumption) | exact Room.u_lt (by assumption) | exact Room.less (by assumption) (by decide))); (case F => k_asm); (case X => k_asm); (case N => k_asm); (case T => k_asm); (case U => walk_at "M up"); (case ho => assumption); (case hz => first | assumption | omega); (case hk => first | assumption | omega); (case hk1 => first | assumption | omega); (case hm0 => first | decide | omega); (case hm1 => first | decide | omega); (case hU => intro o9; k_mem); (case hlo => assumption); (case hi => assumption); k_whole); intro _ _ _ _ _ _ _ _ _; intro zN; (try dsimp only at zN); revert zN; intro _; intro _; (try k_sweep)))) | ((with_reducible show wpAny _ _ (binaryOp Operator.Pow _ _) _ _ _); with_reducible (k_here; k_dflt (refine' pow2 (by omega) (by omega) ?_; k_whole); intro _ _ _ _ _ _)) | walk1 | (dsimp only; walk1) | (dsimp only; k_unfold; try dsimp only)))
      rename Fr _ _ _ _ => F4
      rename News _ _ _ _ => N4
      refine zhT _ _ ?_; refine Turned.next (new ++ ((rp', ro4) :: (new4 ++ big))) F4 N4 (by walk_at "M sub") ap ⟨new, rfl, ?_, ?_, ?_⟩
      all_goals (walk_at "M look")
    · rintro m2 n2 h2 tk2 ⟨new, rfl, q1, q2, q3⟩ F2 N2
      clear FF N10
      (repeat' (first | (k_unfold; (try dsimp only)) | ((with_reducible show wpAny _ _ (subscriptTail _ _ (Value.ref _) (Value.ref _)) _ _ _); (first | with_reducible (k_here; (with_reducible show wpAny _ _ (subscriptTail _ (PySem.Expr.Slice none none (some _) _) (Value.ref _) (Value.ref _)) _ _ _); k_dflt (refine' lst_rev (by k_asm) (by k_asm) (by k_mem) (by assumption) (by exact IsPart.int _ _) (by omega) ?_ (by with_unfolding_all rfl) (by intro _; with_unfolding_all rfl); k_whole); intro _ _ _ _ _ _ _; (try k_sweep)) | with_reducible (k_here; (with_reducible show wpAny _ _ (subscriptTail _ (PySem.Expr.Slice none (some _) none _) (Value.ref _) (Value.ref _)) _ _ _); k_dflt (refine' lst_upto (by k_asm) (by k_asm) (by k_mem) (by assumption) (by (first | assumption | omega | exact Int.mul_nonneg (by assumption) (Int.natCast_nonneg _))) (by omega) ?_ (by with_unfolding_all rfl) (by intro _; with_unfolding_all rfl); k_whole); intro _ _ _ _ _ _ _; (try k_sweep)))) | ((with_reducible show wpAny _ _ (binaryOp Operator.Add (Value.ref _) (Value.ref _)) _ _ _); with_reducible (k_here; k_dflt (refine' lst_add (by k_asm) (by k_asm) (by k_mem) (by k_mem) (by assumption) (by assumption) (by (first | assumption | omega | (simp only [List.length_reverse, List.length_take]; omega))) (by (first | assumption | omega | (simp only [List.length_reverse, List.length_take]; omega))) ?_; k_whole); intro _ _ _ _ _ _ _; (try k_sweep))) | ((with_reducible show wpAny _ _ (newTuple _) _ _ _); with_reducible (k_here; k_dflt (refine' kup_newTuple (by k_asm) (by k_asm) ?_ (by exact Nat.le_of_ble_eq_true rfl)); intro _ _ _ _ _; (try k_sweep))) | ((with_reducible show wpAny _ _ (assign (Expr.Tuple _ _ _) _ (Value.ref _)) _ _ _); with_reducible (k_here; (with_reducible show wpAny _ _ (assign (Expr.Tuple _ _ _) _ (Value.ref _)) _ _ _); k_dflt (refine' unpackN_ (by k_asm) (by k_asm) (by first | assumption | (refine News.isTup (by k_asm) (by k_mem))) (by (first | assumption | exact Room.h (by assumption) | exact Room.u_lt (by assumption) | exact Room.less (by assumption) (by decide))) (by exact rfl) (by exact rfl) ?_); intro _ _ _; (try k_sweep))) | ((with_reducible show wpAny _ _ (unpackItems (Value.ref _) _ _) _ _ _); with_reducible (k_here; k_dflt (refine' unpackItemsN_ (by k_asm) (by k_asm) (by first | assumption | (refine News.isTup (by k_asm) (by k_mem))) (by (first | assumption | exact Room.h (by assumption) | exact Room.u_lt (by assumption) | exact Room.less (by assumption) (by decide))) (by exact rfl) ?_; k_whole); intro _ _ _; (try k_sweep))) | ((with_reducible show wpAny _ _ (compareOp CmpOp.NotEq (Value.ref _) (Value.ref _)) _ _ _); with_reducible (k_here; k_dflt (refine' ne_dat (by (first | assumption | exact Room.h (by assumption) | exact Room.u_lt (by assumption) | exact Room.less (by assumption) (by decide))) (by k_asm) (by (first | (refine' BodyAt.dat (by walk_at "M rel")) | exact DatAt.lstX (by k_mem) (by assumption) .nil | exact DatAt.lst (by k_mem) .nil)) (by (first | (refine' BodyAt.dat (by walk_at "M rel")) | exact DatAt.lstX (by k_mem) (by assumption) .nil | exact DatAt.lst (by k_mem) .nil)) (by (first | exact body_can | exact body_depth | exact nil_can | exact nil_depth)) (by (first | exact body_can | exact body_depth | exact nil_can | exact nil_depth)) (by (first | exact body_can | exact body_depth | exact nil_can | exact nil_depth)) (by (first | exact body_eqv.trans (decide_eq_true (by assumption)) | exact nil_eqv)) ?_; k_whole))) | ((with_reducible show wpAny _ _ (call (Value.builtin "len") _) _ _ _); (first | with_reducible (k_here; (with_reducible show wpAny _ _ (call (Value.builtin "len") [Value.ref _]) _ _ _); k_dflt (refine' lst_len (by k_asm) (by k_mem) (by exact LstX.lst (by assumption)) (by omega) ?_; k_whole); intro _ _) | with_reducible (k_here; (with_reducible show wpAny _ _ (call (Value.builtin "len") [Value.ref _]) _ _ _); k_dflt (refine' lst_len (by k_asm) (by k_mem) (by assumption) (by omega) ?_; k_whole); intro _ _))) | ((with_reducible show wpAny _ _ (eval (Expr.Name _ _) _) _ _ _); with_reducible (k_here; k_dflt (apply nameX_L; (case F => k_asm); (case hk => rfl); (case hx => rfl); (case hv => walk_at "M look"); (case hd => decide); k_whole))) | ((with_reducible show wpAny _ _ (getMethod (Value.ref _) _ _) _ _ _); with_reducible (k_here; (with_reducible show wpAny _ _ (getMethod (Value.ref _) (PySem.Str.ofString "append") _) _ _ _); k_dflt (refine' lst_method (by k_asm) (by k_mem) (by assumption) PySem.F.slot_list_append PySem.F.type_list_append ?_))) | ((with_reducible show wpAny _ _ (call (Value.builtin "list.append") _) _ _ _); with_reducible (k_here; k_dflt (apply lst_append; (case F => k_asm); (case N => k_asm); (case U => walk_at "M up"); (case ho => assumption); (case hz => omega); k_whole); intro _ _ _; intro zN; (try dsimp only at zN); revert zN; intro _; intro _; (try k_sweep))) | ((with_reducible show wpAny _ _ (exec (Stmt.For _ _ _ _ _) _) _ _ _); with_reducible (k_here; k_dflt (refine' for_go (by k_asm) ?_); k_whole)) | ((with_reducible show wpAny _ _ (exec (Stmt.For _ _ _ _ _) _) _ _ _); with_reducible (k_here; k_dflt (refine' for_go (by k_asm) ?_); k_whole)) | ((with_reducible show wpAny _ _ (call (Value.ref _) _) _ _ _); (first | with_reducible (k_here; k_dflt (refine' made_spec (by (first | assumption | exact Room.h (by assumption) | exact Room.u_lt (by assumption) | exact Room.less (by assumption) (by decide))) (by k_asm) (by k_asm) (by k_asm) (by k_asm) (by k_mem) (by assumption) (by (first | assumption | (refine' all_mono ?_ (by assumption); (walk_at "M sub")))) (by assumption) ?_; k_whole); intro _ _ _ _ _ _ _ _ _ _ _ _ _ _ _ _ _ _ _ _; (try k_sweep)) | with_reducible (k_here; k_dflt (refine' look_body (by (first | assumption | exact Room.h (by assumption) | exact Room.u_lt (by assumption) | exact Room.less (by assumption) (by decide))) (by k_asm) (by k_asm) (by k_asm) (by k_asm) (by walk_at "M rel") (by k_mem) (by assumption) (by walk_at "M sub") (by walk_at "M rel") (by assumption) (by assumption) ?_; k_whole); intro _ _ _ _ _ _ _ _ _ _ _; (try k_sweep)) | with_reducible (k_here; k_dflt (apply draw_spec; (case hR => (first | assumption | exact Room.h (by assumption) | exact Room.u_lt (by assumption) | exact Room.less (by assumption) (by decide))); (case F => k_asm); (case X => k_asm); (case N => k_asm); (case T => k_asm); (case U => walk_at "M up"); (case ho => assumption); (case hz => first | assumption | omega); (case hk => first | assumption | omega); (case hk1 => first | assumption | omega); (case hm0 => first | decide | omega); (case hm1 => first | decide | omega); (case hU => intro o9; k_mem); (case hlo => assumption); (case hi => assumption); k_whole); intro _ _ _ _ _ _ _ _ _; intro zN; (try dsimp only at zN); revert zN; intro _; intro _; (try k_sweep)))) | ((with_reducible show wpAny _ _ (binaryOp Operator.Pow _ _) _ _ _); with_reducible (k_here; k_dflt (refine' pow2 (by omega) (by omega) ?_; k_whole); intro _ _ _ _ _ _)) | walk1 | (dsimp only; walk1) | (dsimp only; k_unfold; try dsimp only)))
      (refine' back_ (by k_asm) (by k_asm) ?_); intro kF kN
      exact hQ bo2 _ t2 ko2 ro2 Xs new2 _ _ hXin kF (News.sub kN (Sub.apps (Sub.cons (Sub.apps sfin)))) abn lb2 (by omega) (by omega) (by rw [hes2]; exact hK2) (by rw [hes2]; exact hW2)

end

section
variable (prog : Program) (w : World)
def DbOk (imm led : Led) (now : Int) (x y : Value) : Prop := ∃ d kp rp ro ko es, x = .ref d ∧ y = .ref kp ∧ DbAt led d rp ∧ (rp, ro) ∈ led ∧ (kp, ko) ∈ led ∧ Known prog w imm ko es ∧ Rows prog w imm ro es ∧ InvE now es ∧ 1 < rp ∧ 1 < kp
end
theorem All2.get2 {α β : Type} {R : α → β → Prop} {as : List α} {bs : List β} (x : All2 R as bs) {i : Nat} {a : α} {b : β} (h : as[i]? = some a) (k : bs[i]? = some b) : R a b := by
  obtain ⟨b', h1, h2⟩ := x.get' h
  rw [k] at h1
  obtain rfl := Option.some.inj h1
  exact h2
theorem ints_at {vs : List Value} {ns : List Int} (h : IntsAre vs ns) : ∀ {i : Nat} {v : Value}, vs[i]? = some v → ∃ n t, v = .int n t ∧ ns[i]? = some n := by
  induction h with
  | nil => intro i v h; simp at h
  | cons n t _ ih =>
    intro i v h
    cases i with
    | zero => simp at h; subst h; exact ⟨_, _, rfl, rfl⟩
    | succ i => simpa using ih (by simpa using h)
theorem rows_dat {led : Led} {vs : List Value} {rs : List Row} (x : All2 (RowV led) vs rs) : All2 (DatAt led) vs (rs.map rowD) := by
  induction x with
  | nil => exact .nil
  | cons r _ ih => obtain ⟨a, rfl, h⟩ := r; exact .cons h.dat ih
theorem rows_eqv (rs : List Row) : PyData.eqv (.list (rs.map rowD)) (.list (rs.map rowD)) = true := PySem.SeqAt.eqv_refl _ (rows_can rs)
theorem all2_fun {es : List Ent} {now : Int} {ns : List Int} {rs : List Row} (x : All2 (fun r n => ∃ e, findE es n = some e ∧ r = agedE now e) rs ns) : ∀ {rs'}, All2 (fun r n => ∃ e, findE es n = some e ∧ r = agedE now e) rs' ns → rs = rs' := by
  induction x with
  | nil => intro rs' h; cases h; rfl
  | cons r _ ih =>
    intro rs' h
    cases h with
    | cons r' h =>
      obtain ⟨e, h1, rfl⟩ := r
      obtain ⟨e', h2, rfl⟩ := r'
      rw [h1] at h2
      obtain rfl := Option.some.inj h2
      rw [ih h]
theorem all_rows_one {es : List Ent} {now : Int} {rs rs' : List Row} (h : AllRows es now rs) (h' : AllRows es now rs') : rs = rs' := by
  obtain ⟨ns, p, o, x⟩ := h
  obtain ⟨ns', p', o', x'⟩ := h'
  have : ns = ns' := sorted_one o o' (p.trans p'.symm)
  subst this
  exact all2_fun x x'
theorem aged_min (e : Ent) (now : Int) {a n u v : Int} {f : Bool} (ha : a = e.row.age + now - e.since) (hn : n = e.row.name) (hu : u = e.row.num) (hv : v = e.row.tot) (hf : f = e.row.fin) : (⟨if a < 3600 then a else 3600, n, u, v, f⟩ : Row) = agedE now e := by
  subst ha hn hu hv hf
  unfold agedE
  congr 1
  split <;> omega
theorem room_top {env : Env} : Room (callerA.deeper env) 30 := by
  refine ⟨?_, ?_, rfl⟩
  · show callerA.depth + 1 + 30 < recursionLimit; decide +kernel
  · show callerA.units + 3 + 10 * 30 < cLine; decide +kernel
def NeAt (prog : Program) (w : World) (A : Around) (x y : Value) (Q E : Value → Shared → Prop) (s : Shared) : Prop := wpAny (model prog w) A (compareOp .NotEq x y) Q E s
theorem ne_stop {prog : Program} {w : World} {A : Around} {x y : Value} {Q E : Value → Shared → Prop} {s : Shared} (h : NeAt prog w A x y Q E s) : wpAny (model prog w) A (compareOp .NotEq x y) Q E s := h
theorem take_snoc_at {α : Type} {l : List α} {i : Nat} {a : α} (h : l[i]? = some a) : l.take (i + 1) = l.take i ++ [a] := by rw [List.take_add_one, h]; rfl

section
variable {prog : Program} {w : World} {A : Around} {s : Shared} {B : Heap} {L : Addr} {m mg mb : Str → Option Value} {led : List (Addr × Obj)} {p : Program} {loose : List Str} {mean : ExcName → Option Value} {Q E : Value → Shared → Prop} {rn : Nat}

theorem all_right_spec {imm : Led} {lb lk : Addr} {lbo lko : Obj} {xs ys : List Value} {now : Int} {tn : Tok}
    (hR : Room A (rn + 16)) (F : Fr B L s.heap m) (X : (hd.heap_39 w.params).In B) (N : News B L s.heap (led)) (T : Top p loose mean mg mb B)
    (hb : (lb, lbo) ∈ led) (hlb : LstO lbo xs) (hk : (lk, lko) ∈ led) (hlk : LstO lko ys) (ha : All2 (DbOk prog w imm led now) xs ys) (hs : Sub imm led)
    (hQ : ∀ h' tk', Fr B L h' m → News B L h' led → Q (.bool true) { s with heap := h', toks := tk' }) :
    wpAny (model prog w) A (call (.ref 225) [.ref lb, .ref lk, .int now tn]) Q E s := by
  skip
  refine callFn [("bases", .ref lb), ("known", .ref lk), ("now", .int now tn)] F X N T (by k_is) (by k_is) (by (first | assumption | exact Room.h (by assumption) | exact Room.u_lt (by assumption) | exact Room.less (by assumption) (by decide))) (by first | exact BindsTo.of_eq rfl | exact binds_K (by k_in) rfl (by k_is) rfl rfl rfl) (locs rfl) ?_ rfl rfl rfl (by decide)
  intro g' L' h' F' N' X' T' hz' hR'
  clear F N X T hR
  k_fold
  (repeat' (first | (k_unfold; (try dsimp only)) | ((with_reducible show wpAny _ _ (call (Value.builtin "min") _) _ _ _); with_reducible (k_here; refine' min_two_N (by (first | assumption | exact Room.h (by assumption) | exact Room.u_lt (by assumption) | exact Room.less (by assumption) (by decide))) (by k_asm) (by k_asm) ?_; intro _ _ _ _; try k_sweep)) | ((with_reducible show wpAny _ _ (subscriptTail _ _ (Value.ref _) _) _ _ _); with_reducible (k_here; (with_reducible show wpAny _ _ (subscriptTail _ _ (Value.ref _) (Value.int _ _)) _ _ _); k_dflt (apply known_tail2; (case N => k_asm); (case hm => k_mem); (case R => assumption); (case hs => walk_at "M sub"); (case he => assumption); (case hu => with_unfolding_all rfl); k_whole); intro _ _ _ _ _ _ _ _ _ _)) | ((with_reducible show wpAny _ _ (assign (Expr.Tuple _ _ _) _ (Value.ref _)) _ _ _); with_reducible (k_here; (with_reducible show wpAny _ _ (assign (Expr.Tuple _ _ _) _ (Value.ref _)) _ _ _); k_dflt (refine' unpackN_ (by k_asm) (by k_asm) (by first | assumption | (refine News.isTup (by k_asm) (by k_mem))) (by (first | assumption | exact Room.h (by assumption) | exact Room.u_lt (by assumption) | exact Room.less (by assumption) (by decide))) (by exact rfl) (by exact rfl) ?_); intro _ _ _; (try k_sweep))) | ((with_reducible show wpAny _ _ (compareOp CmpOp.NotEq (Value.ref _) (Value.ref _)) _ _ _); with_reducible (k_here; k_dflt (refine' ne_stop ?_); k_whole)) | ((with_reducible show wpAny _ _ (eval (Expr.Name _ _) _) _ _ _); with_reducible (k_here; k_dflt (apply nameX_L; (case F => k_asm); (case hk => rfl); (case hx => rfl); (case hv => walk_at "M look"); (case hd => decide); k_whole))) | ((with_reducible show wpAny _ _ (getMethod (Value.ref _) _ _) _ _ _); with_reducible (k_here; (with_reducible show wpAny _ _ (getMethod (Value.ref _) (PySem.Str.ofString "append") _) _ _ _); k_dflt (refine' lst_method (by k_asm) (by k_mem) (by assumption) PySem.F.slot_list_append PySem.F.type_list_append ?_))) | ((with_reducible show wpAny _ _ (call (Value.builtin "list.append") _) _ _ _); with_reducible (k_here; k_dflt (apply lst_append; (case F => k_asm); (case N => k_asm); (case U => walk_at "M up"); (case ho => assumption); (case hz => omega); k_whole); intro _ _ _; intro zN; (try dsimp only at zN); revert zN; intro _; intro _; (try k_sweep))) | ((with_reducible show wpAny _ _ (exec (Stmt.For _ _ _ _ _) _) _ _ _); with_reducible (k_here; k_dflt (refine' for_go (by k_asm) ?_); k_whole)) | ((with_reducible show wpAny _ _ (exec (Stmt.For _ _ _ _ _) _) _ _ _); with_reducible (k_here; k_dflt (refine' for_go (by k_asm) ?_); k_whole)) | ((with_reducible show wpAny _ _ (call (Value.builtin "sorted") _) _ _ _); with_reducible (k_here; k_dflt (refine' sorted_known (by (first | assumption | exact Room.h (by assumption) | exact Room.u_lt (by assumption) | exact Room.less (by assumption) (by decide))) (by k_asm) (by k_asm) (by k_mem) (by assumption) (by assumption) (by assumption) ?_; k_whole); intro _ _ _ _ _ _ _ _ _ _ _ _; (try k_sweep))) | ((with_reducible show wpAny _ _ (call (Value.ref _) _) _ _ _); (first | with_reducible (k_here; k_dflt (refine' all_rows_spec (by (first | assumption | exact Room.h (by assumption) | exact Room.u_lt (by assumption) | exact Room.less (by assumption) (by decide))) (by k_asm) (by k_asm) (by k_asm) (by k_asm) (by walk_at "M rel") (by k_mem) (by assumption) (by walk_at "M sub") (by assumption) (by assumption) ?_; k_whole); intro _ _ _ _ _ _ _ _ _ _ _ _ _; (try k_sweep)) | with_reducible (k_here; k_dflt (refine' row_spec (by (first | assumption | exact Room.h (by assumption) | exact Room.u_lt (by assumption) | exact Room.less (by assumption) (by decide))) (by k_asm) (by k_asm) (by k_asm) (by k_asm) (by assumption) (by walk_at "M sub") ?_; k_whole); intro _ _ _ _ _ _ _ _; (try k_sweep)))) | walk1 | (dsimp only; walk1) | (dsimp only; k_unfold; try dsimp only)))
  rename Fr _ _ _ _ => FF
  rename News _ _ _ _ => NN
  refine call_stop (for_zip (fun i m nn => led = nn ∧ m (Str.ofString "now") = some (.int now tn)) hR'.h FF NN hb hlb hk hlk ha.length ?_ ⟨rfl, rfl⟩ ?_ ?_)
  · rintro i m nn ⟨rfl, _⟩
    exact ⟨hb, hk⟩
  · rintro i x y T m1 nn h3 tk3 its hx hy hT ⟨rfl, q1⟩ F3 N3 ap zTQ zhT
    clear FF NN
    obtain ⟨d, kp, rp, ro, ko, es, rfl, rfl, hdb, hrm, hkm, hK, hW, hI, p1, p2⟩ := ha.get2 hx hy
    have hz := hI.len
    have hdbc := hdb
    obtain ⟨dx, hsd, td, nd, d1, d2⟩ := hdbc
    (repeat' (first | (k_unfold; (try dsimp only)) | ((with_reducible show wpAny _ _ (call (Value.builtin "min") _) _ _ _); with_reducible (k_here; refine' min_two_N (by (first | assumption | exact Room.h (by assumption) | exact Room.u_lt (by assumption) | exact Room.less (by assumption) (by decide))) (by k_asm) (by k_asm) ?_; intro _ _ _ _; try k_sweep)) | ((with_reducible show wpAny _ _ (subscriptTail _ _ (Value.ref _) _) _ _ _); with_reducible (k_here; (with_reducible show wpAny _ _ (subscriptTail _ _ (Value.ref _) (Value.int _ _)) _ _ _); k_dflt (apply known_tail2; (case N => k_asm); (case hm => k_mem); (case R => assumption); (case hs => walk_at "M sub"); (case he => assumption); (case hu => with_unfolding_all rfl); k_whole); intro _ _ _ _ _ _ _ _ _ _)) | ((with_reducible show wpAny _ _ (assign (Expr.Tuple _ _ _) _ (Value.ref _)) _ _ _); with_reducible (k_here; (with_reducible show wpAny _ _ (assign (Expr.Tuple _ _ _) _ (Value.ref _)) _ _ _); k_dflt (refine' unpackN_ (by k_asm) (by k_asm) (by first | assumption | (refine News.isTup (by k_asm) (by k_mem))) (by (first | assumption | exact Room.h (by assumption) | exact Room.u_lt (by assumption) | exact Room.less (by assumption) (by decide))) (by exact rfl) (by exact rfl) ?_); intro _ _ _; (try k_sweep))) | ((with_reducible show wpAny _ _ (compareOp CmpOp.NotEq (Value.ref _) (Value.ref _)) _ _ _); with_reducible (k_here; k_dflt (refine' ne_stop ?_); k_whole)) | ((with_reducible show wpAny _ _ (eval (Expr.Name _ _) _) _ _ _); with_reducible (k_here; k_dflt (apply nameX_L; (case F => k_asm); (case hk => rfl); (case hx => rfl); (case hv => walk_at "M look"); (case hd => decide); k_whole))) | ((with_reducible show wpAny _ _ (getMethod (Value.ref _) _ _) _ _ _); with_reducible (k_here; (with_reducible show wpAny _ _ (getMethod (Value.ref _) (PySem.Str.ofString "append") _) _ _ _); k_dflt (refine' lst_method (by k_asm) (by k_mem) (by assumption) PySem.F.slot_list_append PySem.F.type_list_append ?_))) | ((with_reducible show wpAny _ _ (call (Value.builtin "list.append") _) _ _ _); with_reducible (k_here; k_dflt (apply lst_append; (case F => k_asm); (case N => k_asm); (case U => walk_at "M up"); (case ho => assumption); (case hz => omega); k_whole); intro _ _ _; intro zN; (try dsimp only at zN); revert zN; intro _; intro _; (try k_sweep))) | ((with_reducible show wpAny _ _ (exec (Stmt.For _ _ _ _ _) _) _ _ _); with_reducible (k_here; k_dflt (refine' for_go (by k_asm) ?_); k_whole)) | ((with_reducible show wpAny _ _ (exec (Stmt.For _ _ _ _ _) _) _ _ _); with_reducible (k_here; k_dflt (refine' for_go (by k_asm) ?_); k_whole)) | ((with_reducible show wpAny _ _ (call (Value.builtin "sorted") _) _ _ _); with_reducible (k_here; k_dflt (refine' sorted_known (by (first | assumption | exact Room.h (by assumption) | exact Room.u_lt (by assumption) | exact Room.less (by assumption) (by decide))) (by k_asm) (by k_asm) (by k_mem) (by assumption) (by assumption) (by assumption) ?_; k_whole); intro _ _ _ _ _ _ _ _ _ _ _ _; (try k_sweep))) | ((with_reducible show wpAny _ _ (call (Value.ref _) _) _ _ _); (first | with_reducible (k_here; k_dflt (refine' all_rows_spec (by (first | assumption | exact Room.h (by assumption) | exact Room.u_lt (by assumption) | exact Room.less (by assumption) (by decide))) (by k_asm) (by k_asm) (by k_asm) (by k_asm) (by walk_at "M rel") (by k_mem) (by assumption) (by walk_at "M sub") (by assumption) (by assumption) ?_; k_whole); intro _ _ _ _ _ _ _ _ _ _ _ _ _; (try k_sweep)) | with_reducible (k_here; k_dflt (refine' row_spec (by (first | assumption | exact Room.h (by assumption) | exact Room.u_lt (by assumption) | exact Room.less (by assumption) (by decide))) (by k_asm) (by k_asm) (by k_asm) (by k_asm) (by assumption) (by walk_at "M sub") ?_; k_whole); intro _ _ _ _ _ _ _ _; (try k_sweep)))) | walk1 | (dsimp only; walk1) | (dsimp only; k_unfold; try dsimp only)))
    rename_i R _ lR _ Bl _ _ c out ns FF NN0 lB hki pm pw
    have hnl : ns.length ≤ 3 := by rw [pm.length_eq]; simpa [names] using hz
    have lR' : ∀ p ∈ its ++ led, p.1 < R := lR
    have NN : News g' L' _ ((R, listOf #[] 0) :: ([] ++ ((Bl, listOf out.toArray c) :: (its ++ led)))) := News.sub NN0 (by walk_at "M sub")
    clear NN0
    have oR : Off R (its ++ led) := fun p hp => Nat.ne_of_lt (lR' p hp)
    have nRB : Bl ≠ R := Nat.ne_of_gt (lB (R, listOf #[] 0) (List.Mem.head _))
    have oR2 : Off R ((Bl, listOf out.toArray c) :: (its ++ led)) := Off.cons' nRB oR
    refine for_list (fun i m nn => ∃ new ro2 rvs rs, nn = (R, ro2) :: (new ++ ((Bl, listOf out.toArray c) :: (its ++ led))) ∧ Above ((R, listOf #[] 0) :: (Bl, listOf out.toArray c) :: (its ++ led)) new ∧ LstX ro2 rvs ∧ All2 (RowV (new ++ imm)) rvs rs ∧
      All2 (fun r n => ∃ e, findE es n = some e ∧ r = agedE now e) rs (ns.take i) ∧ rvs.length ≤ i ∧ m (Str.ofString "lot") = some (.ref kp) ∧ m (Str.ofString "now") = some (.int now tn) ∧ m (Str.ofString "base") = some (.ref d) ∧ m (Str.ofString "rows") = some (.ref R)) hR'.h FF NN
      (List.Mem.tail _ (List.mem_append_right _ (List.Mem.head _))) LstO.of ?_ ⟨[], _, [], [], rfl, Above.nil, ⟨0, rfl⟩, .nil, .nil, by simp, rfl, ?_, rfl, rfl⟩ ?_ ?_
    · rintro i m nn ⟨new, ro2, rvs, rs, rfl, _⟩
      exact List.Mem.tail _ (List.mem_append_right _ (List.Mem.head _))
    · walk_at "M look"
    · rintro i v m2 nn h5 tk5 its2 hv ⟨new, ro2, rvs, rs, rfl, ab, lro, a2, a3, rl, q2, q3, q4, q5⟩ F5 N5 ap2 zTQ zhT
      clear FF NN
      obtain ⟨n, t, rfl, hni⟩ := ints_at hki hv
      have hi3 : i < ns.length := (List.getElem?_eq_some_iff.mp hni).1
      obtain ⟨e, he⟩ := findE_in (pm.mem_iff.mp (List.mem_of_getElem? hni))
      have hen := findE_name he
      (repeat' (first | (k_unfold; (try dsimp only)) | ((with_reducible show wpAny _ _ (call (Value.builtin "min") _) _ _ _); with_reducible (k_here; refine' min_two_N (by (first | assumption | exact Room.h (by assumption) | exact Room.u_lt (by assumption) | exact Room.less (by assumption) (by decide))) (by k_asm) (by k_asm) ?_; intro _ _ _ _; try k_sweep)) | ((with_reducible show wpAny _ _ (subscriptTail _ _ (Value.ref _) _) _ _ _); with_reducible (k_here; (with_reducible show wpAny _ _ (subscriptTail _ _ (Value.ref _) (Value.int _ _)) _ _ _); k_dflt (apply known_tail2; (case N => k_asm); (case hm => k_mem); (case R => assumption); (case hs => walk_at "M sub"); (case he => assumption); (case hu => with_unfolding_all rfl); k_whole); intro _ _ _ _ _ _ _ _ _ _)) | ((with_reducible show wpAny _ _ (assign (Expr.Tuple _ _ _) _ (Value.ref _)) _ _ _); with_reducible (k_here; (with_reducible show wpAny _ _ (assign (Expr.Tuple _ _ _) _ (Value.ref _)) _ _ _); k_dflt (refine' unpackN_ (by k_asm) (by k_asm) (by first | assumption | (refine News.isTup (by k_asm) (by k_mem))) (by (first | assumption | exact Room.h (by assumption) | exact Room.u_lt (by assumption) | exact Room.less (by assumption) (by decide))) (by exact rfl) (by exact rfl) ?_); intro _ _ _; (try k_sweep))) | ((with_reducible show wpAny _ _ (compareOp CmpOp.NotEq (Value.ref _) (Value.ref _)) _ _ _); with_reducible (k_here; k_dflt (refine' ne_stop ?_); k_whole)) | ((with_reducible show wpAny _ _ (eval (Expr.Name _ _) _) _ _ _); with_reducible (k_here; k_dflt (apply nameX_L; (case F => k_asm); (case hk => rfl); (case hx => rfl); (case hv => walk_at "M look"); (case hd => decide); k_whole))) | ((with_reducible show wpAny _ _ (getMethod (Value.ref _) _ _) _ _ _); with_reducible (k_here; (with_reducible show wpAny _ _ (getMethod (Value.ref _) (PySem.Str.ofString "append") _) _ _ _); k_dflt (refine' lst_method (by k_asm) (by k_mem) (by assumption) PySem.F.slot_list_append PySem.F.type_list_append ?_))) | ((with_reducible show wpAny _ _ (call (Value.builtin "list.append") _) _ _ _); with_reducible (k_here; k_dflt (apply lst_append; (case F => k_asm); (case N => k_asm); (case U => walk_at "M up"); (case ho => assumption); (case hz => omega); k_whole); intro _ _ _; intro zN; (try dsimp only at zN); revert zN; intro _; intro _; (try k_sweep))) | ((with_reducible show wpAny _ _ (exec (Stmt.For _ _ _ _ _) _) _ _ _); with_reducible (k_here; k_dflt (refine' for_go (by k_asm) ?_); k_whole)) | ((with_reducible show wpAny _ _ (exec (Stmt.For _ _ _ _ _) _) _ _ _); with_reducible (k_here; k_dflt (refine' for_go (by k_asm) ?_); k_whole)) | ((with_reducible show wpAny _ _ (call (Value.builtin "sorted") _) _ _ _); with_reducible (k_here; k_dflt (refine' sorted_known (by (first | assumption | exact Room.h (by assumption) | exact Room.u_lt (by assumption) | exact Room.less (by assumption) (by decide))) (by k_asm) (by k_asm) (by k_mem) (by assumption) (by assumption) (by assumption) ?_; k_whole); intro _ _ _ _ _ _ _ _ _ _ _ _; (try k_sweep))) | ((with_reducible show wpAny _ _ (call (Value.ref _) _) _ _ _); (first | with_reducible (k_here; k_dflt (refine' all_rows_spec (by (first | assumption | exact Room.h (by assumption) | exact Room.u_lt (by assumption) | exact Room.less (by assumption) (by decide))) (by k_asm) (by k_asm) (by k_asm) (by k_asm) (by walk_at "M rel") (by k_mem) (by assumption) (by walk_at "M sub") (by assumption) (by assumption) ?_; k_whole); intro _ _ _ _ _ _ _ _ _ _ _ _ _; (try k_sweep)) | with_reducible (k_here; k_dflt (refine' row_spec (by (first | assumption | exact Room.h (by assumption) | exact Room.u_lt (by assumption) | exact Room.less (by assumption) (by decide))) (by k_asm) (by k_asm) (by k_asm) (by k_asm) (by assumption) (by walk_at "M sub") ?_; k_whole); intro _ _ _ _ _ _ _ _; (try k_sweep)))) | walk1 | (dsimp only; walk1) | (dsimp only; k_unfold; try dsimp only)))
      rename Fr _ _ _ _ => F6
      rename News _ _ _ _ => N6
      refine nameB (show RowAt _ _ _ by assumption) fun nl kk e1 e2 => ?_
      subst e1 e2
      rename RowAt _ _ _ => RB
      refine nameL (show LstX _ (rvs ++ _) by assumption) fun o2 e3 => ?_
      subst e3
      rename LstX _ (rvs ++ _) => LL
      rw [aged_min e now rfl hen.symm rfl rfl rfl] at RB
      refine zhT _ _ ?_; refine Turned.next ((R, o2) :: (nl ++ (new ++ ((Bl, listOf out.toArray c) :: (its ++ led))))) F6 N6 (by walk_at "M sub") (by walk_at "M apart") ⟨nl ++ new, o2, rvs ++ [.ref kk], rs ++ [agedE now e], by simp, by walk_at "M above", LL,
        All2.snoc (a2.mono fun _ _ x => x.mono (by walk_at "M sub")) ⟨kk, rfl, RB.mono (by walk_at "M sub")⟩, by rw [take_snoc_at hni]; exact a3.snoc ⟨e, he, rfl⟩, by simp; omega, ?_, ?_, ?_, ?_⟩
      all_goals (walk_at "M look")
    · rintro m3 n3 h6 tk6 ⟨new, ro2, rvs, rs, rfl, ab, lro, a2, a3, rl, q2, q3, q4, q5⟩ F6 N6
      clear FF NN
      rw [hki.length, List.take_length] at a3
      (repeat' (first | (k_unfold; (try dsimp only)) | ((with_reducible show wpAny _ _ (call (Value.builtin "min") _) _ _ _); with_reducible (k_here; refine' min_two_N (by (first | assumption | exact Room.h (by assumption) | exact Room.u_lt (by assumption) | exact Room.less (by assumption) (by decide))) (by k_asm) (by k_asm) ?_; intro _ _ _ _; try k_sweep)) | ((with_reducible show wpAny _ _ (subscriptTail _ _ (Value.ref _) _) _ _ _); with_reducible (k_here; (with_reducible show wpAny _ _ (subscriptTail _ _ (Value.ref _) (Value.int _ _)) _ _ _); k_dflt (apply known_tail2; (case N => k_asm); (case hm => k_mem); (case R => assumption); (case hs => walk_at "M sub"); (case he => assumption); (case hu => with_unfolding_all rfl); k_whole); intro _ _ _ _ _ _ _ _ _ _)) | ((with_reducible show wpAny _ _ (assign (Expr.Tuple _ _ _) _ (Value.ref _)) _ _ _); with_reducible (k_here; (with_reducible show wpAny _ _ (assign (Expr.Tuple _ _ _) _ (Value.ref _)) _ _ _); k_dflt (refine' unpackN_ (by k_asm) (by k_asm) (by first | assumption | (refine News.isTup (by k_asm) (by k_mem))) (by (first | assumption | exact Room.h (by assumption) | exact Room.u_lt (by assumption) | exact Room.less (by assumption) (by decide))) (by exact rfl) (by exact rfl) ?_); intro _ _ _; (try k_sweep))) | ((with_reducible show wpAny _ _ (compareOp CmpOp.NotEq (Value.ref _) (Value.ref _)) _ _ _); with_reducible (k_here; k_dflt (refine' ne_stop ?_); k_whole)) | ((with_reducible show wpAny _ _ (eval (Expr.Name _ _) _) _ _ _); with_reducible (k_here; k_dflt (apply nameX_L; (case F => k_asm); (case hk => rfl); (case hx => rfl); (case hv => walk_at "M look"); (case hd => decide); k_whole))) | ((with_reducible show wpAny _ _ (getMethod (Value.ref _) _ _) _ _ _); with_reducible (k_here; (with_reducible show wpAny _ _ (getMethod (Value.ref _) (PySem.Str.ofString "append") _) _ _ _); k_dflt (refine' lst_method (by k_asm) (by k_mem) (by assumption) PySem.F.slot_list_append PySem.F.type_list_append ?_))) | ((with_reducible show wpAny _ _ (call (Value.builtin "list.append") _) _ _ _); with_reducible (k_here; k_dflt (apply lst_append; (case F => k_asm); (case N => k_asm); (case U => walk_at "M up"); (case ho => assumption); (case hz => omega); k_whole); intro _ _ _; intro zN; (try dsimp only at zN); revert zN; intro _; intro _; (try k_sweep))) | ((with_reducible show wpAny _ _ (exec (Stmt.For _ _ _ _ _) _) _ _ _); with_reducible (k_here; k_dflt (refine' for_go (by k_asm) ?_); k_whole)) | ((with_reducible show wpAny _ _ (exec (Stmt.For _ _ _ _ _) _) _ _ _); with_reducible (k_here; k_dflt (refine' for_go (by k_asm) ?_); k_whole)) | ((with_reducible show wpAny _ _ (call (Value.builtin "sorted") _) _ _ _); with_reducible (k_here; k_dflt (refine' sorted_known (by (first | assumption | exact Room.h (by assumption) | exact Room.u_lt (by assumption) | exact Room.less (by assumption) (by decide))) (by k_asm) (by k_asm) (by k_mem) (by assumption) (by assumption) (by assumption) ?_; k_whole); intro _ _ _ _ _ _ _ _ _ _ _ _; (try k_sweep))) | ((with_reducible show wpAny _ _ (call (Value.ref _) _) _ _ _); (first | with_reducible (k_here; k_dflt (refine' all_rows_spec (by (first | assumption | exact Room.h (by assumption) | exact Room.u_lt (by assumption) | exact Room.less (by assumption) (by decide))) (by k_asm) (by k_asm) (by k_asm) (by k_asm) (by walk_at "M rel") (by k_mem) (by assumption) (by walk_at "M sub") (by assumption) (by assumption) ?_; k_whole); intro _ _ _ _ _ _ _ _ _ _ _ _ _; (try k_sweep)) | with_reducible (k_here; k_dflt (refine' row_spec (by (first | assumption | exact Room.h (by assumption) | exact Room.u_lt (by assumption) | exact Room.less (by assumption) (by decide))) (by k_asm) (by k_asm) (by k_asm) (by k_asm) (by assumption) (by walk_at "M sub") ?_; k_whole); intro _ _ _ _ _ _ _ _; (try k_sweep)))) | walk1 | (dsimp only; walk1) | (dsimp only; k_unfold; try dsimp only)))
      rename_i D c2 new2 vs2 rs2 _ _ F7 N7 _ _ a4 ar
      have hrs : rs = rs2 := all_rows_one ⟨ns, pm, pw, a3⟩ ar
      subst hrs
      unfold NeAt
      refine ne_dat hR' N7 (DatAt.lst (List.Mem.head _) (by simpa using rows_dat (all_mono (by walk_at "M sub") a4))) (DatAt.lstX (by k_mem) lro (rows_dat (all_mono (by walk_at "M sub") a2))) (rows_can rs) (rows_can rs) (rows_depth rs) (rows_eqv rs) ?_
      (repeat' (first | (k_unfold; (try dsimp only)) | ((with_reducible show wpAny _ _ (call (Value.builtin "min") _) _ _ _); with_reducible (k_here; refine' min_two_N (by (first | assumption | exact Room.h (by assumption) | exact Room.u_lt (by assumption) | exact Room.less (by assumption) (by decide))) (by k_asm) (by k_asm) ?_; intro _ _ _ _; try k_sweep)) | ((with_reducible show wpAny _ _ (subscriptTail _ _ (Value.ref _) _) _ _ _); with_reducible (k_here; (with_reducible show wpAny _ _ (subscriptTail _ _ (Value.ref _) (Value.int _ _)) _ _ _); k_dflt (apply known_tail2; (case N => k_asm); (case hm => k_mem); (case R => assumption); (case hs => walk_at "M sub"); (case he => assumption); (case hu => with_unfolding_all rfl); k_whole); intro _ _ _ _ _ _ _ _ _ _)) | ((with_reducible show wpAny _ _ (assign (Expr.Tuple _ _ _) _ (Value.ref _)) _ _ _); with_reducible (k_here; (with_reducible show wpAny _ _ (assign (Expr.Tuple _ _ _) _ (Value.ref _)) _ _ _); k_dflt (refine' unpackN_ (by k_asm) (by k_asm) (by first | assumption | (refine News.isTup (by k_asm) (by k_mem))) (by (first | assumption | exact Room.h (by assumption) | exact Room.u_lt (by assumption) | exact Room.less (by assumption) (by decide))) (by exact rfl) (by exact rfl) ?_); intro _ _ _; (try k_sweep))) | ((with_reducible show wpAny _ _ (compareOp CmpOp.NotEq (Value.ref _) (Value.ref _)) _ _ _); with_reducible (k_here; k_dflt (refine' ne_stop ?_); k_whole)) | ((with_reducible show wpAny _ _ (eval (Expr.Name _ _) _) _ _ _); with_reducible (k_here; k_dflt (apply nameX_L; (case F => k_asm); (case hk => rfl); (case hx => rfl); (case hv => walk_at "M look"); (case hd => decide); k_whole))) | ((with_reducible show wpAny _ _ (getMethod (Value.ref _) _ _) _ _ _); with_reducible (k_here; (with_reducible show wpAny _ _ (getMethod (Value.ref _) (PySem.Str.ofString "append") _) _ _ _); k_dflt (refine' lst_method (by k_asm) (by k_mem) (by assumption) PySem.F.slot_list_append PySem.F.type_list_append ?_))) | ((with_reducible show wpAny _ _ (call (Value.builtin "list.append") _) _ _ _); with_reducible (k_here; k_dflt (apply lst_append; (case F => k_asm); (case N => k_asm); (case U => walk_at "M up"); (case ho => assumption); (case hz => omega); k_whole); intro _ _ _; intro zN; (try dsimp only at zN); revert zN; intro _; intro _; (try k_sweep))) | ((with_reducible show wpAny _ _ (exec (Stmt.For _ _ _ _ _) _) _ _ _); with_reducible (k_here; k_dflt (refine' for_go (by k_asm) ?_); k_whole)) | ((with_reducible show wpAny _ _ (exec (Stmt.For _ _ _ _ _) _) _ _ _); with_reducible (k_here; k_dflt (refine' for_go (by k_asm) ?_); k_whole)) | ((with_reducible show wpAny _ _ (call (Value.builtin "sorted") _) _ _ _); with_reducible (k_here; k_dflt (refine' sorted_known (by (first | assumption | exact Room.h (by assumption) | exact Room.u_lt (by assumption) | exact Room.less (by assumption) (by decide))) (by k_asm) (by k_asm) (by k_mem) (by assumption) (by assumption) (by assumption) ?_; k_whole); intro _ _ _ _ _ _ _ _ _ _ _ _; (try k_sweep))) | ((with_reducible show wpAny _ _ (call (Value.ref _) _) _ _ _); (first | with_reducible (k_here; k_dflt (refine' all_rows_spec (by (first | assumption | exact Room.h (by assumption) | exact Room.u_lt (by assumption) | exact Room.less (by assumption) (by decide))) (by k_asm) (by k_asm) (by k_asm) (by k_asm) (by walk_at "M rel") (by k_mem) (by assumption) (by walk_at "M sub") (by assumption) (by assumption) ?_; k_whole); intro _ _ _ _ _ _ _ _ _ _ _ _ _; (try k_sweep)) | with_reducible (k_here; k_dflt (refine' row_spec (by (first | assumption | exact Room.h (by assumption) | exact Room.u_lt (by assumption) | exact Room.less (by assumption) (by decide))) (by k_asm) (by k_asm) (by k_asm) (by k_asm) (by assumption) (by walk_at "M sub") ?_; k_whole); intro _ _ _ _ _ _ _ _; (try k_sweep)))) | walk1 | (dsimp only; walk1) | (dsimp only; k_unfold; try dsimp only)))
      rename Fr _ _ _ _ => F8
      rename News _ _ _ _ => N8
      refine zhT _ _ ?_; refine Turned.next led F8 N8 (by walk_at "M sub") ap ⟨rfl, ?_⟩
      walk_at "M look"
  · rintro m2 n2 h2 tk2 ⟨rfl, q1⟩ F2 N2
    clear FF NN
    (repeat' (first | (k_unfold; (try dsimp only)) | ((with_reducible show wpAny _ _ (call (Value.builtin "min") _) _ _ _); with_reducible (k_here; refine' min_two_N (by (first | assumption | exact Room.h (by assumption) | exact Room.u_lt (by assumption) | exact Room.less (by assumption) (by decide))) (by k_asm) (by k_asm) ?_; intro _ _ _ _; try k_sweep)) | ((with_reducible show wpAny _ _ (subscriptTail _ _ (Value.ref _) _) _ _ _); with_reducible (k_here; (with_reducible show wpAny _ _ (subscriptTail _ _ (Value.ref _) (Value.int _ _)) _ _ _); k_dflt (apply known_tail2; (case N => k_asm); (case hm => k_mem); (case R => assumption); (case hs => walk_at "M sub"); (case he => assumption); (case hu => with_unfolding_all rfl); k_whole); intro _ _ _ _ _ _ _ _ _ _)) | ((with_reducible show wpAny _ _ (assign (Expr.Tuple _ _ _) _ (Value.ref _)) _ _ _); with_reducible (k_here; (with_reducible show wpAny _ _ (assign (Expr.Tuple _ _ _) _ (Value.ref _)) _ _ _); k_dflt (refine' unpackN_ (by k_asm) (by k_asm) (by first | assumption | (refine News.isTup (by k_asm) (by k_mem))) (by (first | assumption | exact Room.h (by assumption) | exact Room.u_lt (by assumption) | exact Room.less (by assumption) (by decide))) (by exact rfl) (by exact rfl) ?_); intro _ _ _; (try k_sweep))) | ((with_reducible show wpAny _ _ (compareOp CmpOp.NotEq (Value.ref _) (Value.ref _)) _ _ _); with_reducible (k_here; k_dflt (refine' ne_stop ?_); k_whole)) | ((with_reducible show wpAny _ _ (eval (Expr.Name _ _) _) _ _ _); with_reducible (k_here; k_dflt (apply nameX_L; (case F => k_asm); (case hk => rfl); (case hx => rfl); (case hv => walk_at "M look"); (case hd => decide); k_whole))) | ((with_reducible show wpAny _ _ (getMethod (Value.ref _) _ _) _ _ _); with_reducible (k_here; (with_reducible show wpAny _ _ (getMethod (Value.ref _) (PySem.Str.ofString "append") _) _ _ _); k_dflt (refine' lst_method (by k_asm) (by k_mem) (by assumption) PySem.F.slot_list_append PySem.F.type_list_append ?_))) | ((with_reducible show wpAny _ _ (call (Value.builtin "list.append") _) _ _ _); with_reducible (k_here; k_dflt (apply lst_append; (case F => k_asm); (case N => k_asm); (case U => walk_at "M up"); (case ho => assumption); (case hz => omega); k_whole); intro _ _ _; intro zN; (try dsimp only at zN); revert zN; intro _; intro _; (try k_sweep))) | ((with_reducible show wpAny _ _ (exec (Stmt.For _ _ _ _ _) _) _ _ _); with_reducible (k_here; k_dflt (refine' for_go (by k_asm) ?_); k_whole)) | ((with_reducible show wpAny _ _ (exec (Stmt.For _ _ _ _ _) _) _ _ _); with_reducible (k_here; k_dflt (refine' for_go (by k_asm) ?_); k_whole)) | ((with_reducible show wpAny _ _ (call (Value.builtin "sorted") _) _ _ _); with_reducible (k_here; k_dflt (refine' sorted_known (by (first | assumption | exact Room.h (by assumption) | exact Room.u_lt (by assumption) | exact Room.less (by assumption) (by decide))) (by k_asm) (by k_asm) (by k_mem) (by assumption) (by assumption) (by assumption) ?_; k_whole); intro _ _ _ _ _ _ _ _ _ _ _ _; (try k_sweep))) | ((with_reducible show wpAny _ _ (call (Value.ref _) _) _ _ _); (first | with_reducible (k_here; k_dflt (refine' all_rows_spec (by (first | assumption | exact Room.h (by assumption) | exact Room.u_lt (by assumption) | exact Room.less (by assumption) (by decide))) (by k_asm) (by k_asm) (by k_asm) (by k_asm) (by walk_at "M rel") (by k_mem) (by assumption) (by walk_at "M sub") (by assumption) (by assumption) ?_; k_whole); intro _ _ _ _ _ _ _ _ _ _ _ _ _; (try k_sweep)) | with_reducible (k_here; k_dflt (refine' row_spec (by (first | assumption | exact Room.h (by assumption) | exact Room.u_lt (by assumption) | exact Room.less (by assumption) (by decide))) (by k_asm) (by k_asm) (by k_asm) (by k_asm) (by assumption) (by walk_at "M sub") ?_; k_whole); intro _ _ _ _ _ _ _ _; (try k_sweep)))) | walk1 | (dsimp only; walk1) | (dsimp only; k_unfold; try dsimp only)))
    (refine' back_ (by k_asm) (by k_asm) ?_); intro kF kN
    exact hQ _ _ kF kN

end

structure Db where
  d : Addr
  kp : Addr
  rp : Addr
  ko : Obj
  ro : Obj
  es : List Ent
def Muts (bx pc : Addr) (a b c : Db) : List Addr := [bx, pc] ++ ([a.kp, a.rp] ++ [b.kp, b.rp] ++ [c.kp, c.rp])
structure Dist (l : List Addr) (im : Led) : Prop where
  nd : l.Nodup
  off : ∀ q ∈ l, Off q im
theorem Dist.perm {l l' : List Addr} {im : Led} (p : l.Perm l') (h : Dist l im) : Dist l' im := ⟨p.nodup_iff.mp h.nd, fun q hq => h.off q (p.mem_iff.mpr hq)⟩
theorem Dist.new {l : List Addr} {im new : Led} (h : Dist l im) (k : ∀ q ∈ l, Off q new) : Dist l (new ++ im) := ⟨h.nd, fun q hq => Off.both (k q hq) (h.off q hq)⟩
inductive Pick : Nat → Db → Db → Db → Db → Db → Db → Prop
  | p0 {a b c} : Pick 0 a b c a b c
  | p1 {a b c} : Pick 1 a b c b a c
  | p2 {a b c} : Pick 2 a b c c a b
theorem pick {j : Nat} (h : j < 3) (a b c : Db) : ∃ x y z, Pick j a b c x y z := by
  have : j = 0 ∨ j = 1 ∨ j = 2 := by omega
  rcases this with rfl | rfl | rfl
  · exact ⟨_, _, _, .p0⟩
  · exact ⟨_, _, _, .p1⟩
  · exact ⟨_, _, _, .p2⟩
theorem Pick.muts {j : Nat} {bx pc : Addr} {a b c x y z : Db} (P : Pick j a b c x y z) : (Muts bx pc a b c).Perm (Muts bx pc x y z) := by
  cases P
  · exact List.Perm.refl _
  · exact List.Perm.append_left _ (List.Perm.append_right _ List.perm_append_comm)
  · refine List.Perm.append_left _ ?_
    show ([a.kp, a.rp] ++ [b.kp, b.rp] ++ [c.kp, c.rp]).Perm ([c.kp, c.rp] ++ [a.kp, a.rp] ++ [b.kp, b.rp])
    rw [List.append_assoc [c.kp, c.rp]]
    exact List.perm_append_comm
section
variable (prog : Program) (w : World)
structure DbSt (im : Led) (now : Int) (b : Nat) (x : Db) : Prop where
  db : DbAt im x.d x.rp
  kn : Known prog w im x.ko x.es
  rw : Rows prog w im x.ro x.es
  iv : InvE now x.es
  nu : ∀ e ∈ x.es, e.row.num ≤ (b : Int)
  p1 : 1 < x.kp
  p2 : 1 < x.rp
def PicAt (im : Led) (now : Int) (b : Nat) (v : Value) : Prop := ∃ l lo vs rs, v = .ref l ∧ (l, lo) ∈ im ∧ LstO lo vs ∧ All2 (RowV im) vs rs ∧ Pic now rs ∧ 1 ≤ rs.length ∧ ∀ r ∈ rs, r.num ≤ (b : Int)
variable {prog w}
theorem DbSt.mono {im im' : Led} {now now' : Int} {b b' : Nat} {x : Db} (s : Sub im im') (hn : now ≤ now') (h8 : now' ≤ 800) (hb : b ≤ b') (h : DbSt prog w im now b x) : DbSt prog w im' now' b' x :=
  ⟨h.db.mono s, h.kn.mono s, h.rw.mono s, h.iv.later hn h8, fun e he => by have := h.nu e he; omega, h.p1, h.p2⟩
theorem PicAt.mono {im im' : Led} {now now' : Int} {b b' : Nat} {v : Value} (s : Sub im im') (hn : now ≤ now') (hb : b ≤ b') (h : PicAt im now b v) : PicAt im' now' b' v := by
  obtain ⟨l, lo, vs, rs, h1, h2, h3, h4, h5, h6, h7⟩ := h
  exact ⟨l, lo, vs, rs, h1, s _ h2, h3, all_mono s h4, h5.later hn, h6, fun r hr => by have := h7 r hr; omega⟩
variable (prog w)
structure St (bx pc bl lb lk : Addr) (i : Nat) (K M now k : Int) (bo po : Obj) (pvs : List Value) (a b c : Db) (im : Led) : Prop where
  bo : ∃ kt, LstO bo [.ref bl, .int k kt]
  k0 : 0 ≤ k
  k1 : k ≤ K
  n0 : 0 ≤ now
  n1 : now ≤ M
  bl : ∃ blo wl ns, (bl, blo) ∈ im ∧ LstO blo wl ∧ IntsAre wl ns ∧ wl.length ≤ 1000
  lb : ∃ lbo, (lb, lbo) ∈ im ∧ LstO lbo [.ref a.d, .ref b.d, .ref c.d]
  lk : ∃ lko, (lk, lko) ∈ im ∧ LstO lko [.ref a.kp, .ref b.kp, .ref c.kp]
  pic : LstX po pvs
  pl : pvs.length ≤ i
  pn : 4 ≤ i → 1 ≤ pvs.length
  pv : ∀ v ∈ pvs, PicAt im now i v
  da : DbSt prog w im now i a
  db : DbSt prog w im now i b
  dc : DbSt prog w im now i c
  ea : 0 < i → 1 ≤ a.es.length
  eb : 1 < i → 1 ≤ b.es.length
  ec : 2 < i → 1 ≤ c.es.length
  dist : Dist (Muts bx pc a b c) im
variable {prog w}
variable {bx pc bl lb lk : Addr} {i : Nat} {K M now k : Int} {bo po : Obj} {pvs : List Value} {a b c x y z : Db} {im : Led} {j : Nat}
theorem St.draw {bo' : Obj} {kt : Tok} (S : St prog w bx pc bl lb lk i K M now k bo po pvs a b c im) (h : LstO bo' [.ref bl, .int (k + 1) kt]) : St prog w bx pc bl lb lk i (K + 1) M now (k + 1) bo' po pvs a b c im :=
  ⟨⟨kt, h⟩, by have := S.k0; omega, by have := S.k1; omega, S.n0, S.n1, S.bl, S.lb, S.lk, S.pic, S.pl, S.pn, S.pv, S.da, S.db, S.dc, S.ea, S.eb, S.ec, S.dist⟩
theorem St.time {now' : Int} (S : St prog w bx pc bl lb lk i K M now k bo po pvs a b c im) (h1 : now ≤ now') (h2 : now' ≤ now + 59) (h8 : M + 59 ≤ 800) : St prog w bx pc bl lb lk i K (M + 59) now' k bo po pvs a b c im := by
  have h9 : now' ≤ 800 := by have := S.n1; omega
  exact ⟨S.bo, S.k0, S.k1, by have := S.n0; omega, by have := S.n1; omega, S.bl, S.lb, S.lk, S.pic, S.pl, S.pn, fun v hv => (S.pv v hv).mono (Sub.refl _) h1 (Nat.le_refl _), S.da.mono (Sub.refl _) h1 h9 (Nat.le_refl _), S.db.mono (Sub.refl _) h1 h9 (Nat.le_refl _), S.dc.mono (Sub.refl _) h1 h9 (Nat.le_refl _), S.ea, S.eb, S.ec, S.dist⟩
theorem St.wide {K' M' : Int} (S : St prog w bx pc bl lb lk i K M now k bo po pvs a b c im) (h1 : K ≤ K') (h2 : M ≤ M') : St prog w bx pc bl lb lk i K' M' now k bo po pvs a b c im :=
  ⟨S.bo, S.k0, by have := S.k1; omega, S.n0, by have := S.n1; omega, S.bl, S.lb, S.lk, S.pic, S.pl, S.pn, S.pv, S.da, S.db, S.dc, S.ea, S.eb, S.ec, S.dist⟩
theorem Pick.st (P : Pick j a b c x y z) (S : St prog w bx pc bl lb lk i K M now k bo po pvs a b c im) : DbSt prog w im now i x := by
  cases P
  · exact S.da
  · exact S.db
  · exact S.dc
theorem Pick.len (P : Pick j a b c x y z) (S : St prog w bx pc bl lb lk i K M now k bo po pvs a b c im) (h : 3 ≤ i) : 1 ≤ x.es.length := by
  cases P
  · exact S.ea (by omega)
  · exact S.eb (by omega)
  · exact S.ec (by omega)
theorem Pick.getd (P : Pick j a b c x y z) : [Value.ref a.d, .ref b.d, .ref c.d][j]? = some (.ref x.d) := by cases P <;> rfl
theorem Pick.getk (P : Pick j a b c x y z) : [Value.ref a.kp, .ref b.kp, .ref c.kp][j]? = some (.ref x.kp) := by cases P <;> rfl
theorem St.upd {x' : Db} {bo' : Obj} {k' K' : Int} {new : Led} (S : St prog w bx pc bl lb lk i K M now k bo po pvs a b c im) (P : Pick j a b c x y z) (h8 : now ≤ 800)
    (e1 : x'.d = x.d) (e2 : x'.kp = x.kp) (e3 : x'.rp = x.rp) (hb : ∃ kt, LstO bo' [.ref bl, .int k' kt]) (hk0 : 0 ≤ k') (hk : k' ≤ K') (hoff : ∀ q ∈ Muts bx pc x y z, Off q new)
    (hx : DbSt prog w (new ++ im) now (i + 1) x') (hl : x.es.length ≤ x'.es.length) (h3 : i < 3 → j = i ∧ 1 ≤ x'.es.length) (hi : i ≠ 3) :
    ∃ a' b' c', Pick j a' b' c' x' y z ∧ St prog w bx pc bl lb lk (i + 1) K' M now k' bo' po pvs a' b' c' (new ++ im) := by
  have sb : Sub im (new ++ im) := Sub.app
  have off0 : Dist (Muts bx pc a b c) (new ++ im) := S.dist.new fun q hq => hoff q (P.muts.mem_iff.mp hq)
  have bl' : ∃ blo wl ns, (bl, blo) ∈ new ++ im ∧ LstO blo wl ∧ IntsAre wl ns ∧ wl.length ≤ 1000 := by
    obtain ⟨blo, wl, ns, q1, q2⟩ := S.bl; exact ⟨blo, wl, ns, sb _ q1, q2⟩
  have lb' : ∃ lbo, (lb, lbo) ∈ new ++ im ∧ LstO lbo [.ref a.d, .ref b.d, .ref c.d] := by obtain ⟨o, q1, q2⟩ := S.lb; exact ⟨o, sb _ q1, q2⟩
  have lk' : ∃ lko, (lk, lko) ∈ new ++ im ∧ LstO lko [.ref a.kp, .ref b.kp, .ref c.kp] := by obtain ⟨o, q1, q2⟩ := S.lk; exact ⟨o, sb _ q1, q2⟩
  have pv' : ∀ v ∈ pvs, PicAt (new ++ im) now (i + 1) v := fun v hv => (S.pv v hv).mono sb (Int.le_refl _) (Nat.le_succ _)
  have pl' : pvs.length ≤ i + 1 := by have := S.pl; omega
  have pn' : 4 ≤ i + 1 → 1 ≤ pvs.length := fun h => S.pn (by omega)
  have mo : ∀ {u : Db}, DbSt prog w im now i u → DbSt prog w (new ++ im) now (i + 1) u := fun h => h.mono sb (Int.le_refl _) h8 (Nat.le_succ _)
  cases P with
  | p0 =>
    refine ⟨x', b, c, .p0, hb, hk0, hk, S.n0, S.n1, bl', by rw [e1]; exact lb', by rw [e2]; exact lk', S.pic, pl', pn', pv', hx, mo S.db, mo S.dc, fun h => ?_, fun h => S.eb (by omega), fun h => S.ec (by omega), by unfold Muts; rw [e2, e3]; exact off0⟩
    by_cases q : i < 3
    · exact (h3 q).2
    · have := S.ea (by omega); omega
  | p1 =>
    refine ⟨a, x', c, .p1, hb, hk0, hk, S.n0, S.n1, bl', by rw [e1]; exact lb', by rw [e2]; exact lk', S.pic, pl', pn', pv', mo S.da, hx, mo S.dc, fun h => S.ea (by omega), fun h => ?_, fun h => S.ec (by omega), by unfold Muts; rw [e2, e3]; exact off0⟩
    by_cases q : i < 3
    · exact (h3 q).2
    · have := S.eb (by omega); omega
  | p2 =>
    refine ⟨a, b, x', .p2, hb, hk0, hk, S.n0, S.n1, bl', by rw [e1]; exact lb', by rw [e2]; exact lk', S.pic, pl', pn', pv', mo S.da, mo S.db, hx, fun h => S.ea (by omega), fun h => S.eb (by omega), fun h => ?_, by unfold Muts; rw [e2, e3]; exact off0⟩
    by_cases q : i < 3
    · exact (h3 q).2
    · have := S.ec (by omega); omega
theorem St.more {po' : Obj} {v : Value} {new : Led} (S : St prog w bx pc bl lb lk i K M now k bo po pvs a b c im) (h8 : now ≤ 800) (hoff : ∀ q ∈ Muts bx pc a b c, Off q new)
    (hp : LstX po' (pvs ++ [v])) (hv : PicAt (new ++ im) now (i + 1) v) (hi : 3 ≤ i) : St prog w bx pc bl lb lk (i + 1) K M now k bo po' (pvs ++ [v]) a b c (new ++ im) := by
  have sb : Sub im (new ++ im) := Sub.app
  have mo : ∀ {u : Db}, DbSt prog w im now i u → DbSt prog w (new ++ im) now (i + 1) u := fun h => h.mono sb (Int.le_refl _) h8 (Nat.le_succ _)
  refine ⟨S.bo, S.k0, S.k1, S.n0, S.n1, ?_, ?_, ?_, hp, ?_, ?_, ?_, mo S.da, mo S.db, mo S.dc, fun h => S.ea (by omega), fun h => S.eb (by omega), fun h => S.ec (by omega), S.dist.new hoff⟩
  · obtain ⟨blo, wl, ns, q1, q2⟩ := S.bl; exact ⟨blo, wl, ns, sb _ q1, q2⟩
  · obtain ⟨o, q1, q2⟩ := S.lb; exact ⟨o, sb _ q1, q2⟩
  · obtain ⟨o, q1, q2⟩ := S.lk; exact ⟨o, sb _ q1, q2⟩
  · have := S.pl; simp; omega
  · intro _; simp
  · intro u hu
    rcases List.mem_append.mp hu with hu | hu
    · exact (S.pv u hu).mono sb (Int.le_refl _) (Nat.le_succ _)
    · rw [List.mem_singleton.mp hu]; exact hv
theorem Dist.use (h : Dist (Muts bx pc x y z) im) : Off bx ((pc, po) :: (y.kp, y.ko) :: (y.rp, y.ro) :: (z.kp, z.ko) :: (z.rp, z.ro) :: im) ∧ Off x.kp ((pc, po) :: (y.kp, y.ko) :: (y.rp, y.ro) :: (z.kp, z.ko) :: (z.rp, z.ro) :: im) ∧
    Off x.rp ((pc, po) :: (y.kp, y.ko) :: (y.rp, y.ro) :: (z.kp, z.ko) :: (z.rp, z.ro) :: im) ∧ bx ≠ x.kp ∧ bx ≠ x.rp ∧ x.kp ≠ x.rp := by
  obtain ⟨nd, off⟩ := h
  unfold Muts at nd off
  have o1 := off bx (by simp)
  have o2 := off x.kp (by simp)
  have o3 := off x.rp (by simp)
  simp only [List.cons_append, List.nil_append, List.nodup_cons, List.mem_cons, not_or, List.not_mem_nil, not_false_eq_true, and_true] at nd
  obtain ⟨⟨n1, n2, n3, n4, n5, n6, n7⟩, ⟨m2, m3, m4, m5, m6, m7⟩, ⟨k3, k4, k5, k6, k7⟩, ⟨g4, g5, g6, g7⟩, _⟩ := nd
  refine ⟨Off.cons' (Ne.symm n1) (Off.cons' (Ne.symm n4) (Off.cons' (Ne.symm n5) (Off.cons' (Ne.symm n6) (Off.cons' (Ne.symm n7) o1)))), Off.cons' m2 (Off.cons' (Ne.symm k4) (Off.cons' (Ne.symm k5) (Off.cons' (Ne.symm k6) (Off.cons' (Ne.symm k7) o2)))),
    Off.cons' m3 (Off.cons' (Ne.symm g4) (Off.cons' (Ne.symm g5) (Off.cons' (Ne.symm g6) (Off.cons' (Ne.symm g7) o3)))), n2, n3, k3⟩
end

abbrev canon (bx pc : Addr) (bo po : Obj) (a b c : Db) (im : Led) : Led := (bx, bo) :: (pc, po) :: (a.kp, a.ko) :: (a.rp, a.ro) :: (b.kp, b.ko) :: (b.rp, b.ro) :: (c.kp, c.ko) :: (c.rp, c.ro) :: im
section
variable {prog : Program} {w : World}
theorem db_start {im : Led} {x dx r k : Addr} {hs : Int} {t : Tok} {n : Nat} {o ro : Obj} (m1 : (x, instObj 172 dx) ∈ im) (m2 : (dx, dictOf [⟨hs, .str (Str.ofString "rows") t, .ref r⟩] n) ∈ im)
    (ho : o.IsDictOf (intKind prog w) []) (hi : ro.IsDictOf (intKind prog w) []) (p1 : 1 < k) (p2 : 1 < r) : DbSt prog w im 0 0 ⟨x, k, r, o, ro, []⟩ :=
  ⟨⟨dx, hs, t, n, m1, m2⟩, empty_known ho, empty_rows hi, InvE.nil, fun _ h => (nomatch h), p1, p2⟩
theorem loop_start {h₀ h : Heap} {L : Addr} {all : Led} (N : News h₀ L h all) {bx pc bl lb lk x0 dx0 r0 k0 x1 dx1 r1 k1 x2 dx2 r2 k2 : Nat} {c0 nb np n0 n1 n2 nlb nlk : Nat} {kt t0 t1 t2 : Tok} {hs0 hs1 hs2 : Int} {ws : List Value} {nsw : List Int} {o0 o1 o2 ro0 ro1 ro2 : Obj}
    (m1 : (bl, listOf ws.toArray c0) ∈ all) (hI : IntsAre ws nsw) (hz : ws.length ≤ 1000) (m2 : (bx, listOf #[.ref bl, .int 0 kt] nb) ∈ all) (m3 : (pc, listOf #[] np) ∈ all)
    (a1 : (x0, instObj 172 dx0) ∈ all) (a2 : (dx0, dictOf [⟨hs0, .str (Str.ofString "rows") t0, .ref r0⟩] n0) ∈ all) (a3 : (r0, ro0) ∈ all) (a4 : (k0, o0) ∈ all) (a5 : ro0.IsDictOf (intKind prog w) []) (a6 : o0.IsDictOf (intKind prog w) [])
    (b1 : (x1, instObj 172 dx1) ∈ all) (b2 : (dx1, dictOf [⟨hs1, .str (Str.ofString "rows") t1, .ref r1⟩] n1) ∈ all) (b3 : (r1, ro1) ∈ all) (b4 : (k1, o1) ∈ all) (b5 : ro1.IsDictOf (intKind prog w) []) (b6 : o1.IsDictOf (intKind prog w) [])
    (d1 : (x2, instObj 172 dx2) ∈ all) (d2 : (dx2, dictOf [⟨hs2, .str (Str.ofString "rows") t2, .ref r2⟩] n2) ∈ all) (d3 : (r2, ro2) ∈ all) (d4 : (k2, o2) ∈ all) (d5 : ro2.IsDictOf (intKind prog w) []) (d6 : o2.IsDictOf (intKind prog w) [])
    (m4 : (lb, listOf #[.ref x0, .ref x1, .ref x2] nlb) ∈ all) (m5 : (lk, listOf #[.ref k0, .ref k1, .ref k2] nlk) ∈ all)
    (c1 : bl < bx) (c2 : bx < pc) (c3 : pc < dx0) (c4 : dx0 < x0) (c5 : x0 < r0) (c6 : r0 < dx1) (c7 : dx1 < x1) (c8 : x1 < r1) (c9 : r1 < dx2) (c10 : dx2 < x2) (c11 : x2 < r2) (c12 : r2 < lb) (c13 : lb < k0) (c14 : k0 < k1) (c15 : k1 < k2) (c16 : k2 < lk) :
    ∃ bo po a b c im, News h₀ L h (canon bx pc bo po a b c im) ∧ St prog w bx pc bl lb lk 0 0 0 0 0 bo po [] a b c im := by
  refine ⟨listOf #[.ref bl, .int 0 kt] nb, listOf #[] np, ⟨x0, k0, r0, o0, ro0, []⟩, ⟨x1, k1, r1, o1, ro1, []⟩, ⟨x2, k2, r2, o2, ro2, []⟩,
    [(lk, listOf #[.ref k0, .ref k1, .ref k2] nlk), (lb, listOf #[.ref x0, .ref x1, .ref x2] nlb), (x0, instObj 172 dx0), (dx0, dictOf [⟨hs0, .str (Str.ofString "rows") t0, .ref r0⟩] n0), (x1, instObj 172 dx1), (dx1, dictOf [⟨hs1, .str (Str.ofString "rows") t1, .ref r1⟩] n1),
     (x2, instObj 172 dx2), (dx2, dictOf [⟨hs2, .str (Str.ofString "rows") t2, .ref r2⟩] n2), (bl, listOf ws.toArray c0)], News.sub N ?_, ?_⟩
  · exact Sub.consl m2 (Sub.consl m3 (Sub.consl a4 (Sub.consl a3 (Sub.consl b4 (Sub.consl b3 (Sub.consl d4 (Sub.consl d3 (Sub.consl m5 (Sub.consl m4 (Sub.consl a1 (Sub.consl a2 (Sub.consl b1 (Sub.consl b2 (Sub.consl d1 (Sub.consl d2 (Sub.consl m1 Sub.nil))))))))))))))))
  · have l0_1 : bl < bx := c1
    have l0_2 : bl < pc := Nat.lt_trans l0_1 c2
    have l0_3 : bl < dx0 := Nat.lt_trans l0_2 c3
    have l0_4 : bl < x0 := Nat.lt_trans l0_3 c4
    have l0_5 : bl < r0 := Nat.lt_trans l0_4 c5
    have l0_6 : bl < dx1 := Nat.lt_trans l0_5 c6
    have l0_7 : bl < x1 := Nat.lt_trans l0_6 c7
    have l0_8 : bl < r1 := Nat.lt_trans l0_7 c8
    have l0_9 : bl < dx2 := Nat.lt_trans l0_8 c9
    have l0_10 : bl < x2 := Nat.lt_trans l0_9 c10
    have l0_11 : bl < r2 := Nat.lt_trans l0_10 c11
    have l0_12 : bl < lb := Nat.lt_trans l0_11 c12
    have l0_13 : bl < k0 := Nat.lt_trans l0_12 c13
    have l0_14 : bl < k1 := Nat.lt_trans l0_13 c14
    have l0_15 : bl < k2 := Nat.lt_trans l0_14 c15
    have l0_16 : bl < lk := Nat.lt_trans l0_15 c16
    have l1_2 : bx < pc := c2
    have l1_3 : bx < dx0 := Nat.lt_trans l1_2 c3
    have l1_4 : bx < x0 := Nat.lt_trans l1_3 c4
    have l1_5 : bx < r0 := Nat.lt_trans l1_4 c5
    have l1_6 : bx < dx1 := Nat.lt_trans l1_5 c6
    have l1_7 : bx < x1 := Nat.lt_trans l1_6 c7
    have l1_8 : bx < r1 := Nat.lt_trans l1_7 c8
    have l1_9 : bx < dx2 := Nat.lt_trans l1_8 c9
    have l1_10 : bx < x2 := Nat.lt_trans l1_9 c10
    have l1_11 : bx < r2 := Nat.lt_trans l1_10 c11
    have l1_12 : bx < lb := Nat.lt_trans l1_11 c12
    have l1_13 : bx < k0 := Nat.lt_trans l1_12 c13
    have l1_14 : bx < k1 := Nat.lt_trans l1_13 c14
    have l1_15 : bx < k2 := Nat.lt_trans l1_14 c15
    have l1_16 : bx < lk := Nat.lt_trans l1_15 c16
    have l2_3 : pc < dx0 := c3
    have l2_4 : pc < x0 := Nat.lt_trans l2_3 c4
    have l2_5 : pc < r0 := Nat.lt_trans l2_4 c5
    have l2_6 : pc < dx1 := Nat.lt_trans l2_5 c6
    have l2_7 : pc < x1 := Nat.lt_trans l2_6 c7
    have l2_8 : pc < r1 := Nat.lt_trans l2_7 c8
    have l2_9 : pc < dx2 := Nat.lt_trans l2_8 c9
    have l2_10 : pc < x2 := Nat.lt_trans l2_9 c10
    have l2_11 : pc < r2 := Nat.lt_trans l2_10 c11
    have l2_12 : pc < lb := Nat.lt_trans l2_11 c12
    have l2_13 : pc < k0 := Nat.lt_trans l2_12 c13
    have l2_14 : pc < k1 := Nat.lt_trans l2_13 c14
    have l2_15 : pc < k2 := Nat.lt_trans l2_14 c15
    have l2_16 : pc < lk := Nat.lt_trans l2_15 c16
    have l3_4 : dx0 < x0 := c4
    have l3_5 : dx0 < r0 := Nat.lt_trans l3_4 c5
    have l3_6 : dx0 < dx1 := Nat.lt_trans l3_5 c6
    have l3_7 : dx0 < x1 := Nat.lt_trans l3_6 c7
    have l3_8 : dx0 < r1 := Nat.lt_trans l3_7 c8
    have l3_9 : dx0 < dx2 := Nat.lt_trans l3_8 c9
    have l3_10 : dx0 < x2 := Nat.lt_trans l3_9 c10
    have l3_11 : dx0 < r2 := Nat.lt_trans l3_10 c11
    have l3_12 : dx0 < lb := Nat.lt_trans l3_11 c12
    have l3_13 : dx0 < k0 := Nat.lt_trans l3_12 c13
    have l3_14 : dx0 < k1 := Nat.lt_trans l3_13 c14
    have l3_15 : dx0 < k2 := Nat.lt_trans l3_14 c15
    have l3_16 : dx0 < lk := Nat.lt_trans l3_15 c16
    have l4_5 : x0 < r0 := c5
    have l4_6 : x0 < dx1 := Nat.lt_trans l4_5 c6
    have l4_7 : x0 < x1 := Nat.lt_trans l4_6 c7
    have l4_8 : x0 < r1 := Nat.lt_trans l4_7 c8
    have l4_9 : x0 < dx2 := Nat.lt_trans l4_8 c9
    have l4_10 : x0 < x2 := Nat.lt_trans l4_9 c10
    have l4_11 : x0 < r2 := Nat.lt_trans l4_10 c11
    have l4_12 : x0 < lb := Nat.lt_trans l4_11 c12
    have l4_13 : x0 < k0 := Nat.lt_trans l4_12 c13
    have l4_14 : x0 < k1 := Nat.lt_trans l4_13 c14
    have l4_15 : x0 < k2 := Nat.lt_trans l4_14 c15
    have l4_16 : x0 < lk := Nat.lt_trans l4_15 c16
    have l5_6 : r0 < dx1 := c6
    have l5_7 : r0 < x1 := Nat.lt_trans l5_6 c7
    have l5_8 : r0 < r1 := Nat.lt_trans l5_7 c8
    have l5_9 : r0 < dx2 := Nat.lt_trans l5_8 c9
    have l5_10 : r0 < x2 := Nat.lt_trans l5_9 c10
    have l5_11 : r0 < r2 := Nat.lt_trans l5_10 c11
    have l5_12 : r0 < lb := Nat.lt_trans l5_11 c12
    have l5_13 : r0 < k0 := Nat.lt_trans l5_12 c13
    have l5_14 : r0 < k1 := Nat.lt_trans l5_13 c14
    have l5_15 : r0 < k2 := Nat.lt_trans l5_14 c15
    have l5_16 : r0 < lk := Nat.lt_trans l5_15 c16
    have l6_7 : dx1 < x1 := c7
    have l6_8 : dx1 < r1 := Nat.lt_trans l6_7 c8
    have l6_9 : dx1 < dx2 := Nat.lt_trans l6_8 c9
    have l6_10 : dx1 < x2 := Nat.lt_trans l6_9 c10
    have l6_11 : dx1 < r2 := Nat.lt_trans l6_10 c11
    have l6_12 : dx1 < lb := Nat.lt_trans l6_11 c12
    have l6_13 : dx1 < k0 := Nat.lt_trans l6_12 c13
    have l6_14 : dx1 < k1 := Nat.lt_trans l6_13 c14
    have l6_15 : dx1 < k2 := Nat.lt_trans l6_14 c15
    have l6_16 : dx1 < lk := Nat.lt_trans l6_15 c16
    have l7_8 : x1 < r1 := c8
    have l7_9 : x1 < dx2 := Nat.lt_trans l7_8 c9
    have l7_10 : x1 < x2 := Nat.lt_trans l7_9 c10
    have l7_11 : x1 < r2 := Nat.lt_trans l7_10 c11
    have l7_12 : x1 < lb := Nat.lt_trans l7_11 c12
    have l7_13 : x1 < k0 := Nat.lt_trans l7_12 c13
    have l7_14 : x1 < k1 := Nat.lt_trans l7_13 c14
    have l7_15 : x1 < k2 := Nat.lt_trans l7_14 c15
    have l7_16 : x1 < lk := Nat.lt_trans l7_15 c16
    have l8_9 : r1 < dx2 := c9
    have l8_10 : r1 < x2 := Nat.lt_trans l8_9 c10
    have l8_11 : r1 < r2 := Nat.lt_trans l8_10 c11
    have l8_12 : r1 < lb := Nat.lt_trans l8_11 c12
    have l8_13 : r1 < k0 := Nat.lt_trans l8_12 c13
    have l8_14 : r1 < k1 := Nat.lt_trans l8_13 c14
    have l8_15 : r1 < k2 := Nat.lt_trans l8_14 c15
    have l8_16 : r1 < lk := Nat.lt_trans l8_15 c16
    have l9_10 : dx2 < x2 := c10
    have l9_11 : dx2 < r2 := Nat.lt_trans l9_10 c11
    have l9_12 : dx2 < lb := Nat.lt_trans l9_11 c12
    have l9_13 : dx2 < k0 := Nat.lt_trans l9_12 c13
    have l9_14 : dx2 < k1 := Nat.lt_trans l9_13 c14
    have l9_15 : dx2 < k2 := Nat.lt_trans l9_14 c15
    have l9_16 : dx2 < lk := Nat.lt_trans l9_15 c16
    have l10_11 : x2 < r2 := c11
    have l10_12 : x2 < lb := Nat.lt_trans l10_11 c12
    have l10_13 : x2 < k0 := Nat.lt_trans l10_12 c13
    have l10_14 : x2 < k1 := Nat.lt_trans l10_13 c14
    have l10_15 : x2 < k2 := Nat.lt_trans l10_14 c15
    have l10_16 : x2 < lk := Nat.lt_trans l10_15 c16
    have l11_12 : r2 < lb := c12
    have l11_13 : r2 < k0 := Nat.lt_trans l11_12 c13
    have l11_14 : r2 < k1 := Nat.lt_trans l11_13 c14
    have l11_15 : r2 < k2 := Nat.lt_trans l11_14 c15
    have l11_16 : r2 < lk := Nat.lt_trans l11_15 c16
    have l12_13 : lb < k0 := c13
    have l12_14 : lb < k1 := Nat.lt_trans l12_13 c14
    have l12_15 : lb < k2 := Nat.lt_trans l12_14 c15
    have l12_16 : lb < lk := Nat.lt_trans l12_15 c16
    have l13_14 : k0 < k1 := c14
    have l13_15 : k0 < k2 := Nat.lt_trans l13_14 c15
    have l13_16 : k0 < lk := Nat.lt_trans l13_15 c16
    have l14_15 : k1 < k2 := c15
    have l14_16 : k1 < lk := Nat.lt_trans l14_15 c16
    have l15_16 : k2 < lk := c16
    refine ⟨⟨kt, LstO.of (vs := [.ref bl, .int 0 kt]) (n := nb)⟩, Int.le_refl _, Int.le_refl _, Int.le_refl _, Int.le_refl _, ⟨listOf ws.toArray c0, ws, nsw, ?_, LstO.of, hI, hz⟩, ⟨listOf #[.ref x0, .ref x1, .ref x2] nlb, ?_, LstO.of (vs := [.ref x0, .ref x1, .ref x2])⟩, ⟨listOf #[.ref k0, .ref k1, .ref k2] nlk, ?_, LstO.of (vs := [.ref k0, .ref k1, .ref k2])⟩, ⟨np, rfl⟩, Nat.le_refl _, fun h => by omega, fun v hv => (nomatch hv), ?_, ?_, ?_, fun h => by omega, fun h => by omega, fun h => by omega, ?_⟩
    · k_mem
    · k_mem
    · k_mem
    · exact db_start (dx := dx0) (hs := hs0) (t := t0) (n := n0) (by k_mem) (by k_mem) a6 a5 (Nat.lt_of_le_of_lt (Nat.succ_le_of_lt (Nat.zero_lt_of_lt c1)) l1_13) (Nat.lt_of_le_of_lt (Nat.succ_le_of_lt (Nat.zero_lt_of_lt c1)) l1_5)
    · exact db_start (dx := dx1) (hs := hs1) (t := t1) (n := n1) (by k_mem) (by k_mem) b6 b5 (Nat.lt_of_le_of_lt (Nat.succ_le_of_lt (Nat.zero_lt_of_lt c1)) l1_14) (Nat.lt_of_le_of_lt (Nat.succ_le_of_lt (Nat.zero_lt_of_lt c1)) l1_8)
    · exact db_start (dx := dx2) (hs := hs2) (t := t2) (n := n2) (by k_mem) (by k_mem) d6 d5 (Nat.lt_of_le_of_lt (Nat.succ_le_of_lt (Nat.zero_lt_of_lt c1)) l1_15) (Nat.lt_of_le_of_lt (Nat.succ_le_of_lt (Nat.zero_lt_of_lt c1)) l1_11)
    · refine ⟨?_, ?_⟩
      · refine List.Pairwise.cons ?_ (List.Pairwise.cons ?_ (List.Pairwise.cons ?_ (List.Pairwise.cons ?_ (List.Pairwise.cons ?_ (List.Pairwise.cons ?_ (List.Pairwise.cons ?_ (List.Pairwise.cons ?_ List.Pairwise.nil)))))))
        · exact List.forall_mem_cons.mpr ⟨Nat.ne_of_lt l1_2, List.forall_mem_cons.mpr ⟨Nat.ne_of_lt l1_13, List.forall_mem_cons.mpr ⟨Nat.ne_of_lt l1_5, List.forall_mem_cons.mpr ⟨Nat.ne_of_lt l1_14, List.forall_mem_cons.mpr ⟨Nat.ne_of_lt l1_8, List.forall_mem_cons.mpr ⟨Nat.ne_of_lt l1_15, List.forall_mem_cons.mpr ⟨Nat.ne_of_lt l1_11, fun _ h => (nomatch h)⟩⟩⟩⟩⟩⟩⟩
        · exact List.forall_mem_cons.mpr ⟨Nat.ne_of_lt l2_13, List.forall_mem_cons.mpr ⟨Nat.ne_of_lt l2_5, List.forall_mem_cons.mpr ⟨Nat.ne_of_lt l2_14, List.forall_mem_cons.mpr ⟨Nat.ne_of_lt l2_8, List.forall_mem_cons.mpr ⟨Nat.ne_of_lt l2_15, List.forall_mem_cons.mpr ⟨Nat.ne_of_lt l2_11, fun _ h => (nomatch h)⟩⟩⟩⟩⟩⟩
        · exact List.forall_mem_cons.mpr ⟨Nat.ne_of_gt l5_13, List.forall_mem_cons.mpr ⟨Nat.ne_of_lt l13_14, List.forall_mem_cons.mpr ⟨Nat.ne_of_gt l8_13, List.forall_mem_cons.mpr ⟨Nat.ne_of_lt l13_15, List.forall_mem_cons.mpr ⟨Nat.ne_of_gt l11_13, fun _ h => (nomatch h)⟩⟩⟩⟩⟩
        · exact List.forall_mem_cons.mpr ⟨Nat.ne_of_lt l5_14, List.forall_mem_cons.mpr ⟨Nat.ne_of_lt l5_8, List.forall_mem_cons.mpr ⟨Nat.ne_of_lt l5_15, List.forall_mem_cons.mpr ⟨Nat.ne_of_lt l5_11, fun _ h => (nomatch h)⟩⟩⟩⟩
        · exact List.forall_mem_cons.mpr ⟨Nat.ne_of_gt l8_14, List.forall_mem_cons.mpr ⟨Nat.ne_of_lt l14_15, List.forall_mem_cons.mpr ⟨Nat.ne_of_gt l11_14, fun _ h => (nomatch h)⟩⟩⟩
        · exact List.forall_mem_cons.mpr ⟨Nat.ne_of_lt l8_15, List.forall_mem_cons.mpr ⟨Nat.ne_of_lt l8_11, fun _ h => (nomatch h)⟩⟩
        · exact List.forall_mem_cons.mpr ⟨Nat.ne_of_gt l11_15, fun _ h => (nomatch h)⟩
        · exact fun _ h => (nomatch h)
      · exact List.forall_mem_cons.mpr ⟨List.forall_mem_cons.mpr ⟨(by first | exact Nat.ne_of_lt l1_16 | exact Nat.ne_of_gt l1_16), List.forall_mem_cons.mpr ⟨(by first | exact Nat.ne_of_lt l1_12 | exact Nat.ne_of_gt l1_12), List.forall_mem_cons.mpr ⟨(by first | exact Nat.ne_of_lt l1_4 | exact Nat.ne_of_gt l1_4), List.forall_mem_cons.mpr ⟨(by first | exact Nat.ne_of_lt l1_3 | exact Nat.ne_of_gt l1_3), List.forall_mem_cons.mpr ⟨(by first | exact Nat.ne_of_lt l1_7 | exact Nat.ne_of_gt l1_7), List.forall_mem_cons.mpr ⟨(by first | exact Nat.ne_of_lt l1_6 | exact Nat.ne_of_gt l1_6), List.forall_mem_cons.mpr ⟨(by first | exact Nat.ne_of_lt l1_10 | exact Nat.ne_of_gt l1_10), List.forall_mem_cons.mpr ⟨(by first | exact Nat.ne_of_lt l1_9 | exact Nat.ne_of_gt l1_9), List.forall_mem_cons.mpr ⟨(by first | exact Nat.ne_of_lt l0_1 | exact Nat.ne_of_gt l0_1), fun _ h => (nomatch h)⟩⟩⟩⟩⟩⟩⟩⟩⟩, List.forall_mem_cons.mpr ⟨List.forall_mem_cons.mpr ⟨(by first | exact Nat.ne_of_lt l2_16 | exact Nat.ne_of_gt l2_16), List.forall_mem_cons.mpr ⟨(by first | exact Nat.ne_of_lt l2_12 | exact Nat.ne_of_gt l2_12), List.forall_mem_cons.mpr ⟨(by first | exact Nat.ne_of_lt l2_4 | exact Nat.ne_of_gt l2_4), List.forall_mem_cons.mpr ⟨(by first | exact Nat.ne_of_lt l2_3 | exact Nat.ne_of_gt l2_3), List.forall_mem_cons.mpr ⟨(by first | exact Nat.ne_of_lt l2_7 | exact Nat.ne_of_gt l2_7), List.forall_mem_cons.mpr ⟨(by first | exact Nat.ne_of_lt l2_6 | exact Nat.ne_of_gt l2_6), List.forall_mem_cons.mpr ⟨(by first | exact Nat.ne_of_lt l2_10 | exact Nat.ne_of_gt l2_10), List.forall_mem_cons.mpr ⟨(by first | exact Nat.ne_of_lt l2_9 | exact Nat.ne_of_gt l2_9), List.forall_mem_cons.mpr ⟨(by first | exact Nat.ne_of_lt l0_2 | exact Nat.ne_of_gt l0_2), fun _ h => (nomatch h)⟩⟩⟩⟩⟩⟩⟩⟩⟩, List.forall_mem_cons.mpr ⟨List.forall_mem_cons.mpr ⟨(by first | exact Nat.ne_of_lt l13_16 | exact Nat.ne_of_gt l13_16), List.forall_mem_cons.mpr ⟨(by first | exact Nat.ne_of_lt l12_13 | exact Nat.ne_of_gt l12_13), List.forall_mem_cons.mpr ⟨(by first | exact Nat.ne_of_lt l4_13 | exact Nat.ne_of_gt l4_13), List.forall_mem_cons.mpr ⟨(by first | exact Nat.ne_of_lt l3_13 | exact Nat.ne_of_gt l3_13), List.forall_mem_cons.mpr ⟨(by first | exact Nat.ne_of_lt l7_13 | exact Nat.ne_of_gt l7_13), List.forall_mem_cons.mpr ⟨(by first | exact Nat.ne_of_lt l6_13 | exact Nat.ne_of_gt l6_13), List.forall_mem_cons.mpr ⟨(by first | exact Nat.ne_of_lt l10_13 | exact Nat.ne_of_gt l10_13), List.forall_mem_cons.mpr ⟨(by first | exact Nat.ne_of_lt l9_13 | exact Nat.ne_of_gt l9_13), List.forall_mem_cons.mpr ⟨(by first | exact Nat.ne_of_lt l0_13 | exact Nat.ne_of_gt l0_13), fun _ h => (nomatch h)⟩⟩⟩⟩⟩⟩⟩⟩⟩, List.forall_mem_cons.mpr ⟨List.forall_mem_cons.mpr ⟨(by first | exact Nat.ne_of_lt l5_16 | exact Nat.ne_of_gt l5_16), List.forall_mem_cons.mpr ⟨(by first | exact Nat.ne_of_lt l5_12 | exact Nat.ne_of_gt l5_12), List.forall_mem_cons.mpr ⟨(by first | exact Nat.ne_of_lt l4_5 | exact Nat.ne_of_gt l4_5), List.forall_mem_cons.mpr ⟨(by first | exact Nat.ne_of_lt l3_5 | exact Nat.ne_of_gt l3_5), List.forall_mem_cons.mpr ⟨(by first | exact Nat.ne_of_lt l5_7 | exact Nat.ne_of_gt l5_7), List.forall_mem_cons.mpr ⟨(by first | exact Nat.ne_of_lt l5_6 | exact Nat.ne_of_gt l5_6), List.forall_mem_cons.mpr ⟨(by first | exact Nat.ne_of_lt l5_10 | exact Nat.ne_of_gt l5_10), List.forall_mem_cons.mpr ⟨(by first | exact Nat.ne_of_lt l5_9 | exact Nat.ne_of_gt l5_9), List.forall_mem_cons.mpr ⟨(by first | exact Nat.ne_of_lt l0_5 | exact Nat.ne_of_gt l0_5), fun _ h => (nomatch h)⟩⟩⟩⟩⟩⟩⟩⟩⟩, List.forall_mem_cons.mpr ⟨List.forall_mem_cons.mpr ⟨(by first | exact Nat.ne_of_lt l14_16 | exact Nat.ne_of_gt l14_16), List.forall_mem_cons.mpr ⟨(by first | exact Nat.ne_of_lt l12_14 | exact Nat.ne_of_gt l12_14), List.forall_mem_cons.mpr ⟨(by first | exact Nat.ne_of_lt l4_14 | exact Nat.ne_of_gt l4_14), List.forall_mem_cons.mpr ⟨(by first | exact Nat.ne_of_lt l3_14 | exact Nat.ne_of_gt l3_14), List.forall_mem_cons.mpr ⟨(by first | exact Nat.ne_of_lt l7_14 | exact Nat.ne_of_gt l7_14), List.forall_mem_cons.mpr ⟨(by first | exact Nat.ne_of_lt l6_14 | exact Nat.ne_of_gt l6_14), List.forall_mem_cons.mpr ⟨(by first | exact Nat.ne_of_lt l10_14 | exact Nat.ne_of_gt l10_14), List.forall_mem_cons.mpr ⟨(by first | exact Nat.ne_of_lt l9_14 | exact Nat.ne_of_gt l9_14), List.forall_mem_cons.mpr ⟨(by first | exact Nat.ne_of_lt l0_14 | exact Nat.ne_of_gt l0_14), fun _ h => (nomatch h)⟩⟩⟩⟩⟩⟩⟩⟩⟩, List.forall_mem_cons.mpr ⟨List.forall_mem_cons.mpr ⟨(by first | exact Nat.ne_of_lt l8_16 | exact Nat.ne_of_gt l8_16), List.forall_mem_cons.mpr ⟨(by first | exact Nat.ne_of_lt l8_12 | exact Nat.ne_of_gt l8_12), List.forall_mem_cons.mpr ⟨(by first | exact Nat.ne_of_lt l4_8 | exact Nat.ne_of_gt l4_8), List.forall_mem_cons.mpr ⟨(by first | exact Nat.ne_of_lt l3_8 | exact Nat.ne_of_gt l3_8), List.forall_mem_cons.mpr ⟨(by first | exact Nat.ne_of_lt l7_8 | exact Nat.ne_of_gt l7_8), List.forall_mem_cons.mpr ⟨(by first | exact Nat.ne_of_lt l6_8 | exact Nat.ne_of_gt l6_8), List.forall_mem_cons.mpr ⟨(by first | exact Nat.ne_of_lt l8_10 | exact Nat.ne_of_gt l8_10), List.forall_mem_cons.mpr ⟨(by first | exact Nat.ne_of_lt l8_9 | exact Nat.ne_of_gt l8_9), List.forall_mem_cons.mpr ⟨(by first | exact Nat.ne_of_lt l0_8 | exact Nat.ne_of_gt l0_8), fun _ h => (nomatch h)⟩⟩⟩⟩⟩⟩⟩⟩⟩, List.forall_mem_cons.mpr ⟨List.forall_mem_cons.mpr ⟨(by first | exact Nat.ne_of_lt l15_16 | exact Nat.ne_of_gt l15_16), List.forall_mem_cons.mpr ⟨(by first | exact Nat.ne_of_lt l12_15 | exact Nat.ne_of_gt l12_15), List.forall_mem_cons.mpr ⟨(by first | exact Nat.ne_of_lt l4_15 | exact Nat.ne_of_gt l4_15), List.forall_mem_cons.mpr ⟨(by first | exact Nat.ne_of_lt l3_15 | exact Nat.ne_of_gt l3_15), List.forall_mem_cons.mpr ⟨(by first | exact Nat.ne_of_lt l7_15 | exact Nat.ne_of_gt l7_15), List.forall_mem_cons.mpr ⟨(by first | exact Nat.ne_of_lt l6_15 | exact Nat.ne_of_gt l6_15), List.forall_mem_cons.mpr ⟨(by first | exact Nat.ne_of_lt l10_15 | exact Nat.ne_of_gt l10_15), List.forall_mem_cons.mpr ⟨(by first | exact Nat.ne_of_lt l9_15 | exact Nat.ne_of_gt l9_15), List.forall_mem_cons.mpr ⟨(by first | exact Nat.ne_of_lt l0_15 | exact Nat.ne_of_gt l0_15), fun _ h => (nomatch h)⟩⟩⟩⟩⟩⟩⟩⟩⟩, List.forall_mem_cons.mpr ⟨List.forall_mem_cons.mpr ⟨(by first | exact Nat.ne_of_lt l11_16 | exact Nat.ne_of_gt l11_16), List.forall_mem_cons.mpr ⟨(by first | exact Nat.ne_of_lt l11_12 | exact Nat.ne_of_gt l11_12), List.forall_mem_cons.mpr ⟨(by first | exact Nat.ne_of_lt l4_11 | exact Nat.ne_of_gt l4_11), List.forall_mem_cons.mpr ⟨(by first | exact Nat.ne_of_lt l3_11 | exact Nat.ne_of_gt l3_11), List.forall_mem_cons.mpr ⟨(by first | exact Nat.ne_of_lt l7_11 | exact Nat.ne_of_gt l7_11), List.forall_mem_cons.mpr ⟨(by first | exact Nat.ne_of_lt l6_11 | exact Nat.ne_of_gt l6_11), List.forall_mem_cons.mpr ⟨(by first | exact Nat.ne_of_lt l10_11 | exact Nat.ne_of_gt l10_11), List.forall_mem_cons.mpr ⟨(by first | exact Nat.ne_of_lt l9_11 | exact Nat.ne_of_gt l9_11), List.forall_mem_cons.mpr ⟨(by first | exact Nat.ne_of_lt l0_11 | exact Nat.ne_of_gt l0_11), fun _ h => (nomatch h)⟩⟩⟩⟩⟩⟩⟩⟩⟩, fun _ h => (nomatch h)⟩⟩⟩⟩⟩⟩⟩⟩
end

section
variable {prog : Program} {w : World} {A : Around} {s : Shared} {h₀ : Heap} {L : Addr} {led : Led} {E : Value → Shared → Prop} {m : Str → Option Value}
theorem sliceApplied_rev2 {sl : Addr} {u : Tok} {Q : Int × Int × Nat → Shared → Prop} (hs : s.heap.IsSliceOf sl .none .none (.int (-1) u)) (h : Q (1, -1, 2) s) :
    wpAny (model prog w) A (Builtin.Slice.sliceApplied (.ref sl) (pure ((2 : Nat) : Int))) Q E s := by
  obtain ⟨os, hos, hcs, hds⟩ := id hs
  unfold Builtin.Slice.sliceApplied Builtin.Slice.sliceFields
  refine wpAny_bind (wpAny_bind (wpAny_field hos hds (x := .none) rfl (wpAny_bind (wpAny_field hos hds (x := .none) rfl (wpAny_bind (wpAny_field hos hds (x := .int (-1) u) rfl (wpAny_pure ?_)))))))
  refine wpAny_bind (slicePart_int ?_)
  show wpAny _ _ (if ((-1 : Int) == 0) = true then _ else _) _ _ s
  rw [if_neg (by decide)]
  refine wpAny_bind (slicePart_none (wpAny_bind (slicePart_none (wpAny_bind (wpAny_pure ?_)))))
  exact wpAny_pure h
theorem getItem_pair_rev {t sl : Addr} {a b : Value} {u : Tok} {Q : Value → Shared → Prop} (ht : IsTup s.heap t #[a, b]) (hs : s.heap.IsSliceOf sl .none .none (.int (-1) u))
    (h : Q (.ref s.heap.objs.size) { s with heap := s.heap.push { cls := .type "tuple", data := .seq #[b, a] } }) : wpAny (model prog w) A (getItem (.ref t) (.ref sl)) Q E s := by
  have hdrop : sizeOk (.seq #[b, a]) := by
    show 2 ≤ sizeLine
    rw [sizeLine_eq]; decide
  obtain ⟨os, hos, hcs, hds⟩ := id hs
  have hTs : s.TypeIs (.ref sl) "slice" := ⟨os, hos, hcs⟩
  unfold getItem
  try with_reducible refine wpAny_holding ?_
  first | refine wpAny_bind (wpAny_pure ?_) | skip
  refine wpAny_bind (wpAny_sequenceKey ht.typeIs (by decide) ?_)
  refine wpAny_bind (wpAny_callSpecial?_slot (name := Str.ofString "__getitem__") ht.typeIs slot_tuple_getitem
    (wpAny_call_entry slot_tuple_getitem ht.typeIs entry_tuple_getitem ?_ (args_tuple_getitem _ _)))
  show wpAny _ _ (Builtin.Tuple.tupleItemsOf (.ref t) >>= _) _ _ s
  refine wpAny_bind (tupleItemsOf_ ht ?_)
  refine wpAny_bind (wpAny_typeOf hTs ?_)
  rw [if_pos (by decide)]
  refine wpAny_bind (sliceApplied_rev2 hs ?_)
  show wpAny _ _ (if ((1 : Int) == 0 && (-1 : Int) == 1 && (2 : Nat) == 2) = true then _ else _) _ _ s
  rw [if_neg (by decide)]
  have e : ((List.range 2).filterMap fun (k : Nat) => (#[a, b] : Array Value)[((1 : Int) + (k : Int) * -1).toNat]?).toArray = #[b, a] := rfl
  rw [e]
  first
    | exact wpAny_bind (m := Builtin.Tuple.tupleExact _) (wpAny_newObj_type (wpAny_pure ⟨_, rfl, wpAny_pure h⟩) hdrop)
    | exact wpAny_bind (m := Builtin.Tuple.tupleExact _) (wpAny_newObj_type (wpAny_bind (wpAny_pure (wpAny_pure ⟨_, rfl, wpAny_pure h⟩))) hdrop)
    | exact wpAny_bind (wpAny_bind (m := Builtin.Tuple.tupleExact _) (wpAny_newObj_type (wpAny_pure (wpAny_pure ⟨_, rfl, wpAny_pure h⟩)) hdrop))
    | exact wpAny_bind (wpAny_bind (m := Builtin.Tuple.tupleExact _) (wpAny_newObj_type (wpAny_pure ⟨_, rfl, wpAny_pure h⟩) hdrop))
theorem pair_rev {value slice : Expr} {t : Addr} {a b : Value} {u : Tok} {ops : List Value} {Q : Value → Shared → Prop} {hp : Heap} {gs : Array GenState} {dr : Drawn} {tk : Nat} {os : OsState}
    (F : Fr h₀ L hp m) (N : News h₀ L hp led) (hm : (t, tupO [a, b]) ∈ led)
    (h : ∀ D h', Fr h₀ L h' m → News h₀ L h' ((D, tupO [b, a]) :: led) → (∀ p ∈ led, p.1 < D) → Q (.ref D) ⟨h', gs, dr, tk, os⟩)
    (hs : subscripted slice false (.ref t) (.ref hp.objs.size) = operate ops (getItem (.ref t) (.ref hp.objs.size)))
    (hg : ∀ r, letTemporaryGo value (.ref t) r = pure ()) :
    wpAny (model prog w) A (subscriptTail value slice (.ref t) (.ref hp.objs.size)) Q E ⟨hp.push { cls := .type "slice", data := .fields #[.none, .none, .int (-1) u] }, gs, dr, tk, os⟩ := by
  have ht : IsTup hp t #[a, b] := ⟨_, (N _ hm).1, rfl, 0, rfl⟩
  have ht' : IsTup (hp.push { cls := .type "slice", data := .fields #[.none, .none, .int (-1) u] }) t #[a, b] := ht.keeps fun _ _ e => Heap.get?_push_of_some _ e
  refine subscriptTail_ops (s := ⟨hp.push { cls := .type "slice", data := .fields #[.none, .none, .int (-1) u] }, gs, dr, tk, os⟩) ht'.typeIs slot_tuple_getitem.lookup (getItem_pair_rev ht' (Heap.IsSliceOf.new ..) ?_) hs hg
  have N1 := News.push (F.push { cls := .type "slice", data := .fields #[.none, .none, .int (-1) u] }) (N.grown fun _ _ e => Heap.get?_push_of_some _ e) (tupO [b, a])
  rw [Heap.size_push] at N1
  show Q (.ref (hp.push _).objs.size) _
  rw [Heap.size_push]
  exact h _ _ ((F.push _).push _) N1 fun p hp => Nat.lt_succ_of_lt (Heap.lt_size (N p hp).1)
theorem tup4 {value slice : Expr} {t : Addr} {k : Int} {u : Tok} {a b c d : Int} {ta tb tc td : Tok} {Q : Value → Shared → Prop} (N : News h₀ L s.heap led) (hm : (t, tupO [.int a ta, .int b tb, .int c tc, .int d td]) ∈ led) (h0 : 0 ≤ k) (h1 : k < 4)
    (h : ∀ f tf, f = a ∨ f = b ∨ f = c ∨ f = d → Q (.int f tf) s)
    (hs : subscripted slice false (.ref t) (.int k u) = operate [.ref t, .int k u] (getItem (.ref t) (.int k u))) (hg : ∀ r, letTemporaryGo value (.ref t) r = pure ()) :
    wpAny (model prog w) A (subscriptTail value slice (.ref t) (.int k u)) Q E s := by
  have ht : IsTup s.heap t #[.int a ta, .int b tb, .int c tc, .int d td] := ⟨_, (N _ hm).1, rfl, 0, rfl⟩
  have : k = 0 ∨ k = 1 ∨ k = 2 ∨ k = 3 := by omega
  rcases this with rfl | rfl | rfl | rfl
  · exact item_tuple (j := 0) (x := .int a ta) ht (by decide) (by decide) rfl rfl (h _ _ (.inl rfl)) hs hg
  · exact item_tuple (j := 1) (x := .int b tb) ht (by decide) (by decide) rfl rfl (h _ _ (.inr (.inl rfl))) hs hg
  · exact item_tuple (j := 2) (x := .int c tc) ht (by decide) (by decide) rfl rfl (h _ _ (.inr (.inr (.inl rfl)))) hs hg
  · exact item_tuple (j := 3) (x := .int d td) ht (by decide) (by decide) rfl rfl (h _ _ (.inr (.inr (.inr rfl)))) hs hg
theorem lst_get {value slice : Expr} {l : Addr} {o : Obj} {vs : List Value} {k : Int} {u : Tok} {Q : Value → Shared → Prop} (N : News h₀ L s.heap led) (hm : (l, o) ∈ led) (x : LstX o vs) (h0 : 0 ≤ k) (h1 : k < vs.length) (hz : vs.length ≤ 1000) (h : ∀ v, v ∈ vs → Q v s)
    (hs : subscripted slice false (.ref l) (.int k u) = operate [.ref l, .int k u] (getItem (.ref l) (.int k u))) : wpAny (model prog w) A (subscriptTail value slice (.ref l) (.int k u)) Q E s :=
  lst_tail N hm x.lst h0 (by omega) (List.getElem?_eq_getElem (by omega : k.toNat < vs.length)) (h _ (List.getElem_mem _)) hs
theorem assign_cut {env : Env} {t : Expr} {v : Value} {body : List Stmt} {Q : Flow → Shared → Prop} (I : Shared → Prop) (h : ∀ zIQ : Shared → Prop, (∀ s', I s' → zIQ s') → wpAny (model prog w) A (assign t env v) (fun _ s₂ => zIQ s₂) E s) (k : ∀ s₂, I s₂ → wpAny (model prog w) A (execs body env) Q E s₂) :
    wpAny (model prog w) A (assign t env v) (fun _ s₂ => wpAny (model prog w) A (execs body env) Q E s₂) E s := wpAny_mono (h I fun _ x => x) (fun _ s hs => k s hs) fun _ _ y => y
end
section
variable {prog : Program} {w : World} {bx pc : Addr} {im : Led} {j i : Nat} {now : Int} {x y z a b c a' b' c' x' : Db}
theorem told_db {ko ro : Obj} {new : Led} {r : Row} {n : Int} (h : DbSt prog w im now i x) (ht : ToldRow x.es n r) (hn : 1 ≤ n ∧ n ≤ 3) (h0 : 0 ≤ now) (h8 : now ≤ 800) (hi : i ≤ 20)
    (hk : Known prog w (new ++ im) ko (putE x.es ⟨r, now⟩)) (hr : Rows prog w (new ++ im) ro (putE x.es ⟨r, now⟩)) : DbSt prog w (new ++ im) now (i + 1) ⟨x.d, x.kp, x.rp, ko, ro, putE x.es ⟨r, now⟩⟩ := by
  obtain ⟨t1, t2, t3⟩ := ht
  have hnum : r.num ≤ (i : Int) + 1 := by
    cases he : findE x.es n with
    | none => rw [he] at t3; simp only at t3; omega
    | some e => rw [he] at t3; have := h.nu e (findE_mem he); have := t3.1; omega
  have hf : FitN now r := ⟨⟨t2.imp id fun ⟨u, v⟩ => ⟨u, by omega, by omega⟩, by omega⟩, by omega, by omega⟩
  exact ⟨h.db.mono Sub.app, hk, hr, h.iv.put h8 hf, fun e he => by
    rcases putE_mem he with rfl | he
    · show r.num ≤ _; omega
    · have := h.nu e he; omega, h.p1, h.p2⟩
theorem mem_putE {es : List Ent} {e : Ent} : 1 ≤ (putE es e).length ∧ es.length ≤ (putE es e).length := by
  unfold putE
  split
  · rename_i h
    cases es with
    | nil => simp [findE] at h
    | cons a r => simp
  · simp
theorem run_nums {now : Int} {es : List Ent} {bd : Int} (h : ∀ e ∈ es, e.row.num ≤ bd) : ∀ rs : List Row, (∀ r ∈ rs, r.num ≤ bd) → ∀ e ∈ (runE now es rs).1, e.row.num ≤ bd := by
  intro rs
  refine snoc_ind (P := fun rs => (∀ r ∈ rs, r.num ≤ bd) → ∀ e ∈ (runE now es rs).1, e.row.num ≤ bd) (fun _ => h) (fun l a ih hf => ?_) rs
  rw [run_snoc]
  have I := ih fun r hr => hf r (List.mem_append_left _ hr)
  have ha := hf a (by simp)
  generalize (runE now es l).1 = es' at *
  have put : ∀ e ∈ putE es' ⟨a, now⟩, e.row.num ≤ bd := fun e he => by
    rcases putE_mem he with rfl | he
    · exact ha
    · exact I e he
  unfold stepE
  split
  · exact put
  · split
    · split <;> exact I
    · exact put
theorem run_grow {now : Int} {es : List Ent} (rs : List Row) : es.length ≤ (runE now es rs).1.length := by
  refine snoc_ind (P := fun rs => es.length ≤ (runE now es rs).1.length) (Nat.le_refl _) (fun l a ih => ?_) rs
  rw [run_snoc]
  generalize (runE now es l).1 = es' at *
  have := (mem_putE (es := es') (e := ⟨a, now⟩)).2
  unfold stepE
  split
  · simp only; omega
  · split
    · split <;> exact ih
    · simp only; omega
theorem run_db {ko ro : Obj} {new : Led} {Xs : List Row} {rs : List Row} (h : DbSt prog w im now i x) (hX : ∀ r ∈ Xs, r ∈ rs) (hP : Pic now rs) (hb : ∀ r ∈ rs, r.num ≤ (i : Int)) (h8 : now ≤ 800)
    (hk : Known prog w (new ++ im) ko (runE now x.es Xs).1) (hr : Rows prog w (new ++ im) ro (runE now x.es Xs).1) : DbSt prog w (new ++ im) now (i + 1) ⟨x.d, x.kp, x.rp, ko, ro, (runE now x.es Xs).1⟩ :=
  ⟨h.db.mono Sub.app, hk, hr, h.iv.run h8 Xs fun r hr => hP.fit r (hX r hr), fun e he => by have := run_nums (now := now) h.nu Xs (fun r hr => hb r (hX r hr)) e he; omega, h.p1, h.p2⟩
theorem pic_db {l : Addr} {lo : Obj} {new : Led} {vs : List Value} {rs : List Row} (h : DbSt prog w im now i x) (hl : 1 ≤ x.es.length) (hlo : LstO lo vs) (hv : All2 (RowV (new ++ im)) vs rs) (ha : AllRows x.es now rs) : PicAt (((l, lo) :: new) ++ im) now (i + 1) (.ref l) := by
  refine ⟨l, lo, vs, rs, rfl, List.Mem.head _, hlo, all_mono (Sub.refl _).cons hv, pic_of h.iv ha, ?_, ?_⟩
  · obtain ⟨ns, p, _, q⟩ := ha
    rw [q.len, p.length_eq]; simpa [names] using hl
  · intro r hr
    obtain ⟨ns, p, _, q⟩ := ha
    obtain ⟨n, _, e, h1, h2⟩ := q.memL r hr
    rw [h2]
    show e.row.num ≤ _
    have := h.nu e (findE_mem h1)
    omega
theorem muts_off {l new : Led} {o1 o2 o3 o4 o5 o6 o7 o8 : Obj} (ab : Above l new) (h1 : (bx, o1) ∈ l) (h2 : (pc, o2) ∈ l) (h3 : (x.kp, o3) ∈ l) (h4 : (x.rp, o4) ∈ l) (h5 : (y.kp, o5) ∈ l) (h6 : (y.rp, o6) ∈ l) (h7 : (z.kp, o7) ∈ l) (h8 : (z.rp, o8) ∈ l) : ∀ q ∈ Muts bx pc x y z, Off q new := by
  intro q hq
  simp only [Muts, List.cons_append, List.nil_append, List.mem_cons, List.not_mem_nil, or_false] at hq
  rcases hq with rfl | rfl | rfl | rfl | rfl | rfl | rfl | rfl
  · exact Off.of' ab h1
  · exact Off.of' ab h2
  · exact Off.of' ab h3
  · exact Off.of' ab h4
  · exact Off.of' ab h5
  · exact Off.of' ab h6
  · exact Off.of' ab h7
  · exact Off.of' ab h8
theorem Pick.sub {bo po : Obj} (P : Pick j a b c x y z) : Sub ((bx, bo) :: (x.kp, x.ko) :: (x.rp, x.ro) :: (pc, po) :: (y.kp, y.ko) :: (y.rp, y.ro) :: (z.kp, z.ko) :: (z.rp, z.ro) :: im) (canon bx pc bo po a b c im) := by
  cases P <;> intro p hp <;> simp only [canon, List.mem_cons] at hp ⊢ <;> simp only [or_assoc, or_left_comm, or_comm] at hp ⊢ <;> exact hp
theorem Pick.sub' {bo po : Obj} (P : Pick j a b c x y z) : Sub (canon bx pc bo po a b c im) ((bx, bo) :: (x.kp, x.ko) :: (x.rp, x.ro) :: (pc, po) :: (y.kp, y.ko) :: (y.rp, y.ro) :: (z.kp, z.ko) :: (z.rp, z.ro) :: im) := by
  cases P <;> intro p hp <;> simp only [canon, List.mem_cons] at hp ⊢ <;> simp only [or_assoc, or_left_comm, or_comm] at hp ⊢ <;> exact hp
theorem canon_apart {its new l : Led} {bo po bo' po' : Obj} (P : Pick j a b c x y z) (P' : Pick j a' b' c' x' y z) (e2 : x'.kp = x.kp) (e3 : x'.rp = x.rp) (ap : Apart its (canon bx pc bo po a b c im)) (ab : Above l new) (s : Sub its l) : Apart its (canon bx pc bo' po' a' b' c' (new ++ im)) := by
  have ap2 := Apart.less P.sub ap
  refine Apart.less P'.sub' ?_
  intro p hp q hq
  simp only [List.mem_cons, List.mem_append] at hp
  rcases hp with rfl | rfl | rfl | rfl | rfl | rfl | rfl | rfl | hp | hp
  · exact ap2 (bx, bo) (by simp) q hq
  · show x'.kp ≠ _; rw [e2]; exact ap2 (x.kp, x.ko) (by simp) q hq
  · show x'.rp ≠ _; rw [e3]; exact ap2 (x.rp, x.ro) (by simp) q hq
  · exact ap2 (pc, po) (by simp) q hq
  · exact ap2 (y.kp, y.ko) (by simp) q hq
  · exact ap2 (y.rp, y.ro) (by simp) q hq
  · exact ap2 (z.kp, z.ko) (by simp) q hq
  · exact ap2 (z.rp, z.ro) (by simp) q hq
  · exact Nat.ne_of_gt (ab p hp q (s q hq))
  · exact ap2 p (by simp [hp]) q hq
theorem Dist.offBox {po : Obj} (h : Dist (Muts bx pc a b c) im) : Off bx ((pc, po) :: (a.kp, a.ko) :: (a.rp, a.ro) :: (b.kp, b.ko) :: (b.rp, b.ro) :: (c.kp, c.ko) :: (c.rp, c.ro) :: im) := by
  obtain ⟨u1, _, _, u4, u5, _⟩ := h.use (po := po)
  intro p hp
  rcases List.mem_cons.mp hp with rfl | hp
  · exact u1 _ (List.Mem.head _)
  rcases List.mem_cons.mp hp with rfl | hp
  · exact Ne.symm u4
  rcases List.mem_cons.mp hp with rfl | hp
  · exact Ne.symm u5
  · exact u1 p (List.Mem.tail _ hp)
theorem off_in {q : Addr} {its l led : Led} (h1 : Off q its) (h2 : Off q l) (h : ∀ p ∈ led, p ∈ its ∨ p ∈ l) : Off q led := fun p hp => (h p hp).elim (h1 p) (h2 p)
end

section
variable {prog : Program} {w : World} {bx pc : Addr} {im : Led} {j i : Nat} {now : Int} {x y z a b c a' b' c' x' : Db}
theorem off_mid {q : Addr} {its im : Led} (A : Led) (h1 : Off q its) (h2 : Off q (A ++ im)) : Off q (A ++ (its ++ im)) := fun p hp => by
  rcases List.mem_append.mp hp with hp | hp
  · exact h2 p (List.mem_append_left _ hp)
  rcases List.mem_append.mp hp with hp | hp
  · exact h1 p hp
  · exact h2 p (List.mem_append_right _ hp)
theorem dbok {led : Led} {b : Nat} (h : DbSt prog w im now b x) (s : Sub im led) (m1 : (x.rp, x.ro) ∈ led) (m2 : (x.kp, x.ko) ∈ led) : DbOk prog w im led now (.ref x.d) (.ref x.kp) :=
  ⟨x.d, x.kp, x.rp, x.ro, x.ko, x.es, rfl, rfl, h.db.mono s, m1, m2, h.kn, h.rw, h.iv, h.p2, h.p1⟩
theorem Dist.offPic {bo : Obj} (h : Dist (Muts bx pc x y z) im) : Off pc ((bx, bo) :: (x.kp, x.ko) :: (x.rp, x.ro) :: (y.kp, y.ko) :: (y.rp, y.ro) :: (z.kp, z.ko) :: (z.rp, z.ro) :: im) := by
  obtain ⟨nd, off⟩ := h
  unfold Muts at nd off
  have o1 := off pc (by simp)
  simp only [List.cons_append, List.nil_append, List.nodup_cons, List.mem_cons, not_or, List.not_mem_nil, not_false_eq_true, and_true] at nd
  obtain ⟨⟨n1, n2, n3, n4, n5, n6, n7⟩, ⟨m2, m3, m4, m5, m6, m7⟩, _⟩ := nd
  exact Off.cons' n1 (Off.cons' (Ne.symm m2) (Off.cons' (Ne.symm m3) (Off.cons' (Ne.symm m4) (Off.cons' (Ne.symm m5) (Off.cons' (Ne.symm m6) (Off.cons' (Ne.symm m7) o1))))))
theorem muts_off2 {D : Addr} {lo : Obj} {l new : Led} {o1 o2 o3 o4 o5 o6 o7 o8 : Obj} (ab : Above l new) (of : Off D (new ++ l)) (h1 : (bx, o1) ∈ l) (h2 : (pc, o2) ∈ l) (h3 : (x.kp, o3) ∈ l) (h4 : (x.rp, o4) ∈ l) (h5 : (y.kp, o5) ∈ l) (h6 : (y.rp, o6) ∈ l) (h7 : (z.kp, o7) ∈ l) (h8 : (z.rp, o8) ∈ l) : ∀ q ∈ Muts bx pc x y z, Off q ((D, lo) :: new) := by
  intro q hq
  have hh := muts_off ab h1 h2 h3 h4 h5 h6 h7 h8 q hq
  have hd : ∃ o, (q, o) ∈ l := by
    simp only [Muts, List.cons_append, List.nil_append, List.mem_cons, List.not_mem_nil, or_false] at hq
    rcases hq with rfl | rfl | rfl | rfl | rfl | rfl | rfl | rfl
    · exact ⟨_, h1⟩
    · exact ⟨_, h2⟩
    · exact ⟨_, h3⟩
    · exact ⟨_, h4⟩
    · exact ⟨_, h5⟩
    · exact ⟨_, h6⟩
    · exact ⟨_, h7⟩
    · exact ⟨_, h8⟩
  obtain ⟨o, ho⟩ := hd
  exact Off.cons' (Ne.symm (of _ (List.mem_append_right _ ho))) hh
theorem canon_apart2 {its new l : Led} {D : Addr} {lo bo po bo' po' : Obj} (ap : Apart its (canon bx pc bo po a b c im)) (ab : Above l new) (of : Off D (new ++ l)) (s : Sub its l) : Apart its (canon bx pc bo' po' a b c (((D, lo) :: new) ++ im)) := by
  intro p hp q hq
  simp only [canon, List.mem_cons, List.cons_append, List.mem_append] at hp
  rcases hp with rfl | rfl | rfl | rfl | rfl | rfl | rfl | rfl | rfl | hp | hp
  · exact ap (bx, bo) (by simp) q hq
  · exact ap (pc, po) (by simp) q hq
  · exact ap (a.kp, a.ko) (by simp) q hq
  · exact ap (a.rp, a.ro) (by simp) q hq
  · exact ap (b.kp, b.ko) (by simp) q hq
  · exact ap (b.rp, b.ro) (by simp) q hq
  · exact ap (c.kp, c.ko) (by simp) q hq
  · exact ap (c.rp, c.ro) (by simp) q hq
  · exact Ne.symm (of q (List.mem_append_right _ (s q hq)))
  · exact Nat.ne_of_gt (ab p hp q (s q hq))
  · exact ap p (by simp [hp]) q hq
end

abbrev bodiesD (rs : List Row) : PyData := .list (rs.map fun r => bodyD r.num r.tot r.fin)
def Out (led : Led) (now : Int) (es : List Ent) (B1 B2 : List Row) (v : Value) : Prop := ∃ rs0 rsE, AllRows es now rs0 ∧ AllRows (runE now (runE now (madeEs now rs0) B1).1 B2).1 now rsE ∧ DatAt led v (bodiesD rsE) ∧ ∃ D, v = .ref D
theorem Out.mono {led led' : Led} {now : Int} {es : List Ent} {B1 B2 : List Row} {v : Value} (s : Sub led led') (h : Out led now es B1 B2 v) : Out led' now es B1 B2 v := by
  obtain ⟨a, b, h1, h2, h3, h4⟩ := h
  exact ⟨a, b, h1, h2, h3.mono s, h4⟩
theorem outs_same {led : Led} {now : Int} {es : List Ent} {B1 B2 : List Row} {v1 v2 : Value} (hI : InvE now es) (h8 : now ≤ 800) (p1 : Pic now B1) (p2 : Pic now B2) (h1 : Out led now es B1 B2 v1) (h2 : Out led now es B2 B1 v2) :
    ∃ d1 d2, DatAt led v1 d1 ∧ DatAt led v2 d2 ∧ d1.canLay0 = true ∧ d2.canLay0 = true ∧ d1.depth ≤ 8 ∧ PyData.eqv d1 d2 = true := by
  obtain ⟨rs0, rsE, a1, a2, a3, _⟩ := h1
  obtain ⟨rs0', rsE', b1, b2, b3, _⟩ := h2
  obtain rfl := all_rows_one a1 b1
  have I0 : InvE now (madeEs now rs0) := InvE.made h8 rs0 (pic_of hI a1).fit
  have I1 := (I0.run h8 B1 p1.fit).run h8 B2 p2.fit
  have I2 := (I0.run h8 B2 p2.fit).run h8 B1 p1.fit
  have hs : All2 SamePl rsE rsE' := same_all I1.nd I2.nd (fun n e h => mx_same B1 B2 h) (fun n e h => (mx_same B2 B1 h).imp fun _ z => z.1) a2 b2
  have he : rsE.map (fun r => bodyD r.num r.tot r.fin) = rsE'.map fun r => bodyD r.num r.tot r.fin := by
    clear a2 a3 b2 b3
    induction hs with
    | nil => rfl
    | cons r _ ih => rw [List.map_cons, List.map_cons, ih, r.1, r.2.1, r.2.2]
  refine ⟨_, _, a3, b3, bodies_can _, bodies_can _, bodies_depth _, ?_⟩
  unfold bodiesD
  rw [he]
  exact PySem.SeqAt.eqv_refl _ (bodies_can _)
def EqAt (prog : Program) (w : World) (A : Around) (x y : Value) (Q E : Value → Shared → Prop) (s : Shared) : Prop := wpAny (model prog w) A (compareOp .Eq x y) Q E s
theorem eq_stop {prog : Program} {w : World} {A : Around} {x y : Value} {Q E : Value → Shared → Prop} {s : Shared} (h : EqAt prog w A x y Q E s) : wpAny (model prog w) A (compareOp .Eq x y) Q E s := h
theorem Above.tl {l n : Led} {x : Addr × Obj} (h : Above l (x :: n)) : Above l n := fun q hq => h q (List.Mem.tail _ hq)
def BodV (led : Led) (v : Value) (r : Row) : Prop := ∃ bp, v = .ref bp ∧ BodyAt led bp r.num r.tot r.fin
theorem bods_dat {led : Led} {vs : List Value} {rs : List Row} (x : All2 (BodV led) vs rs) : All2 (DatAt led) vs (rs.map fun r => bodyD r.num r.tot r.fin) := by
  induction x with
  | nil => exact .nil
  | cons r _ ih => obtain ⟨a, rfl, h⟩ := r; exact .cons h.dat ih
theorem BodV.mono {led led' : Led} {v : Value} {r : Row} (s : Sub led led') (h : BodV led v r) : BodV led' v r := by obtain ⟨b, e, x⟩ := h; exact ⟨b, e, x.mono s⟩

section
variable {prog : Program} {w : World} {A : Around} {s : Shared} {B : Heap} {L : Addr} {m mg mb : Str → Option Value} {led : List (Addr × Obj)} {p : Program} {loose : List Str} {mean : ExcName → Option Value} {Q E : Value → Shared → Prop} {rn : Nat}

end
theorem thelaw : PySem.Challenge.rw_sz0113_01.Holds := by
  refine holds_law ws fun said => ?_
  refine PySem.W.holds_open (q := hd.view_39) (loose := loose) (Xt := fun s => xlAt hd.view_39 [] s && recOk PySem.Challenge.rw_sz0113_01.row.records s) (XP := XL hd.view_39 []) (Yf := hook.obs) (Ya := hook.val) (YP := hook.says) (N := 2594) left hook.of hook.keeps
    (fun s e => xl_of s (Bool.and_eq_true_iff.mp e).1) XL.keeps (by rfl) (by rfl) (by rfl) (fun s e => recFacts_of (Bool.and_eq_true_iff.mp e).2) (by rfl) said (by decide +kernel) ⟨rfl, rfl, rfl, rfl, rfl, by decide +kernel⟩ ?zqhw ?zqhc
  case zqhw => w_witness2
  case zqhc =>
    k_fill
    intro wd s0 s1 mg mb G Y fa oo pm cd doc dV kV ho hd hcd hD hmg hg args vals as hpre hlay hrd hwl hlo
    have KX := kIn_of Y
    refine Ground.open G ?_
    intro T B D TE TW
    try (refine guard_noD D (by decide +kernel) ?_; clear D)
    obtain ⟨_, _, M⟩ := bmod_of_top T
    have TA := at_of_top T
    try (obtain ⟨_, _, he, B0⟩ := based_of_top T rfl hmg ho hd; have he' : cd = _ := he; subst he'; clear he)
    clear hmg
    wrow_args hpre hlay hrd hwl hlo
    refine enter_call ?_
    w_top on
    refine codeAny_mono ?_ (fun _ _ g => GoodW.toG g)
    have K0 := below_caller (Top.heap T)
    w_call any ho hd hcd hD T F
    clear hd TA
    k_drop
    rename_i w9 w8 w7 w6 ns hs hlay hL1 hr1 hl2 w4 w3 l vs w0 hL ra w1 r0 hI hr hc1 hc2 h1 N0
    rename Fr _ _ _ _ => F0
    clear G Y B TE TW M hcd hs hlay hL1 hr1 hl2 ra w1 r0 hr hc2 K0 hD ho said
    dsimp only
    show wpAny _ _ _ _ _ _
    k_fold
    (repeat' (first | (k_unfold; (try dsimp only)) | ((with_reducible show wpAny _ _ (subscriptTail _ _ (Value.ref _) (Value.ref _)) _ _ _); with_reducible (k_here; (with_reducible show wpAny _ _ (subscriptTail _ (PySem.Expr.Slice none none (some _) _) (Value.ref _) (Value.ref _)) _ _ _); k_dflt (refine' pair_rev (by k_asm) (by k_asm) (by k_mem) ?_ (by with_unfolding_all rfl) (by intro _; with_unfolding_all rfl); k_whole); intro _ _ _ _ _; (try k_sweep))) | ((with_reducible show wpAny _ _ (newTuple _) _ _ _); with_reducible (k_here; k_dflt (refine' kup_newTuple (by k_asm) (by k_asm) ?_ (by exact Nat.le_of_ble_eq_true rfl)); intro _ _ _ _ _; (try k_sweep))) | ((with_reducible show wpAny _ _ (subscriptTail _ _ (Value.ref _) _) _ _ _); (first | with_reducible (k_here; (with_reducible show wpAny _ _ (subscriptTail _ _ (Value.ref _) (Value.int _ _)) _ _ _); k_dflt (refine' lst_tail (by k_asm) (by k_mem) (by assumption) (by omega) (by omega) (by assumption) ?_ (by with_unfolding_all rfl); k_whole)) | with_reducible (k_here; (with_reducible show wpAny _ _ (subscriptTail _ _ (Value.ref _) (Value.int _ _)) _ _ _); k_dflt (refine' lst_get (by k_asm) (by k_mem) (by assumption) (by first | omega | exact fmod_ge (by omega)) (by first | omega | exact Int.fmod_lt_of_pos _ (by omega)) (by omega) ?_ (by with_unfolding_all rfl); k_whole); intro _ _) | with_reducible (k_here; (with_reducible show wpAny _ _ (subscriptTail _ _ (Value.ref _) (Value.int _ _)) _ _ _); k_dflt (refine' lst_tail (by k_asm) (by k_mem) (by assumption) (by decide) (by decide) (by exact rfl) ?_ (by with_unfolding_all rfl); k_whole)))) | ((with_reducible show wpAny _ _ (assign (Expr.Tuple _ _ _) _ (Value.ref _)) _ _ _); with_reducible (k_here; (with_reducible show wpAny _ _ (assign (Expr.Tuple _ _ _) _ (Value.ref _)) _ _ _); k_dflt (refine' unpackN_ (by k_asm) (by k_asm) (by first | assumption | (refine News.isTup (by k_asm) (by k_mem))) (by (first | assumption | exact room_top | exact Room.h room_top | exact Room.u_lt room_top)) (by exact rfl) (by exact rfl) ?_); intro _ _ _; (try k_sweep))) | ((with_reducible show wpAny _ _ (unpackItems (Value.ref _) _ _) _ _ _); with_reducible (k_here; k_dflt (refine' unpackItemsN_ (by k_asm) (by k_asm) (by first | assumption | (refine News.isTup (by k_asm) (by k_mem))) (by (first | assumption | exact room_top | exact Room.h room_top | exact Room.u_lt room_top)) (by exact rfl) ?_; k_whole); intro _ _ _; (try k_sweep))) | ((with_reducible show wpAny _ _ (call (Value.builtin "len") _) _ _ _); with_reducible (k_here; (with_reducible show wpAny _ _ (call (Value.builtin "len") [Value.ref _]) _ _ _); k_dflt (refine' lst_len (by k_asm) (by k_mem) (by exact LstX.lst (by assumption)) (by omega) ?_; k_whole); intro _ _)) | ((with_reducible show wpAny _ _ (eval (Expr.Name _ _) _) _ _ _); (first | with_reducible (k_here; (with_reducible show wpAny _ _ (eval (Expr.Name _ _) (compEnvC _ _ _ _)) _ _ _); k_dflt (first | refine LCgL.ld_own (by k_asm) (by k_mem) (by assumption) (by assumption) ?_ | refine ld_cell (by k_asm) (by rfl) (by k_mem) (by assumption) ?_)) | with_reducible (k_here; k_dflt (apply nameX_L; (case F => k_asm); (case hk => rfl); (case hx => rfl); (case hv => walk_at "M look"); (case hd => decide); k_whole)))) | ((with_reducible show wpAny _ _ (getMethod (Value.ref _) _ _) _ _ _); with_reducible (k_here; (with_reducible show wpAny _ _ (getMethod (Value.ref _) (PySem.Str.ofString "append") _) _ _ _); k_dflt (refine' lst_method (by k_asm) (by k_mem) (by assumption) PySem.F.slot_list_append PySem.F.type_list_append ?_))) | ((with_reducible show wpAny _ _ (call (Value.builtin "list.append") _) _ _ _); with_reducible (k_here; k_dflt (apply lst_append; (case F => k_asm); (case N => k_asm); (case U => walk_at "M up"); (case ho => assumption); (case hz => omega); k_whole); intro _ _ _; intro zN; (try dsimp only at zN); revert zN; intro _; intro _; (try k_sweep))) | ((with_reducible show wpAny _ _ (exec (Stmt.For _ _ _ _ _) _) _ _ _); with_reducible (k_here; k_dflt (refine' for_go (by k_asm) ?_); k_whole)) | ((with_reducible show wpAny _ _ (exec (Stmt.For _ _ _ _ _) _) _ _ _); with_reducible (k_here; k_dflt (refine' for_go (by k_asm) ?_); k_whole)) | ((with_reducible show wpAny _ _ (call (Value.ref _) _) _ _ _); (first | with_reducible (k_here; (with_reducible show wpAny _ _ (call (Value.ref 211) _) _ _ _); k_dflt (refine' call_stop ?_); k_whole) | with_reducible (k_here; (with_reducible show wpAny _ _ (call (Value.ref 204) _) _ _ _); k_dflt (refine' call_stop ?_); k_whole) | with_reducible (k_here; (with_reducible show wpAny _ _ (call (Value.ref 225) _) _ _ _); k_dflt (refine' call_stop ?_); k_whole) | with_reducible (k_here; (with_reducible show wpAny _ _ (call (Value.ref 126) _) _ _ _); k_dflt (refine' call_stop ?_); k_whole) | with_reducible (k_here; (with_reducible show wpAny _ _ (call (Value.ref 218) _) _ _ _); k_dflt (refine' call_stop ?_); k_whole) | with_reducible (k_here; (with_reducible show wpAny _ _ (call (Value.ref 197) _) _ _ _); k_dflt (refine' call_stop ?_); k_whole) | with_reducible (k_here; k_dflt (apply draw_spec; (case hR => (first | assumption | exact room_top | exact Room.h room_top | exact Room.u_lt room_top)); (case F => k_asm); (case X => k_asm); (case N => k_asm); (case T => k_asm); (case U => walk_at "M up"); (case ho => assumption); (case hz => first | assumption | omega); (case hk => first | assumption | omega); (case hk1 => first | assumption | omega); (case hm0 => first | decide | omega); (case hm1 => first | decide | omega); (case hU => intro o9; k_mem); (case hlo => assumption); (case hi => assumption); k_whole); intro _ _ _ _ _ _ _ _ _; intro zN; (try dsimp only at zN); revert zN; intro _; intro _; (try k_sweep)) | with_reducible (k_here; k_dflt (refine' new_db (by (first | assumption | exact room_top | exact Room.h room_top | exact Room.u_lt room_top)) (by k_asm) (by k_asm) (by k_asm) (by k_asm) ?_; k_whole); intro _ _ _ _ _ _ _ _ _ _ _ _ _ _ _; (try k_sweep)))) | ((with_reducible show wpAny _ _ (eval (Expr.ListComp _ _ _ _) _) _ _ _); with_reducible (k_here; k_dflt (refine LCg.ListComp_U (F₀ := by k_asm) (by rfl) (by decide) (by rfl) (by decide) (by rfl) ?_))) | ((with_reducible show wpAny _ _ (compareOp CmpOp.Eq (Value.ref _) (Value.ref _)) _ _ _); with_reducible (k_here; k_dflt (refine' eq_stop ?_); k_whole)) | walk1 | (dsimp only; walk1) | (dsimp only; k_unfold; try dsimp only)))
    rename_i D3 ws _ hIw hCw _ _ bl c0 _ l9 bx _ l8 pc _ l7 Dt _ l6 _ _ _ _ x0 dx0 r0 hs0 t0 n0 ro0 _ _ hi0 l10 l20 l30 x1 dx1 r1 hs1 t1 n1 ro1 _ _ hi1 l11 l21 l31 x2 dx2 r2 hs2 t2 n2 ro2 _ _ hi2 l12 l22 l32 lb _ l5 k0 _ o0 _ _ _ ho0 _ l4 k1 _ o1 _ _ _ ho1 _ l3 k2 _ o2 _ _ _ ho2 _ l2 lk _ l1 Dk _ l0 _ _ hh0 _ _ _ hh _ ta ua va hRg FF NN _
    have hwz : ws.length ≤ 1000 := by rw [hIw.length, hCw]; omega
    obtain ⟨bo, po, a, b, c, im, NS, S0⟩ := loop_start NN (by k_mem) hIw hwz (by k_mem) (by k_mem) (by k_mem) (by k_mem) (by k_mem) (by k_mem) hi0 ho0 (by k_mem) (by k_mem) (by k_mem) (by k_mem) hi1 ho1 (by k_mem) (by k_mem) (by k_mem) (by k_mem) hi2 ho2 (by k_mem) (by k_mem)
      l8.1 l7.1 (l10 (pc, _) (by k_mem)) l20 l30 (l11 (r0, _) (by k_mem)) l21 l31 (l12 (r1, _) (by k_mem)) l22 l32 l5.1 l4.1 l3.1 l2.1 l1.1
    clear l9 l8 l7 l6 l10 l20 l30 l11 l21 l31 l12 l22 l32 l5 l4 l3 l2 l1 l0 hi0 hi1 hi2 ho0 ho1 ho2 NN hIw hCw hwz
    refine for_range (N₀ := 12) (fun i m' nn => ∃ now nt k bo po pvs a b c im, nn = canon bx pc bo po a b c im ∧ St Challenge.rw_sz0113_01.row.prog wd bx pc bl lb lk i (10 * (i : Int)) (59 * (i : Int)) now k bo po pvs a b c im ∧ m' (Str.ofString "box") = some (.ref bx) ∧ m' (Str.ofString "pictures") = some (.ref pc) ∧ m' (Str.ofString "bases") = some (.ref lb) ∧ m' (Str.ofString "known") = some (.ref lk) ∧ m' (Str.ofString "now") = some (.int now nt)) room_top.h FF NS hRg (by decide) (by decide) ⟨0, _, 0, bo, po, [], a, b, c, im, rfl, S0.wide (by decide) (by decide), rfl, rfl, rfl, rfl, rfl⟩ ?_ ?_
    · rintro i tt m1 nn h3 tk3 its hi12 ⟨now, nt, k, bo, po, pvs, a, b, c, im, rfl, S, q1, q2, q3, q4, q5⟩ F3 N3 ap zTQ zhT
      clear FF NS S0
      refine assign_cut (fun s' => Hold (∃ h' tk' m', s' = ⟨h', s1.gens, s1.drawn, tk', s1.os⟩ ∧ Fr s1.heap s1.heap.objs.size h' m' ∧ News s1.heap s1.heap.objs.size h' (its ++ canon bx pc bo po a b c im) ∧ m' (Str.ofString "box") = some (.ref bx) ∧ m' (Str.ofString "pictures") = some (.ref pc) ∧ m' (Str.ofString "bases") = some (.ref lb) ∧ m' (Str.ofString "known") = some (.ref lk) ∧ m' (Str.ofString "now") = some (.int now nt) ∧ m' (Str.ofString "turn") = some (.int (i : Int) tt))) ?_ ?_
      · intro zIQ zhI
        (repeat' (first | (k_unfold; (try dsimp only)) | ((with_reducible show wpAny _ _ (subscriptTail _ _ (Value.ref _) (Value.ref _)) _ _ _); with_reducible (k_here; (with_reducible show wpAny _ _ (subscriptTail _ (PySem.Expr.Slice none none (some _) _) (Value.ref _) (Value.ref _)) _ _ _); k_dflt (refine' pair_rev (by k_asm) (by k_asm) (by k_mem) ?_ (by with_unfolding_all rfl) (by intro _; with_unfolding_all rfl); k_whole); intro _ _ _ _ _; (try k_sweep))) | ((with_reducible show wpAny _ _ (newTuple _) _ _ _); with_reducible (k_here; k_dflt (refine' kup_newTuple (by k_asm) (by k_asm) ?_ (by exact Nat.le_of_ble_eq_true rfl)); intro _ _ _ _ _; (try k_sweep))) | ((with_reducible show wpAny _ _ (subscriptTail _ _ (Value.ref _) _) _ _ _); (first | with_reducible (k_here; (with_reducible show wpAny _ _ (subscriptTail _ _ (Value.ref _) (Value.int _ _)) _ _ _); k_dflt (refine' lst_tail (by k_asm) (by k_mem) (by assumption) (by omega) (by omega) (by assumption) ?_ (by with_unfolding_all rfl); k_whole)) | with_reducible (k_here; (with_reducible show wpAny _ _ (subscriptTail _ _ (Value.ref _) (Value.int _ _)) _ _ _); k_dflt (refine' lst_get (by k_asm) (by k_mem) (by assumption) (by first | omega | exact fmod_ge (by omega)) (by first | omega | exact Int.fmod_lt_of_pos _ (by omega)) (by omega) ?_ (by with_unfolding_all rfl); k_whole); intro _ _) | with_reducible (k_here; (with_reducible show wpAny _ _ (subscriptTail _ _ (Value.ref _) (Value.int _ _)) _ _ _); k_dflt (refine' lst_tail (by k_asm) (by k_mem) (by assumption) (by decide) (by decide) (by exact rfl) ?_ (by with_unfolding_all rfl); k_whole)))) | ((with_reducible show wpAny _ _ (assign (Expr.Tuple _ _ _) _ (Value.ref _)) _ _ _); with_reducible (k_here; (with_reducible show wpAny _ _ (assign (Expr.Tuple _ _ _) _ (Value.ref _)) _ _ _); k_dflt (refine' unpackN_ (by k_asm) (by k_asm) (by first | assumption | (refine News.isTup (by k_asm) (by k_mem))) (by (first | assumption | exact room_top | exact Room.h room_top | exact Room.u_lt room_top)) (by exact rfl) (by exact rfl) ?_); intro _ _ _; (try k_sweep))) | ((with_reducible show wpAny _ _ (unpackItems (Value.ref _) _ _) _ _ _); with_reducible (k_here; k_dflt (refine' unpackItemsN_ (by k_asm) (by k_asm) (by first | assumption | (refine News.isTup (by k_asm) (by k_mem))) (by (first | assumption | exact room_top | exact Room.h room_top | exact Room.u_lt room_top)) (by exact rfl) ?_; k_whole); intro _ _ _; (try k_sweep))) | ((with_reducible show wpAny _ _ (call (Value.builtin "len") _) _ _ _); with_reducible (k_here; (with_reducible show wpAny _ _ (call (Value.builtin "len") [Value.ref _]) _ _ _); k_dflt (refine' lst_len (by k_asm) (by k_mem) (by exact LstX.lst (by assumption)) (by omega) ?_; k_whole); intro _ _)) | ((with_reducible show wpAny _ _ (eval (Expr.Name _ _) _) _ _ _); (first | with_reducible (k_here; (with_reducible show wpAny _ _ (eval (Expr.Name _ _) (compEnvC _ _ _ _)) _ _ _); k_dflt (first | refine LCgL.ld_own (by k_asm) (by k_mem) (by assumption) (by assumption) ?_ | refine ld_cell (by k_asm) (by rfl) (by k_mem) (by assumption) ?_)) | with_reducible (k_here; k_dflt (apply nameX_L; (case F => k_asm); (case hk => rfl); (case hx => rfl); (case hv => walk_at "M look"); (case hd => decide); k_whole)))) | ((with_reducible show wpAny _ _ (getMethod (Value.ref _) _ _) _ _ _); with_reducible (k_here; (with_reducible show wpAny _ _ (getMethod (Value.ref _) (PySem.Str.ofString "append") _) _ _ _); k_dflt (refine' lst_method (by k_asm) (by k_mem) (by assumption) PySem.F.slot_list_append PySem.F.type_list_append ?_))) | ((with_reducible show wpAny _ _ (call (Value.builtin "list.append") _) _ _ _); with_reducible (k_here; k_dflt (apply lst_append; (case F => k_asm); (case N => k_asm); (case U => walk_at "M up"); (case ho => assumption); (case hz => omega); k_whole); intro _ _ _; intro zN; (try dsimp only at zN); revert zN; intro _; intro _; (try k_sweep))) | ((with_reducible show wpAny _ _ (exec (Stmt.For _ _ _ _ _) _) _ _ _); with_reducible (k_here; k_dflt (refine' for_go (by k_asm) ?_); k_whole)) | ((with_reducible show wpAny _ _ (exec (Stmt.For _ _ _ _ _) _) _ _ _); with_reducible (k_here; k_dflt (refine' for_go (by k_asm) ?_); k_whole)) | ((with_reducible show wpAny _ _ (call (Value.ref _) _) _ _ _); (first | with_reducible (k_here; (with_reducible show wpAny _ _ (call (Value.ref 211) _) _ _ _); k_dflt (refine' call_stop ?_); k_whole) | with_reducible (k_here; (with_reducible show wpAny _ _ (call (Value.ref 204) _) _ _ _); k_dflt (refine' call_stop ?_); k_whole) | with_reducible (k_here; (with_reducible show wpAny _ _ (call (Value.ref 225) _) _ _ _); k_dflt (refine' call_stop ?_); k_whole) | with_reducible (k_here; (with_reducible show wpAny _ _ (call (Value.ref 126) _) _ _ _); k_dflt (refine' call_stop ?_); k_whole) | with_reducible (k_here; (with_reducible show wpAny _ _ (call (Value.ref 218) _) _ _ _); k_dflt (refine' call_stop ?_); k_whole) | with_reducible (k_here; (with_reducible show wpAny _ _ (call (Value.ref 197) _) _ _ _); k_dflt (refine' call_stop ?_); k_whole) | with_reducible (k_here; k_dflt (apply draw_spec; (case hR => (first | assumption | exact room_top | exact Room.h room_top | exact Room.u_lt room_top)); (case F => k_asm); (case X => k_asm); (case N => k_asm); (case T => k_asm); (case U => walk_at "M up"); (case ho => assumption); (case hz => first | assumption | omega); (case hk => first | assumption | omega); (case hk1 => first | assumption | omega); (case hm0 => first | decide | omega); (case hm1 => first | decide | omega); (case hU => intro o9; k_mem); (case hlo => assumption); (case hi => assumption); k_whole); intro _ _ _ _ _ _ _ _ _; intro zN; (try dsimp only at zN); revert zN; intro _; intro _; (try k_sweep)) | with_reducible (k_here; k_dflt (refine' new_db (by (first | assumption | exact room_top | exact Room.h room_top | exact Room.u_lt room_top)) (by k_asm) (by k_asm) (by k_asm) (by k_asm) ?_; k_whole); intro _ _ _ _ _ _ _ _ _ _ _ _ _ _ _; (try k_sweep)))) | ((with_reducible show wpAny _ _ (eval (Expr.ListComp _ _ _ _) _) _ _ _); with_reducible (k_here; k_dflt (refine LCg.ListComp_U (F₀ := by k_asm) (by rfl) (by decide) (by rfl) (by decide) (by rfl) ?_))) | ((with_reducible show wpAny _ _ (compareOp CmpOp.Eq (Value.ref _) (Value.ref _)) _ _ _); with_reducible (k_here; k_dflt (refine' eq_stop ?_); k_whole)) | walk1 | (dsimp only; walk1) | (dsimp only; k_unfold; try dsimp only)))
        rename Fr _ _ _ _ => F4
        rename News _ _ _ _ => N4
        refine zhI _ ?_; refine Hold.of ⟨_, _, _, rfl, F4, N4, ?_, ?_, ?_, ?_, ?_, ?_⟩
        all_goals (walk_at "M look")
      · rintro s' ⟨h4, tk4, m4, rfl, F4, N4, q1, q2, q3, q4, q5, q6⟩
        clear F3 N3
        obtain ⟨kt, lbo⟩ := S.bo
        obtain ⟨blo, wl, wns, mbl, lbl, ibl, zbl⟩ := S.bl
        have hk0 := S.k0
        have hk1 := S.k1
        have hn0 := S.n0
        have hn1 := S.n1
        refine execs_cut 4 (fun s' => Hold (∃ h' tk' m' now nt k bo form tf j ta, s' = ⟨h', s1.gens, s1.drawn, tk', s1.os⟩ ∧ Fr s1.heap s1.heap.objs.size h' m' ∧ News s1.heap s1.heap.objs.size h' (its ++ canon bx pc bo po a b c im) ∧ St Challenge.rw_sz0113_01.row.prog wd bx pc bl lb lk i (10 * (i : Int) + 3) (59 * (i : Int) + 59) now k bo po pvs a b c im ∧
      (form = 0 ∨ form = 1 ∨ form = 2) ∧ j < 3 ∧ (i < 3 → form = 0 ∧ j = i) ∧ (i = 3 → form = 1) ∧ m' (Str.ofString "box") = some (.ref bx) ∧ m' (Str.ofString "pictures") = some (.ref pc) ∧ m' (Str.ofString "bases") = some (.ref lb) ∧ m' (Str.ofString "known") = some (.ref lk) ∧ m' (Str.ofString "now") = some (.int now nt) ∧ m' (Str.ofString "form") = some (.int form tf) ∧ m' (Str.ofString "at") = some (.int ((j : Nat) : Int) ta))) ?_ ?_
        · intro zIQ zhI
          simp only [List.take_succ_cons, List.take_zero]
          have oBX := S.dist.offBox (po := po)
          have oBI : Off bx its := Apart.off ap (List.Mem.head _)
          (repeat' (first | (k_unfold; (try dsimp only)) | ((with_reducible show wpAny _ _ (subscriptTail _ _ (Value.ref _) (Value.ref _)) _ _ _); with_reducible (k_here; (with_reducible show wpAny _ _ (subscriptTail _ (PySem.Expr.Slice none none (some _) _) (Value.ref _) (Value.ref _)) _ _ _); k_dflt (refine' pair_rev (by k_asm) (by k_asm) (by k_mem) ?_ (by with_unfolding_all rfl) (by intro _; with_unfolding_all rfl); k_whole); intro _ _ _ _ _; (try k_sweep))) | ((with_reducible show wpAny _ _ (newTuple _) _ _ _); with_reducible (k_here; k_dflt (refine' kup_newTuple (by k_asm) (by k_asm) ?_ (by exact Nat.le_of_ble_eq_true rfl)); intro _ _ _ _ _; (try k_sweep))) | ((with_reducible show wpAny _ _ (subscriptTail _ _ (Value.ref _) _) _ _ _); (first | with_reducible (k_here; (with_reducible show wpAny _ _ (subscriptTail _ _ (Value.ref _) (Value.int _ _)) _ _ _); k_dflt (refine' lst_tail (by k_asm) (by k_mem) (by assumption) (by omega) (by omega) (by assumption) ?_ (by with_unfolding_all rfl); k_whole)) | with_reducible (k_here; (with_reducible show wpAny _ _ (subscriptTail _ _ (Value.ref _) (Value.int _ _)) _ _ _); k_dflt (refine' lst_get (by k_asm) (by k_mem) (by assumption) (by first | omega | exact fmod_ge (by omega)) (by first | omega | exact Int.fmod_lt_of_pos _ (by omega)) (by omega) ?_ (by with_unfolding_all rfl); k_whole); intro _ _) | with_reducible (k_here; (with_reducible show wpAny _ _ (subscriptTail _ _ (Value.ref _) (Value.int _ _)) _ _ _); k_dflt (refine' lst_tail (by k_asm) (by k_mem) (by assumption) (by decide) (by decide) (by exact rfl) ?_ (by with_unfolding_all rfl); k_whole)))) | ((with_reducible show wpAny _ _ (assign (Expr.Tuple _ _ _) _ (Value.ref _)) _ _ _); with_reducible (k_here; (with_reducible show wpAny _ _ (assign (Expr.Tuple _ _ _) _ (Value.ref _)) _ _ _); k_dflt (refine' unpackN_ (by k_asm) (by k_asm) (by first | assumption | (refine News.isTup (by k_asm) (by k_mem))) (by (first | assumption | exact room_top | exact Room.h room_top | exact Room.u_lt room_top)) (by exact rfl) (by exact rfl) ?_); intro _ _ _; (try k_sweep))) | ((with_reducible show wpAny _ _ (unpackItems (Value.ref _) _ _) _ _ _); with_reducible (k_here; k_dflt (refine' unpackItemsN_ (by k_asm) (by k_asm) (by first | assumption | (refine News.isTup (by k_asm) (by k_mem))) (by (first | assumption | exact room_top | exact Room.h room_top | exact Room.u_lt room_top)) (by exact rfl) ?_; k_whole); intro _ _ _; (try k_sweep))) | ((with_reducible show wpAny _ _ (call (Value.builtin "len") _) _ _ _); with_reducible (k_here; (with_reducible show wpAny _ _ (call (Value.builtin "len") [Value.ref _]) _ _ _); k_dflt (refine' lst_len (by k_asm) (by k_mem) (by exact LstX.lst (by assumption)) (by omega) ?_; k_whole); intro _ _)) | ((with_reducible show wpAny _ _ (eval (Expr.Name _ _) _) _ _ _); (first | with_reducible (k_here; (with_reducible show wpAny _ _ (eval (Expr.Name _ _) (compEnvC _ _ _ _)) _ _ _); k_dflt (first | refine LCgL.ld_own (by k_asm) (by k_mem) (by assumption) (by assumption) ?_ | refine ld_cell (by k_asm) (by rfl) (by k_mem) (by assumption) ?_)) | with_reducible (k_here; k_dflt (apply nameX_L; (case F => k_asm); (case hk => rfl); (case hx => rfl); (case hv => walk_at "M look"); (case hd => decide); k_whole)))) | ((with_reducible show wpAny _ _ (getMethod (Value.ref _) _ _) _ _ _); with_reducible (k_here; (with_reducible show wpAny _ _ (getMethod (Value.ref _) (PySem.Str.ofString "append") _) _ _ _); k_dflt (refine' lst_method (by k_asm) (by k_mem) (by assumption) PySem.F.slot_list_append PySem.F.type_list_append ?_))) | ((with_reducible show wpAny _ _ (call (Value.builtin "list.append") _) _ _ _); with_reducible (k_here; k_dflt (apply lst_append; (case F => k_asm); (case N => k_asm); (case U => walk_at "M up"); (case ho => assumption); (case hz => omega); k_whole); intro _ _ _; intro zN; (try dsimp only at zN); revert zN; intro _; intro _; (try k_sweep))) | ((with_reducible show wpAny _ _ (exec (Stmt.For _ _ _ _ _) _) _ _ _); with_reducible (k_here; k_dflt (refine' for_go (by k_asm) ?_); k_whole)) | ((with_reducible show wpAny _ _ (exec (Stmt.For _ _ _ _ _) _) _ _ _); with_reducible (k_here; k_dflt (refine' for_go (by k_asm) ?_); k_whole)) | ((with_reducible show wpAny _ _ (call (Value.ref _) _) _ _ _); (first | with_reducible (k_here; (with_reducible show wpAny _ _ (call (Value.ref 211) _) _ _ _); k_dflt (refine' call_stop ?_); k_whole) | with_reducible (k_here; (with_reducible show wpAny _ _ (call (Value.ref 204) _) _ _ _); k_dflt (refine' call_stop ?_); k_whole) | with_reducible (k_here; (with_reducible show wpAny _ _ (call (Value.ref 225) _) _ _ _); k_dflt (refine' call_stop ?_); k_whole) | with_reducible (k_here; (with_reducible show wpAny _ _ (call (Value.ref 126) _) _ _ _); k_dflt (refine' call_stop ?_); k_whole) | with_reducible (k_here; (with_reducible show wpAny _ _ (call (Value.ref 218) _) _ _ _); k_dflt (refine' call_stop ?_); k_whole) | with_reducible (k_here; (with_reducible show wpAny _ _ (call (Value.ref 197) _) _ _ _); k_dflt (refine' call_stop ?_); k_whole) | with_reducible (k_here; k_dflt (apply draw_spec; (case hR => (first | assumption | exact room_top | exact Room.h room_top | exact Room.u_lt room_top)); (case F => k_asm); (case X => k_asm); (case N => k_asm); (case T => k_asm); (case U => walk_at "M up"); (case ho => assumption); (case hz => first | assumption | omega); (case hk => first | assumption | omega); (case hk1 => first | assumption | omega); (case hm0 => first | decide | omega); (case hm1 => first | decide | omega); (case hU => intro o9; k_mem); (case hlo => assumption); (case hi => assumption); k_whole); intro _ _ _ _ _ _ _ _ _; intro zN; (try dsimp only at zN); revert zN; intro _; intro _; (try k_sweep)) | with_reducible (k_here; k_dflt (refine' new_db (by (first | assumption | exact room_top | exact Room.h room_top | exact Room.u_lt room_top)) (by k_asm) (by k_asm) (by k_asm) (by k_asm) ?_; k_whole); intro _ _ _ _ _ _ _ _ _ _ _ _ _ _ _; (try k_sweep)))) | ((with_reducible show wpAny _ _ (eval (Expr.ListComp _ _ _ _) _) _ _ _); with_reducible (k_here; k_dflt (refine LCg.ListComp_U (F₀ := by k_asm) (by rfl) (by decide) (by rfl) (by decide) (by rfl) ?_))) | ((with_reducible show wpAny _ _ (compareOp CmpOp.Eq (Value.ref _) (Value.ref _)) _ _ _); with_reducible (k_here; k_dflt (refine' eq_stop ?_); k_whole)) | walk1 | (dsimp only; walk1) | (dsimp only; k_unfold; try dsimp only)))
          all_goals (try dsimp only)
          · rename_i v0 _ t2 bo2 _ _ w0 w1 lb2 _ _ hlt _ _ _ _ _ _ F5 N5 _
            refine zhI _ ?_; refine' Hold.of ⟨_, _, _, now + v0, _, k + 1, bo2, 0, _, i, _, rfl, F5, News.sub N5 ?zqzAN, ((S.draw lb2).time ?zqzAt1 ?zqzAt2 ?zqzAt3).wide ?zqzAt4 ?zqzAt5, .inl rfl, ?zqzAa, fun _ => ⟨rfl, rfl⟩, fun h => (by omega), ?zqzAg1, ?zqzAg2, ?zqzAg3, ?zqzAg4, ?zqzAg5, ?zqzAg6, ?zqzAg7⟩
            (case zqzAg1 => walk_at "M look")
            (case zqzAg2 => walk_at "M look")
            (case zqzAg3 => walk_at "M look")
            (case zqzAg4 => walk_at "M look")
            (case zqzAg5 => walk_at "M look")
            (case zqzAg6 => walk_at "M look")
            (case zqzAg7 => walk_at "M look")
            (case zqzAN => walk_at "M sub")
            all_goals omega
          · rename_i v0 _ _ bo2 _ _ w0 w1 lb2 _ _ h3a _ _ _ _ _ _ h3b _ _ _ _ vf _ _ bo3 _ _ y0 y1 lb3 tf _ _ _ v1 _ _ bo4 _ _ u0 u1 lb4 _ F5 N5
            obtain ⟨j, rfl⟩ := Int.eq_ofNat_of_zero_le u0
            have hform : ([0, 1, 2, 2] : List Int).getD vf.toNat 0 = 0 ∨ ([0, 1, 2, 2] : List Int).getD vf.toNat 0 = 1 ∨ ([0, 1, 2, 2] : List Int).getD vf.toNat 0 = 2 := by
              have : vf = 0 ∨ vf = 1 ∨ vf = 2 ∨ vf = 3 := by omega
              rcases this with h | h | h | h <;> rw [h] <;> decide
            refine zhI _ ?_; refine' Hold.of ⟨_, _, _, now + v0, _, k + 1 + 1 + 1, bo4, _, tf, j, _, rfl, F5, News.sub N5 ?zqzBN, ((((S.draw lb2).draw lb3).draw lb4).time ?zqzBt1 ?zqzBt2 ?zqzBt3).wide ?zqzBt4 ?zqzBt5, hform, ?zqzBa, fun h => (by omega), fun h => (by omega), ?zqzBg1, ?zqzBg2, ?zqzBg3, ?zqzBg4, ?zqzBg5, ?zqzBg6, ?zqzBg7⟩
            (case zqzBg1 => walk_at "M look")
            (case zqzBg2 => walk_at "M look")
            (case zqzBg3 => walk_at "M look")
            (case zqzBg4 => walk_at "M look")
            (case zqzBg5 => walk_at "M look")
            (case zqzBg6 => walk_at "M look")
            (case zqzBg7 => walk_at "M look")
            (case zqzBN => walk_at "M sub")
            all_goals omega
          · rename_i v0 _ _ bo2 _ _ w0 w1 lb2 _ _ h3a _ _ _ _ _ _ h3b _ _ v1 _ _ bo3 _ _ u0 u1 lb3 _ F5 N5
            obtain ⟨j, rfl⟩ := Int.eq_ofNat_of_zero_le u0
            refine zhI _ ?_; refine' Hold.of ⟨_, _, _, now + v0, _, k + 1 + 1, bo3, 1, _, j, _, rfl, F5, News.sub N5 ?zqzCN, (((S.draw lb2).draw lb3).time ?zqzCt1 ?zqzCt2 ?zqzCt3).wide ?zqzCt4 ?zqzCt5, .inr (.inl rfl), ?zqzCa, fun h => (by omega), fun _ => rfl, ?zqzCg1, ?zqzCg2, ?zqzCg3, ?zqzCg4, ?zqzCg5, ?zqzCg6, ?zqzCg7⟩
            (case zqzCg1 => walk_at "M look")
            (case zqzCg2 => walk_at "M look")
            (case zqzCg3 => walk_at "M look")
            (case zqzCg4 => walk_at "M look")
            (case zqzCg5 => walk_at "M look")
            (case zqzCg6 => walk_at "M look")
            (case zqzCg7 => walk_at "M look")
            (case zqzCN => walk_at "M sub")
            all_goals omega
        · rintro s' ⟨h5, tk5, m5, now, nt, k, bo, form, tf, j, tj, rfl, F5, N5, S, hform, hj, hf0, hf3, q1, q2, q3, q4, q5, q6, q7⟩
          have ap' : Apart its (canon bx pc bo po a b c im) := Apart.consm ap (List.Mem.head _) (Apart.less (Sub.refl _).cons ap)
          clear F4 N4 hk0 hk1 hn0 hn1 mbl lbl ibl zbl lbo
          simp only [List.drop_succ_cons, List.drop_zero]
          obtain ⟨kt, lbo⟩ := S.bo
          obtain ⟨blo, wl, wns, mbl, lbl, ibl, zbl⟩ := S.bl
          obtain ⟨lbb, mlb, llb⟩ := S.lb
          obtain ⟨lkk, mlk, llk⟩ := S.lk
          have hk0 := S.k0
          have hk1 := S.k1
          have hn0 := S.n0
          have hn1 := S.n1
          refine execs_cut 3 (fun s' => Hold (∃ h' tk' m' now nt k bo po pvs a b c im, s' = ⟨h', s1.gens, s1.drawn, tk', s1.os⟩ ∧ Fr s1.heap s1.heap.objs.size h' m' ∧ News s1.heap s1.heap.objs.size h' (its ++ canon bx pc bo po a b c im) ∧ St Challenge.rw_sz0113_01.row.prog wd bx pc bl lb lk (i + 1) (10 * (i : Int) + 10) (59 * (i : Int) + 59) now k bo po pvs a b c im ∧
      Apart its (canon bx pc bo po a b c im) ∧ m' (Str.ofString "box") = some (.ref bx) ∧ m' (Str.ofString "pictures") = some (.ref pc) ∧ m' (Str.ofString "bases") = some (.ref lb) ∧ m' (Str.ofString "known") = some (.ref lk) ∧ m' (Str.ofString "now") = some (.int now nt))) ?_ ?_
          · intro zIQ zhI
            simp only [List.take_succ_cons, List.take_zero]
            obtain ⟨x, y, z, P⟩ := pick hj a b c
            have N6 := News.sub N5 (Sub.both (Sub.inl) (P.sub.trans Sub.app) : Sub (its ++ ((bx, bo) :: (x.kp, x.ko) :: (x.rp, x.ro) :: (pc, po) :: (y.kp, y.ko) :: (y.rp, y.ro) :: (z.kp, z.ko) :: (z.rp, z.ro) :: im)) _)
            clear N5
            have ap6 : Apart its ((bx, bo) :: (x.kp, x.ko) :: (x.rp, x.ro) :: (pc, po) :: (y.kp, y.ko) :: (y.rp, y.ro) :: (z.kp, z.ko) :: (z.rp, z.ro) :: im) := Apart.less P.sub ap'
            have hgd : [Value.ref a.d, .ref b.d, .ref c.d][((j : Nat) : Int).toNat]? = some (.ref x.d) := P.getd
            have hgk : [Value.ref a.kp, .ref b.kp, .ref c.kp][((j : Nat) : Int).toNat]? = some (.ref x.kp) := P.getk
            have Sx := P.st S
            have hn8 : now ≤ 800 := by omega
            have hpic := S.pic
            have hpl := S.pl
            have hpn := S.pn
            have hdbx := Sx.db
            have hdbc := hdbx
            obtain ⟨dx, hsd, td, nd, d1, d2⟩ := hdbc
            obtain ⟨oB, oK, oR, nk1, nr1, nkr⟩ := (S.dist.perm P.muts).use (po := po)
            have oBi : Off bx its := Apart.off ap6 (List.Mem.head _)
            have oKi : Off x.kp its := Apart.off ap6 (List.Mem.tail _ (List.Mem.head _))
            have oRi : Off x.rp its := Apart.off ap6 (List.Mem.tail _ (List.Mem.tail _ (List.Mem.head _)))
            rcases hform with rfl | rfl | rfl
            · (repeat' (first | (k_unfold; (try dsimp only)) | ((with_reducible show wpAny _ _ (subscriptTail _ _ (Value.ref _) (Value.ref _)) _ _ _); with_reducible (k_here; (with_reducible show wpAny _ _ (subscriptTail _ (PySem.Expr.Slice none none (some _) _) (Value.ref _) (Value.ref _)) _ _ _); k_dflt (refine' pair_rev (by k_asm) (by k_asm) (by k_mem) ?_ (by with_unfolding_all rfl) (by intro _; with_unfolding_all rfl); k_whole); intro _ _ _ _ _; (try k_sweep))) | ((with_reducible show wpAny _ _ (newTuple _) _ _ _); with_reducible (k_here; k_dflt (refine' kup_newTuple (by k_asm) (by k_asm) ?_ (by exact Nat.le_of_ble_eq_true rfl)); intro _ _ _ _ _; (try k_sweep))) | ((with_reducible show wpAny _ _ (subscriptTail _ _ (Value.ref _) _) _ _ _); (first | with_reducible (k_here; (with_reducible show wpAny _ _ (subscriptTail _ _ (Value.ref _) (Value.int _ _)) _ _ _); k_dflt (refine' lst_tail (by k_asm) (by k_mem) (by assumption) (by omega) (by omega) (by assumption) ?_ (by with_unfolding_all rfl); k_whole)) | with_reducible (k_here; (with_reducible show wpAny _ _ (subscriptTail _ _ (Value.ref _) (Value.int _ _)) _ _ _); k_dflt (refine' lst_get (by k_asm) (by k_mem) (by assumption) (by first | omega | exact fmod_ge (by omega)) (by first | omega | exact Int.fmod_lt_of_pos _ (by omega)) (by omega) ?_ (by with_unfolding_all rfl); k_whole); intro _ _) | with_reducible (k_here; (with_reducible show wpAny _ _ (subscriptTail _ _ (Value.ref _) (Value.int _ _)) _ _ _); k_dflt (refine' lst_tail (by k_asm) (by k_mem) (by assumption) (by decide) (by decide) (by exact rfl) ?_ (by with_unfolding_all rfl); k_whole)))) | ((with_reducible show wpAny _ _ (assign (Expr.Tuple _ _ _) _ (Value.ref _)) _ _ _); with_reducible (k_here; (with_reducible show wpAny _ _ (assign (Expr.Tuple _ _ _) _ (Value.ref _)) _ _ _); k_dflt (refine' unpackN_ (by k_asm) (by k_asm) (by first | assumption | (refine News.isTup (by k_asm) (by k_mem))) (by (first | assumption | exact room_top | exact Room.h room_top | exact Room.u_lt room_top)) (by exact rfl) (by exact rfl) ?_); intro _ _ _; (try k_sweep))) | ((with_reducible show wpAny _ _ (unpackItems (Value.ref _) _ _) _ _ _); with_reducible (k_here; k_dflt (refine' unpackItemsN_ (by k_asm) (by k_asm) (by first | assumption | (refine News.isTup (by k_asm) (by k_mem))) (by (first | assumption | exact room_top | exact Room.h room_top | exact Room.u_lt room_top)) (by exact rfl) ?_; k_whole); intro _ _ _; (try k_sweep))) | ((with_reducible show wpAny _ _ (call (Value.builtin "len") _) _ _ _); with_reducible (k_here; (with_reducible show wpAny _ _ (call (Value.builtin "len") [Value.ref _]) _ _ _); k_dflt (refine' lst_len (by k_asm) (by k_mem) (by exact LstX.lst (by assumption)) (by omega) ?_; k_whole); intro _ _)) | ((with_reducible show wpAny _ _ (eval (Expr.Name _ _) _) _ _ _); (first | with_reducible (k_here; (with_reducible show wpAny _ _ (eval (Expr.Name _ _) (compEnvC _ _ _ _)) _ _ _); k_dflt (first | refine LCgL.ld_own (by k_asm) (by k_mem) (by assumption) (by assumption) ?_ | refine ld_cell (by k_asm) (by rfl) (by k_mem) (by assumption) ?_)) | with_reducible (k_here; k_dflt (apply nameX_L; (case F => k_asm); (case hk => rfl); (case hx => rfl); (case hv => walk_at "M look"); (case hd => decide); k_whole)))) | ((with_reducible show wpAny _ _ (getMethod (Value.ref _) _ _) _ _ _); with_reducible (k_here; (with_reducible show wpAny _ _ (getMethod (Value.ref _) (PySem.Str.ofString "append") _) _ _ _); k_dflt (refine' lst_method (by k_asm) (by k_mem) (by assumption) PySem.F.slot_list_append PySem.F.type_list_append ?_))) | ((with_reducible show wpAny _ _ (call (Value.builtin "list.append") _) _ _ _); with_reducible (k_here; k_dflt (apply lst_append; (case F => k_asm); (case N => k_asm); (case U => walk_at "M up"); (case ho => assumption); (case hz => omega); k_whole); intro _ _ _; intro zN; (try dsimp only at zN); revert zN; intro _; intro _; (try k_sweep))) | ((with_reducible show wpAny _ _ (exec (Stmt.For _ _ _ _ _) _) _ _ _); with_reducible (k_here; k_dflt (refine' for_go (by k_asm) ?_); k_whole)) | ((with_reducible show wpAny _ _ (exec (Stmt.For _ _ _ _ _) _) _ _ _); with_reducible (k_here; k_dflt (refine' for_go (by k_asm) ?_); k_whole)) | ((with_reducible show wpAny _ _ (call (Value.ref _) _) _ _ _); (first | with_reducible (k_here; (with_reducible show wpAny _ _ (call (Value.ref 211) _) _ _ _); k_dflt (refine' call_stop ?_); k_whole) | with_reducible (k_here; (with_reducible show wpAny _ _ (call (Value.ref 204) _) _ _ _); k_dflt (refine' call_stop ?_); k_whole) | with_reducible (k_here; (with_reducible show wpAny _ _ (call (Value.ref 225) _) _ _ _); k_dflt (refine' call_stop ?_); k_whole) | with_reducible (k_here; (with_reducible show wpAny _ _ (call (Value.ref 126) _) _ _ _); k_dflt (refine' call_stop ?_); k_whole) | with_reducible (k_here; (with_reducible show wpAny _ _ (call (Value.ref 218) _) _ _ _); k_dflt (refine' call_stop ?_); k_whole) | with_reducible (k_here; (with_reducible show wpAny _ _ (call (Value.ref 197) _) _ _ _); k_dflt (refine' call_stop ?_); k_whole) | with_reducible (k_here; k_dflt (apply draw_spec; (case hR => (first | assumption | exact room_top | exact Room.h room_top | exact Room.u_lt room_top)); (case F => k_asm); (case X => k_asm); (case N => k_asm); (case T => k_asm); (case U => walk_at "M up"); (case ho => assumption); (case hz => first | assumption | omega); (case hk => first | assumption | omega); (case hk1 => first | assumption | omega); (case hm0 => first | decide | omega); (case hm1 => first | decide | omega); (case hU => intro o9; k_mem); (case hlo => assumption); (case hi => assumption); k_whole); intro _ _ _ _ _ _ _ _ _; intro zN; (try dsimp only at zN); revert zN; intro _; intro _; (try k_sweep)) | with_reducible (k_here; k_dflt (refine' new_db (by (first | assumption | exact room_top | exact Room.h room_top | exact Room.u_lt room_top)) (by k_asm) (by k_asm) (by k_asm) (by k_asm) ?_; k_whole); intro _ _ _ _ _ _ _ _ _ _ _ _ _ _ _; (try k_sweep)))) | ((with_reducible show wpAny _ _ (eval (Expr.ListComp _ _ _ _) _) _ _ _); with_reducible (k_here; k_dflt (refine LCg.ListComp_U (F₀ := by k_asm) (by rfl) (by decide) (by rfl) (by decide) (by rfl) ?_))) | ((with_reducible show wpAny _ _ (compareOp CmpOp.Eq (Value.ref _) (Value.ref _)) _ _ _); with_reducible (k_here; k_dflt (refine' eq_stop ?_); k_whole)) | walk1 | (dsimp only; walk1) | (dsimp only; k_unfold; try dsimp only)))
              rename Fr _ _ _ _ => F7
              rename News _ _ _ _ => N7a
              unfold CallAt
              have N7 := News.sub N7a (show Sub ((bx, bo) :: (x.kp, x.ko) :: (x.rp, x.ro) :: (pc, po) :: (y.kp, y.ko) :: (y.rp, y.ro) :: (z.kp, z.ko) :: (z.rp, z.ro) :: (its ++ im)) _ by walk_at "M sub")
              clear N7a
              have oB' : Off bx ((pc, po) :: (y.kp, y.ko) :: (y.rp, y.ro) :: (z.kp, z.ko) :: (z.rp, z.ro) :: (its ++ im)) := off_mid [(pc, po), (y.kp, y.ko), (y.rp, y.ro), (z.kp, z.ko), (z.rp, z.ro)] oBi oB
              have oK' : Off x.kp ((pc, po) :: (y.kp, y.ko) :: (y.rp, y.ro) :: (z.kp, z.ko) :: (z.rp, z.ro) :: (its ++ im)) := off_mid [(pc, po), (y.kp, y.ko), (y.rp, y.ro), (z.kp, z.ko), (z.rp, z.ro)] oKi oK
              have oR' : Off x.rp ((pc, po) :: (y.kp, y.ko) :: (y.rp, y.ro) :: (z.kp, z.ko) :: (z.rp, z.ro) :: (its ++ im)) := off_mid [(pc, po), (y.kp, y.ko), (y.rp, y.ro), (z.kp, z.ko), (z.rp, z.ro)] oRi oR
              refine told_spec room_top F7 KX N7 T lbo (by k_mem) lbl ibl zbl hk0 (by omega) oB' oK' oR' nk1 nr1 nkr (Sx.db.mono (by walk_at "M sub")) Sx.kn Sx.rw (by walk_at "M sub") Sx.p1 Sx.p2 (by have := Sx.iv.len; omega) ?_
              clear F7 N7
              intro r t7 new bo7 ko7 ro7 h7 tk7 hTR F8 N8 ab8 lb8 K8 R8
              (repeat' (first | (k_unfold; (try dsimp only)) | ((with_reducible show wpAny _ _ (subscriptTail _ _ (Value.ref _) (Value.ref _)) _ _ _); with_reducible (k_here; (with_reducible show wpAny _ _ (subscriptTail _ (PySem.Expr.Slice none none (some _) _) (Value.ref _) (Value.ref _)) _ _ _); k_dflt (refine' pair_rev (by k_asm) (by k_asm) (by k_mem) ?_ (by with_unfolding_all rfl) (by intro _; with_unfolding_all rfl); k_whole); intro _ _ _ _ _; (try k_sweep))) | ((with_reducible show wpAny _ _ (newTuple _) _ _ _); with_reducible (k_here; k_dflt (refine' kup_newTuple (by k_asm) (by k_asm) ?_ (by exact Nat.le_of_ble_eq_true rfl)); intro _ _ _ _ _; (try k_sweep))) | ((with_reducible show wpAny _ _ (subscriptTail _ _ (Value.ref _) _) _ _ _); (first | with_reducible (k_here; (with_reducible show wpAny _ _ (subscriptTail _ _ (Value.ref _) (Value.int _ _)) _ _ _); k_dflt (refine' lst_tail (by k_asm) (by k_mem) (by assumption) (by omega) (by omega) (by assumption) ?_ (by with_unfolding_all rfl); k_whole)) | with_reducible (k_here; (with_reducible show wpAny _ _ (subscriptTail _ _ (Value.ref _) (Value.int _ _)) _ _ _); k_dflt (refine' lst_get (by k_asm) (by k_mem) (by assumption) (by first | omega | exact fmod_ge (by omega)) (by first | omega | exact Int.fmod_lt_of_pos _ (by omega)) (by omega) ?_ (by with_unfolding_all rfl); k_whole); intro _ _) | with_reducible (k_here; (with_reducible show wpAny _ _ (subscriptTail _ _ (Value.ref _) (Value.int _ _)) _ _ _); k_dflt (refine' lst_tail (by k_asm) (by k_mem) (by assumption) (by decide) (by decide) (by exact rfl) ?_ (by with_unfolding_all rfl); k_whole)))) | ((with_reducible show wpAny _ _ (assign (Expr.Tuple _ _ _) _ (Value.ref _)) _ _ _); with_reducible (k_here; (with_reducible show wpAny _ _ (assign (Expr.Tuple _ _ _) _ (Value.ref _)) _ _ _); k_dflt (refine' unpackN_ (by k_asm) (by k_asm) (by first | assumption | (refine News.isTup (by k_asm) (by k_mem))) (by (first | assumption | exact room_top | exact Room.h room_top | exact Room.u_lt room_top)) (by exact rfl) (by exact rfl) ?_); intro _ _ _; (try k_sweep))) | ((with_reducible show wpAny _ _ (unpackItems (Value.ref _) _ _) _ _ _); with_reducible (k_here; k_dflt (refine' unpackItemsN_ (by k_asm) (by k_asm) (by first | assumption | (refine News.isTup (by k_asm) (by k_mem))) (by (first | assumption | exact room_top | exact Room.h room_top | exact Room.u_lt room_top)) (by exact rfl) ?_; k_whole); intro _ _ _; (try k_sweep))) | ((with_reducible show wpAny _ _ (call (Value.builtin "len") _) _ _ _); with_reducible (k_here; (with_reducible show wpAny _ _ (call (Value.builtin "len") [Value.ref _]) _ _ _); k_dflt (refine' lst_len (by k_asm) (by k_mem) (by exact LstX.lst (by assumption)) (by omega) ?_; k_whole); intro _ _)) | ((with_reducible show wpAny _ _ (eval (Expr.Name _ _) _) _ _ _); (first | with_reducible (k_here; (with_reducible show wpAny _ _ (eval (Expr.Name _ _) (compEnvC _ _ _ _)) _ _ _); k_dflt (first | refine LCgL.ld_own (by k_asm) (by k_mem) (by assumption) (by assumption) ?_ | refine ld_cell (by k_asm) (by rfl) (by k_mem) (by assumption) ?_)) | with_reducible (k_here; k_dflt (apply nameX_L; (case F => k_asm); (case hk => rfl); (case hx => rfl); (case hv => walk_at "M look"); (case hd => decide); k_whole)))) | ((with_reducible show wpAny _ _ (getMethod (Value.ref _) _ _) _ _ _); with_reducible (k_here; (with_reducible show wpAny _ _ (getMethod (Value.ref _) (PySem.Str.ofString "append") _) _ _ _); k_dflt (refine' lst_method (by k_asm) (by k_mem) (by assumption) PySem.F.slot_list_append PySem.F.type_list_append ?_))) | ((with_reducible show wpAny _ _ (call (Value.builtin "list.append") _) _ _ _); with_reducible (k_here; k_dflt (apply lst_append; (case F => k_asm); (case N => k_asm); (case U => walk_at "M up"); (case ho => assumption); (case hz => omega); k_whole); intro _ _ _; intro zN; (try dsimp only at zN); revert zN; intro _; intro _; (try k_sweep))) | ((with_reducible show wpAny _ _ (exec (Stmt.For _ _ _ _ _) _) _ _ _); with_reducible (k_here; k_dflt (refine' for_go (by k_asm) ?_); k_whole)) | ((with_reducible show wpAny _ _ (exec (Stmt.For _ _ _ _ _) _) _ _ _); with_reducible (k_here; k_dflt (refine' for_go (by k_asm) ?_); k_whole)) | ((with_reducible show wpAny _ _ (call (Value.ref _) _) _ _ _); (first | with_reducible (k_here; (with_reducible show wpAny _ _ (call (Value.ref 211) _) _ _ _); k_dflt (refine' call_stop ?_); k_whole) | with_reducible (k_here; (with_reducible show wpAny _ _ (call (Value.ref 204) _) _ _ _); k_dflt (refine' call_stop ?_); k_whole) | with_reducible (k_here; (with_reducible show wpAny _ _ (call (Value.ref 225) _) _ _ _); k_dflt (refine' call_stop ?_); k_whole) | with_reducible (k_here; (with_reducible show wpAny _ _ (call (Value.ref 126) _) _ _ _); k_dflt (refine' call_stop ?_); k_whole) | with_reducible (k_here; (with_reducible show wpAny _ _ (call (Value.ref 218) _) _ _ _); k_dflt (refine' call_stop ?_); k_whole) | with_reducible (k_here; (with_reducible show wpAny _ _ (call (Value.ref 197) _) _ _ _); k_dflt (refine' call_stop ?_); k_whole) | with_reducible (k_here; k_dflt (apply draw_spec; (case hR => (first | assumption | exact room_top | exact Room.h room_top | exact Room.u_lt room_top)); (case F => k_asm); (case X => k_asm); (case N => k_asm); (case T => k_asm); (case U => walk_at "M up"); (case ho => assumption); (case hz => first | assumption | omega); (case hk => first | assumption | omega); (case hk1 => first | assumption | omega); (case hm0 => first | decide | omega); (case hm1 => first | decide | omega); (case hU => intro o9; k_mem); (case hlo => assumption); (case hi => assumption); k_whole); intro _ _ _ _ _ _ _ _ _; intro zN; (try dsimp only at zN); revert zN; intro _; intro _; (try k_sweep)) | with_reducible (k_here; k_dflt (refine' new_db (by (first | assumption | exact room_top | exact Room.h room_top | exact Room.u_lt room_top)) (by k_asm) (by k_asm) (by k_asm) (by k_asm) ?_; k_whole); intro _ _ _ _ _ _ _ _ _ _ _ _ _ _ _; (try k_sweep)))) | ((with_reducible show wpAny _ _ (eval (Expr.ListComp _ _ _ _) _) _ _ _); with_reducible (k_here; k_dflt (refine LCg.ListComp_U (F₀ := by k_asm) (by rfl) (by decide) (by rfl) (by decide) (by rfl) ?_))) | ((with_reducible show wpAny _ _ (compareOp CmpOp.Eq (Value.ref _) (Value.ref _)) _ _ _); with_reducible (k_here; k_dflt (refine' eq_stop ?_); k_whole)) | walk1 | (dsimp only; walk1) | (dsimp only; k_unfold; try dsimp only)))
              all_goals (try dsimp only)
              rename Fr _ _ _ _ => F9
              rename News _ _ _ _ => N9
              obtain ⟨a', b', c', P', S'⟩ := S.upd (x' := ⟨x.d, x.kp, x.rp, ko7, ro7, putE x.es ⟨r, now⟩⟩) (K' := 10 * (i : Int) + 10) P hn8 rfl rfl rfl ⟨t7, lb8⟩ (by omega) (by omega) (muts_off ab8 (by k_mem) (by k_mem) (by k_mem) (by k_mem) (by k_mem) (by k_mem) (by k_mem) (by k_mem)) (told_db Sx hTR ⟨by omega, by omega⟩ hn0 hn8 (by omega) K8 R8) mem_putE.2 (fun h => ⟨(hf0 h).2, mem_putE.1⟩) (fun h => absurd (hf3 h) (by decide))
              refine zhI _ ?_; refine' Hold.of ⟨_, _, _, now, nt, k + 1, bo7, po, pvs, a', b', c', new ++ im, rfl, F9, News.sub N9 ?zqyAN, S', ?zqyAA, ?zqyAg1, ?zqyAg2, ?zqyAg3, ?zqyAg4, ?zqyAg5⟩
              (case zqyAg1 => walk_at "M look")
              (case zqyAg2 => walk_at "M look")
              (case zqyAg3 => walk_at "M look")
              (case zqyAg4 => walk_at "M look")
              (case zqyAg5 => walk_at "M look")
              (case zqyAN => exact Sub.both (by walk_at "M sub") (P'.sub'.trans (show Sub ((bx, bo7) :: (x.kp, ko7) :: (x.rp, ro7) :: (pc, po) :: (y.kp, y.ko) :: (y.rp, y.ro) :: (z.kp, z.ko) :: (z.rp, z.ro) :: (new ++ im)) _ by walk_at "M sub")))
              (case zqyAA => exact canon_apart P P' rfl rfl ap' ab8 (by walk_at "M sub"))
            · (repeat' (first | (k_unfold; (try dsimp only)) | ((with_reducible show wpAny _ _ (subscriptTail _ _ (Value.ref _) (Value.ref _)) _ _ _); with_reducible (k_here; (with_reducible show wpAny _ _ (subscriptTail _ (PySem.Expr.Slice none none (some _) _) (Value.ref _) (Value.ref _)) _ _ _); k_dflt (refine' pair_rev (by k_asm) (by k_asm) (by k_mem) ?_ (by with_unfolding_all rfl) (by intro _; with_unfolding_all rfl); k_whole); intro _ _ _ _ _; (try k_sweep))) | ((with_reducible show wpAny _ _ (newTuple _) _ _ _); with_reducible (k_here; k_dflt (refine' kup_newTuple (by k_asm) (by k_asm) ?_ (by exact Nat.le_of_ble_eq_true rfl)); intro _ _ _ _ _; (try k_sweep))) | ((with_reducible show wpAny _ _ (subscriptTail _ _ (Value.ref _) _) _ _ _); (first | with_reducible (k_here; (with_reducible show wpAny _ _ (subscriptTail _ _ (Value.ref _) (Value.int _ _)) _ _ _); k_dflt (refine' lst_tail (by k_asm) (by k_mem) (by assumption) (by omega) (by omega) (by assumption) ?_ (by with_unfolding_all rfl); k_whole)) | with_reducible (k_here; (with_reducible show wpAny _ _ (subscriptTail _ _ (Value.ref _) (Value.int _ _)) _ _ _); k_dflt (refine' lst_get (by k_asm) (by k_mem) (by assumption) (by first | omega | exact fmod_ge (by omega)) (by first | omega | exact Int.fmod_lt_of_pos _ (by omega)) (by omega) ?_ (by with_unfolding_all rfl); k_whole); intro _ _) | with_reducible (k_here; (with_reducible show wpAny _ _ (subscriptTail _ _ (Value.ref _) (Value.int _ _)) _ _ _); k_dflt (refine' lst_tail (by k_asm) (by k_mem) (by assumption) (by decide) (by decide) (by exact rfl) ?_ (by with_unfolding_all rfl); k_whole)))) | ((with_reducible show wpAny _ _ (assign (Expr.Tuple _ _ _) _ (Value.ref _)) _ _ _); with_reducible (k_here; (with_reducible show wpAny _ _ (assign (Expr.Tuple _ _ _) _ (Value.ref _)) _ _ _); k_dflt (refine' unpackN_ (by k_asm) (by k_asm) (by first | assumption | (refine News.isTup (by k_asm) (by k_mem))) (by (first | assumption | exact room_top | exact Room.h room_top | exact Room.u_lt room_top)) (by exact rfl) (by exact rfl) ?_); intro _ _ _; (try k_sweep))) | ((with_reducible show wpAny _ _ (unpackItems (Value.ref _) _ _) _ _ _); with_reducible (k_here; k_dflt (refine' unpackItemsN_ (by k_asm) (by k_asm) (by first | assumption | (refine News.isTup (by k_asm) (by k_mem))) (by (first | assumption | exact room_top | exact Room.h room_top | exact Room.u_lt room_top)) (by exact rfl) ?_; k_whole); intro _ _ _; (try k_sweep))) | ((with_reducible show wpAny _ _ (call (Value.builtin "len") _) _ _ _); with_reducible (k_here; (with_reducible show wpAny _ _ (call (Value.builtin "len") [Value.ref _]) _ _ _); k_dflt (refine' lst_len (by k_asm) (by k_mem) (by exact LstX.lst (by assumption)) (by omega) ?_; k_whole); intro _ _)) | ((with_reducible show wpAny _ _ (eval (Expr.Name _ _) _) _ _ _); (first | with_reducible (k_here; (with_reducible show wpAny _ _ (eval (Expr.Name _ _) (compEnvC _ _ _ _)) _ _ _); k_dflt (first | refine LCgL.ld_own (by k_asm) (by k_mem) (by assumption) (by assumption) ?_ | refine ld_cell (by k_asm) (by rfl) (by k_mem) (by assumption) ?_)) | with_reducible (k_here; k_dflt (apply nameX_L; (case F => k_asm); (case hk => rfl); (case hx => rfl); (case hv => walk_at "M look"); (case hd => decide); k_whole)))) | ((with_reducible show wpAny _ _ (getMethod (Value.ref _) _ _) _ _ _); with_reducible (k_here; (with_reducible show wpAny _ _ (getMethod (Value.ref _) (PySem.Str.ofString "append") _) _ _ _); k_dflt (refine' lst_method (by k_asm) (by k_mem) (by assumption) PySem.F.slot_list_append PySem.F.type_list_append ?_))) | ((with_reducible show wpAny _ _ (call (Value.builtin "list.append") _) _ _ _); with_reducible (k_here; k_dflt (apply lst_append; (case F => k_asm); (case N => k_asm); (case U => walk_at "M up"); (case ho => assumption); (case hz => omega); k_whole); intro _ _ _; intro zN; (try dsimp only at zN); revert zN; intro _; intro _; (try k_sweep))) | ((with_reducible show wpAny _ _ (exec (Stmt.For _ _ _ _ _) _) _ _ _); with_reducible (k_here; k_dflt (refine' for_go (by k_asm) ?_); k_whole)) | ((with_reducible show wpAny _ _ (exec (Stmt.For _ _ _ _ _) _) _ _ _); with_reducible (k_here; k_dflt (refine' for_go (by k_asm) ?_); k_whole)) | ((with_reducible show wpAny _ _ (call (Value.ref _) _) _ _ _); (first | with_reducible (k_here; (with_reducible show wpAny _ _ (call (Value.ref 211) _) _ _ _); k_dflt (refine' call_stop ?_); k_whole) | with_reducible (k_here; (with_reducible show wpAny _ _ (call (Value.ref 204) _) _ _ _); k_dflt (refine' call_stop ?_); k_whole) | with_reducible (k_here; (with_reducible show wpAny _ _ (call (Value.ref 225) _) _ _ _); k_dflt (refine' call_stop ?_); k_whole) | with_reducible (k_here; (with_reducible show wpAny _ _ (call (Value.ref 126) _) _ _ _); k_dflt (refine' call_stop ?_); k_whole) | with_reducible (k_here; (with_reducible show wpAny _ _ (call (Value.ref 218) _) _ _ _); k_dflt (refine' call_stop ?_); k_whole) | with_reducible (k_here; (with_reducible show wpAny _ _ (call (Value.ref 197) _) _ _ _); k_dflt (refine' call_stop ?_); k_whole) | with_reducible (k_here; k_dflt (apply draw_spec; (case hR => (first | assumption | exact room_top | exact Room.h room_top | exact Room.u_lt room_top)); (case F => k_asm); (case X => k_asm); (case N => k_asm); (case T => k_asm); (case U => walk_at "M up"); (case ho => assumption); (case hz => first | assumption | omega); (case hk => first | assumption | omega); (case hk1 => first | assumption | omega); (case hm0 => first | decide | omega); (case hm1 => first | decide | omega); (case hU => intro o9; k_mem); (case hlo => assumption); (case hi => assumption); k_whole); intro _ _ _ _ _ _ _ _ _; intro zN; (try dsimp only at zN); revert zN; intro _; intro _; (try k_sweep)) | with_reducible (k_here; k_dflt (refine' new_db (by (first | assumption | exact room_top | exact Room.h room_top | exact Room.u_lt room_top)) (by k_asm) (by k_asm) (by k_asm) (by k_asm) ?_; k_whole); intro _ _ _ _ _ _ _ _ _ _ _ _ _ _ _; (try k_sweep)))) | ((with_reducible show wpAny _ _ (eval (Expr.ListComp _ _ _ _) _) _ _ _); with_reducible (k_here; k_dflt (refine LCg.ListComp_U (F₀ := by k_asm) (by rfl) (by decide) (by rfl) (by decide) (by rfl) ?_))) | ((with_reducible show wpAny _ _ (compareOp CmpOp.Eq (Value.ref _) (Value.ref _)) _ _ _); with_reducible (k_here; k_dflt (refine' eq_stop ?_); k_whole)) | walk1 | (dsimp only; walk1) | (dsimp only; k_unfold; try dsimp only)))
              rename Fr _ _ _ _ => F7
              rename News _ _ _ _ => N7
              unfold CallAt
              refine all_rows_spec room_top F7 KX N7 T (Sx.db.mono (by walk_at "M sub")) (by k_mem) Sx.rw (by walk_at "M sub") Sx.p2 Sx.iv.len ?_
              clear F7
              intro D c1 new vs1 rs1 h7 tk7 F8 N8 ab8 of8 a8 ar8
              have N9a := News.sub N8 (show Sub ((pc, po) :: (bx, bo) :: (x.kp, x.ko) :: (x.rp, x.ro) :: (y.kp, y.ko) :: (y.rp, y.ro) :: (z.kp, z.ko) :: (z.rp, z.ro) :: ((D, listOf (List.toArray vs1) c1) :: (new ++ (its ++ im)))) _ by walk_at "M sub")
              clear N8 N7
              have oPC := (S.dist.perm P.muts).offPic (bo := bo)
              have oPi : Off pc its := Apart.off ap6 (by k_mem)
              have oPn : Off pc ((D, listOf (List.toArray vs1) c1) :: new) := muts_off2 (bx := bx) (pc := pc) (x := x) (y := y) (z := z) ab8 of8 (by k_mem) (by k_mem) (by k_mem) (by k_mem) (by k_mem) (by k_mem) (by k_mem) (by k_mem) pc (by unfold Muts; simp)
              have oP9 : Off pc ((bx, bo) :: (x.kp, x.ko) :: (x.rp, x.ro) :: (y.kp, y.ko) :: (y.rp, y.ro) :: (z.kp, z.ko) :: (z.rp, z.ro) :: ((D, listOf (List.toArray vs1) c1) :: (new ++ (its ++ im)))) :=
                off_mid [(bx, bo), (x.kp, x.ko), (x.rp, x.ro), (y.kp, y.ko), (y.rp, y.ro), (z.kp, z.ko), (z.rp, z.ro)] (im := new ++ (its ++ im)) (its := [(D, listOf (List.toArray vs1) c1)]) (Off.cons' (oPn _ (List.Mem.head _)) Off.nil)
                  (off_mid [(bx, bo), (x.kp, x.ko), (x.rp, x.ro), (y.kp, y.ko), (y.rp, y.ro), (z.kp, z.ko), (z.rp, z.ro)] (its := new) (fun p hp => oPn p (List.Mem.tail _ hp)) (off_mid [(bx, bo), (x.kp, x.ko), (x.rp, x.ro), (y.kp, y.ko), (y.rp, y.ro), (z.kp, z.ko), (z.rp, z.ro)] oPi oPC))
              (repeat' (first | (k_unfold; (try dsimp only)) | ((with_reducible show wpAny _ _ (subscriptTail _ _ (Value.ref _) (Value.ref _)) _ _ _); with_reducible (k_here; (with_reducible show wpAny _ _ (subscriptTail _ (PySem.Expr.Slice none none (some _) _) (Value.ref _) (Value.ref _)) _ _ _); k_dflt (refine' pair_rev (by k_asm) (by k_asm) (by k_mem) ?_ (by with_unfolding_all rfl) (by intro _; with_unfolding_all rfl); k_whole); intro _ _ _ _ _; (try k_sweep))) | ((with_reducible show wpAny _ _ (newTuple _) _ _ _); with_reducible (k_here; k_dflt (refine' kup_newTuple (by k_asm) (by k_asm) ?_ (by exact Nat.le_of_ble_eq_true rfl)); intro _ _ _ _ _; (try k_sweep))) | ((with_reducible show wpAny _ _ (subscriptTail _ _ (Value.ref _) _) _ _ _); (first | with_reducible (k_here; (with_reducible show wpAny _ _ (subscriptTail _ _ (Value.ref _) (Value.int _ _)) _ _ _); k_dflt (refine' lst_tail (by k_asm) (by k_mem) (by assumption) (by omega) (by omega) (by assumption) ?_ (by with_unfolding_all rfl); k_whole)) | with_reducible (k_here; (with_reducible show wpAny _ _ (subscriptTail _ _ (Value.ref _) (Value.int _ _)) _ _ _); k_dflt (refine' lst_get (by k_asm) (by k_mem) (by assumption) (by first | omega | exact fmod_ge (by omega)) (by first | omega | exact Int.fmod_lt_of_pos _ (by omega)) (by omega) ?_ (by with_unfolding_all rfl); k_whole); intro _ _) | with_reducible (k_here; (with_reducible show wpAny _ _ (subscriptTail _ _ (Value.ref _) (Value.int _ _)) _ _ _); k_dflt (refine' lst_tail (by k_asm) (by k_mem) (by assumption) (by decide) (by decide) (by exact rfl) ?_ (by with_unfolding_all rfl); k_whole)))) | ((with_reducible show wpAny _ _ (assign (Expr.Tuple _ _ _) _ (Value.ref _)) _ _ _); with_reducible (k_here; (with_reducible show wpAny _ _ (assign (Expr.Tuple _ _ _) _ (Value.ref _)) _ _ _); k_dflt (refine' unpackN_ (by k_asm) (by k_asm) (by first | assumption | (refine News.isTup (by k_asm) (by k_mem))) (by (first | assumption | exact room_top | exact Room.h room_top | exact Room.u_lt room_top)) (by exact rfl) (by exact rfl) ?_); intro _ _ _; (try k_sweep))) | ((with_reducible show wpAny _ _ (unpackItems (Value.ref _) _ _) _ _ _); with_reducible (k_here; k_dflt (refine' unpackItemsN_ (by k_asm) (by k_asm) (by first | assumption | (refine News.isTup (by k_asm) (by k_mem))) (by (first | assumption | exact room_top | exact Room.h room_top | exact Room.u_lt room_top)) (by exact rfl) ?_; k_whole); intro _ _ _; (try k_sweep))) | ((with_reducible show wpAny _ _ (call (Value.builtin "len") _) _ _ _); with_reducible (k_here; (with_reducible show wpAny _ _ (call (Value.builtin "len") [Value.ref _]) _ _ _); k_dflt (refine' lst_len (by k_asm) (by k_mem) (by exact LstX.lst (by assumption)) (by omega) ?_; k_whole); intro _ _)) | ((with_reducible show wpAny _ _ (eval (Expr.Name _ _) _) _ _ _); (first | with_reducible (k_here; (with_reducible show wpAny _ _ (eval (Expr.Name _ _) (compEnvC _ _ _ _)) _ _ _); k_dflt (first | refine LCgL.ld_own (by k_asm) (by k_mem) (by assumption) (by assumption) ?_ | refine ld_cell (by k_asm) (by rfl) (by k_mem) (by assumption) ?_)) | with_reducible (k_here; k_dflt (apply nameX_L; (case F => k_asm); (case hk => rfl); (case hx => rfl); (case hv => walk_at "M look"); (case hd => decide); k_whole)))) | ((with_reducible show wpAny _ _ (getMethod (Value.ref _) _ _) _ _ _); with_reducible (k_here; (with_reducible show wpAny _ _ (getMethod (Value.ref _) (PySem.Str.ofString "append") _) _ _ _); k_dflt (refine' lst_method (by k_asm) (by k_mem) (by assumption) PySem.F.slot_list_append PySem.F.type_list_append ?_))) | ((with_reducible show wpAny _ _ (call (Value.builtin "list.append") _) _ _ _); with_reducible (k_here; k_dflt (apply lst_append; (case F => k_asm); (case N => k_asm); (case U => walk_at "M up"); (case ho => assumption); (case hz => omega); k_whole); intro _ _ _; intro zN; (try dsimp only at zN); revert zN; intro _; intro _; (try k_sweep))) | ((with_reducible show wpAny _ _ (exec (Stmt.For _ _ _ _ _) _) _ _ _); with_reducible (k_here; k_dflt (refine' for_go (by k_asm) ?_); k_whole)) | ((with_reducible show wpAny _ _ (exec (Stmt.For _ _ _ _ _) _) _ _ _); with_reducible (k_here; k_dflt (refine' for_go (by k_asm) ?_); k_whole)) | ((with_reducible show wpAny _ _ (call (Value.ref _) _) _ _ _); (first | with_reducible (k_here; (with_reducible show wpAny _ _ (call (Value.ref 211) _) _ _ _); k_dflt (refine' call_stop ?_); k_whole) | with_reducible (k_here; (with_reducible show wpAny _ _ (call (Value.ref 204) _) _ _ _); k_dflt (refine' call_stop ?_); k_whole) | with_reducible (k_here; (with_reducible show wpAny _ _ (call (Value.ref 225) _) _ _ _); k_dflt (refine' call_stop ?_); k_whole) | with_reducible (k_here; (with_reducible show wpAny _ _ (call (Value.ref 126) _) _ _ _); k_dflt (refine' call_stop ?_); k_whole) | with_reducible (k_here; (with_reducible show wpAny _ _ (call (Value.ref 218) _) _ _ _); k_dflt (refine' call_stop ?_); k_whole) | with_reducible (k_here; (with_reducible show wpAny _ _ (call (Value.ref 197) _) _ _ _); k_dflt (refine' call_stop ?_); k_whole) | with_reducible (k_here; k_dflt (apply draw_spec; (case hR => (first | assumption | exact room_top | exact Room.h room_top | exact Room.u_lt room_top)); (case F => k_asm); (case X => k_asm); (case N => k_asm); (case T => k_asm); (case U => walk_at "M up"); (case ho => assumption); (case hz => first | assumption | omega); (case hk => first | assumption | omega); (case hk1 => first | assumption | omega); (case hm0 => first | decide | omega); (case hm1 => first | decide | omega); (case hU => intro o9; k_mem); (case hlo => assumption); (case hi => assumption); k_whole); intro _ _ _ _ _ _ _ _ _; intro zN; (try dsimp only at zN); revert zN; intro _; intro _; (try k_sweep)) | with_reducible (k_here; k_dflt (refine' new_db (by (first | assumption | exact room_top | exact Room.h room_top | exact Room.u_lt room_top)) (by k_asm) (by k_asm) (by k_asm) (by k_asm) ?_; k_whole); intro _ _ _ _ _ _ _ _ _ _ _ _ _ _ _; (try k_sweep)))) | ((with_reducible show wpAny _ _ (eval (Expr.ListComp _ _ _ _) _) _ _ _); with_reducible (k_here; k_dflt (refine LCg.ListComp_U (F₀ := by k_asm) (by rfl) (by decide) (by rfl) (by decide) (by rfl) ?_))) | ((with_reducible show wpAny _ _ (compareOp CmpOp.Eq (Value.ref _) (Value.ref _)) _ _ _); with_reducible (k_here; k_dflt (refine' eq_stop ?_); k_whole)) | walk1 | (dsimp only; walk1) | (dsimp only; k_unfold; try dsimp only)))
              all_goals (try dsimp only)
              rename Fr _ _ _ _ => F9
              rename News _ _ _ _ => N9
              refine nameL (show LstX _ (pvs ++ _) by assumption) fun po7 e7 => ?_
              subst e7
              rename LstX _ (pvs ++ _) => lpo7
              have hi3 : 3 ≤ i := by
                by_cases h1 : i < 3
                · have := (hf0 h1).1; omega
                · omega
              have hoff : ∀ q ∈ Muts bx pc a b c, Off q ((D, listOf (List.toArray vs1) c1) :: new) := fun q hq => muts_off2 (bx := bx) (pc := pc) (x := x) (y := y) (z := z) ab8 of8 (by k_mem) (by k_mem) (by k_mem) (by k_mem) (by k_mem) (by k_mem) (by k_mem) (by k_mem) q (P.muts.mem_iff.mp hq)
              have S' := (S.more hn8 hoff lpo7 (pic_db Sx (P.len S hi3) LstO.of a8 ar8) hi3).wide (K' := 10 * (i : Int) + 10) (M' := 59 * (i : Int) + 59) (by omega) (by omega)
              refine zhI _ ?_; refine' Hold.of ⟨_, _, _, now, nt, k, bo, po7, pvs ++ [.ref D], a, b, c, ((D, listOf (List.toArray vs1) c1) :: new) ++ im, rfl, F9, News.sub N9 ?zqyBN, S', ?zqyBA, ?zqyBg1, ?zqyBg2, ?zqyBg3, ?zqyBg4, ?zqyBg5⟩
              (case zqyBg1 => walk_at "M look")
              (case zqyBg2 => walk_at "M look")
              (case zqyBg3 => walk_at "M look")
              (case zqyBg4 => walk_at "M look")
              (case zqyBg5 => walk_at "M look")
              (case zqyBN => exact Sub.both (by walk_at "M sub") (P.sub'.trans (by walk_at "M sub")))
              (case zqyBA => exact canon_apart2 ap' ab8 of8 (by walk_at "M sub"))
            · have hi4 : 4 ≤ i := by
                by_cases h1 : i < 3
                · have := (hf0 h1).1; omega
                · by_cases h2 : i = 3
                  · have := hf3 h2; omega
                  · omega
              have hp1 := hpn hi4
              (repeat' (first | (k_unfold; (try dsimp only)) | ((with_reducible show wpAny _ _ (subscriptTail _ _ (Value.ref _) (Value.ref _)) _ _ _); with_reducible (k_here; (with_reducible show wpAny _ _ (subscriptTail _ (PySem.Expr.Slice none none (some _) _) (Value.ref _) (Value.ref _)) _ _ _); k_dflt (refine' pair_rev (by k_asm) (by k_asm) (by k_mem) ?_ (by with_unfolding_all rfl) (by intro _; with_unfolding_all rfl); k_whole); intro _ _ _ _ _; (try k_sweep))) | ((with_reducible show wpAny _ _ (newTuple _) _ _ _); with_reducible (k_here; k_dflt (refine' kup_newTuple (by k_asm) (by k_asm) ?_ (by exact Nat.le_of_ble_eq_true rfl)); intro _ _ _ _ _; (try k_sweep))) | ((with_reducible show wpAny _ _ (subscriptTail _ _ (Value.ref _) _) _ _ _); (first | with_reducible (k_here; (with_reducible show wpAny _ _ (subscriptTail _ _ (Value.ref _) (Value.int _ _)) _ _ _); k_dflt (refine' lst_tail (by k_asm) (by k_mem) (by assumption) (by omega) (by omega) (by assumption) ?_ (by with_unfolding_all rfl); k_whole)) | with_reducible (k_here; (with_reducible show wpAny _ _ (subscriptTail _ _ (Value.ref _) (Value.int _ _)) _ _ _); k_dflt (refine' lst_get (by k_asm) (by k_mem) (by assumption) (by first | omega | exact fmod_ge (by omega)) (by first | omega | exact Int.fmod_lt_of_pos _ (by omega)) (by omega) ?_ (by with_unfolding_all rfl); k_whole); intro _ _) | with_reducible (k_here; (with_reducible show wpAny _ _ (subscriptTail _ _ (Value.ref _) (Value.int _ _)) _ _ _); k_dflt (refine' lst_tail (by k_asm) (by k_mem) (by assumption) (by decide) (by decide) (by exact rfl) ?_ (by with_unfolding_all rfl); k_whole)))) | ((with_reducible show wpAny _ _ (assign (Expr.Tuple _ _ _) _ (Value.ref _)) _ _ _); with_reducible (k_here; (with_reducible show wpAny _ _ (assign (Expr.Tuple _ _ _) _ (Value.ref _)) _ _ _); k_dflt (refine' unpackN_ (by k_asm) (by k_asm) (by first | assumption | (refine News.isTup (by k_asm) (by k_mem))) (by (first | assumption | exact room_top | exact Room.h room_top | exact Room.u_lt room_top)) (by exact rfl) (by exact rfl) ?_); intro _ _ _; (try k_sweep))) | ((with_reducible show wpAny _ _ (unpackItems (Value.ref _) _ _) _ _ _); with_reducible (k_here; k_dflt (refine' unpackItemsN_ (by k_asm) (by k_asm) (by first | assumption | (refine News.isTup (by k_asm) (by k_mem))) (by (first | assumption | exact room_top | exact Room.h room_top | exact Room.u_lt room_top)) (by exact rfl) ?_; k_whole); intro _ _ _; (try k_sweep))) | ((with_reducible show wpAny _ _ (call (Value.builtin "len") _) _ _ _); with_reducible (k_here; (with_reducible show wpAny _ _ (call (Value.builtin "len") [Value.ref _]) _ _ _); k_dflt (refine' lst_len (by k_asm) (by k_mem) (by exact LstX.lst (by assumption)) (by omega) ?_; k_whole); intro _ _)) | ((with_reducible show wpAny _ _ (eval (Expr.Name _ _) _) _ _ _); (first | with_reducible (k_here; (with_reducible show wpAny _ _ (eval (Expr.Name _ _) (compEnvC _ _ _ _)) _ _ _); k_dflt (first | refine LCgL.ld_own (by k_asm) (by k_mem) (by assumption) (by assumption) ?_ | refine ld_cell (by k_asm) (by rfl) (by k_mem) (by assumption) ?_)) | with_reducible (k_here; k_dflt (apply nameX_L; (case F => k_asm); (case hk => rfl); (case hx => rfl); (case hv => walk_at "M look"); (case hd => decide); k_whole)))) | ((with_reducible show wpAny _ _ (getMethod (Value.ref _) _ _) _ _ _); with_reducible (k_here; (with_reducible show wpAny _ _ (getMethod (Value.ref _) (PySem.Str.ofString "append") _) _ _ _); k_dflt (refine' lst_method (by k_asm) (by k_mem) (by assumption) PySem.F.slot_list_append PySem.F.type_list_append ?_))) | ((with_reducible show wpAny _ _ (call (Value.builtin "list.append") _) _ _ _); with_reducible (k_here; k_dflt (apply lst_append; (case F => k_asm); (case N => k_asm); (case U => walk_at "M up"); (case ho => assumption); (case hz => omega); k_whole); intro _ _ _; intro zN; (try dsimp only at zN); revert zN; intro _; intro _; (try k_sweep))) | ((with_reducible show wpAny _ _ (exec (Stmt.For _ _ _ _ _) _) _ _ _); with_reducible (k_here; k_dflt (refine' for_go (by k_asm) ?_); k_whole)) | ((with_reducible show wpAny _ _ (exec (Stmt.For _ _ _ _ _) _) _ _ _); with_reducible (k_here; k_dflt (refine' for_go (by k_asm) ?_); k_whole)) | ((with_reducible show wpAny _ _ (call (Value.ref _) _) _ _ _); (first | with_reducible (k_here; (with_reducible show wpAny _ _ (call (Value.ref 211) _) _ _ _); k_dflt (refine' call_stop ?_); k_whole) | with_reducible (k_here; (with_reducible show wpAny _ _ (call (Value.ref 204) _) _ _ _); k_dflt (refine' call_stop ?_); k_whole) | with_reducible (k_here; (with_reducible show wpAny _ _ (call (Value.ref 225) _) _ _ _); k_dflt (refine' call_stop ?_); k_whole) | with_reducible (k_here; (with_reducible show wpAny _ _ (call (Value.ref 126) _) _ _ _); k_dflt (refine' call_stop ?_); k_whole) | with_reducible (k_here; (with_reducible show wpAny _ _ (call (Value.ref 218) _) _ _ _); k_dflt (refine' call_stop ?_); k_whole) | with_reducible (k_here; (with_reducible show wpAny _ _ (call (Value.ref 197) _) _ _ _); k_dflt (refine' call_stop ?_); k_whole) | with_reducible (k_here; k_dflt (apply draw_spec; (case hR => (first | assumption | exact room_top | exact Room.h room_top | exact Room.u_lt room_top)); (case F => k_asm); (case X => k_asm); (case N => k_asm); (case T => k_asm); (case U => walk_at "M up"); (case ho => assumption); (case hz => first | assumption | omega); (case hk => first | assumption | omega); (case hk1 => first | assumption | omega); (case hm0 => first | decide | omega); (case hm1 => first | decide | omega); (case hU => intro o9; k_mem); (case hlo => assumption); (case hi => assumption); k_whole); intro _ _ _ _ _ _ _ _ _; intro zN; (try dsimp only at zN); revert zN; intro _; intro _; (try k_sweep)) | with_reducible (k_here; k_dflt (refine' new_db (by (first | assumption | exact room_top | exact Room.h room_top | exact Room.u_lt room_top)) (by k_asm) (by k_asm) (by k_asm) (by k_asm) ?_; k_whole); intro _ _ _ _ _ _ _ _ _ _ _ _ _ _ _; (try k_sweep)))) | ((with_reducible show wpAny _ _ (eval (Expr.ListComp _ _ _ _) _) _ _ _); with_reducible (k_here; k_dflt (refine LCg.ListComp_U (F₀ := by k_asm) (by rfl) (by decide) (by rfl) (by decide) (by rfl) ?_))) | ((with_reducible show wpAny _ _ (compareOp CmpOp.Eq (Value.ref _) (Value.ref _)) _ _ _); with_reducible (k_here; k_dflt (refine' eq_stop ?_); k_whole)) | walk1 | (dsimp only; walk1) | (dsimp only; k_unfold; try dsimp only)))
              rename_i v1 _ _ bo6 _ _ _ _ lb6 v hv _ _ _
              obtain ⟨pl, plo, pvs1, prs, rfl, pm, plst, pall, ppic, plen, pnum⟩ := S.pv v hv
              rename Fr _ _ _ _ => F7
              rename News _ _ _ _ => N7a
              unfold CallAt
              have N7 := News.sub N7a (show Sub ((bx, bo6) :: (x.kp, x.ko) :: (x.rp, x.ro) :: (pc, po) :: (y.kp, y.ko) :: (y.rp, y.ro) :: (z.kp, z.ko) :: (z.rp, z.ro) :: (its ++ im)) _ by walk_at "M sub")
              clear N7a
              have oB' : Off bx ((pc, po) :: (y.kp, y.ko) :: (y.rp, y.ro) :: (z.kp, z.ko) :: (z.rp, z.ro) :: (its ++ im)) := off_mid [(pc, po), (y.kp, y.ko), (y.rp, y.ro), (z.kp, z.ko), (z.rp, z.ro)] oBi oB
              have oK' : Off x.kp ((pc, po) :: (y.kp, y.ko) :: (y.rp, y.ro) :: (z.kp, z.ko) :: (z.rp, z.ro) :: (its ++ im)) := off_mid [(pc, po), (y.kp, y.ko), (y.rp, y.ro), (z.kp, z.ko), (z.rp, z.ro)] oKi oK
              have oR' : Off x.rp ((pc, po) :: (y.kp, y.ko) :: (y.rp, y.ro) :: (z.kp, z.ko) :: (z.rp, z.ro) :: (its ++ im)) := off_mid [(pc, po), (y.kp, y.ko), (y.rp, y.ro), (z.kp, z.ko), (z.rp, z.ro)] oRi oR
              refine come_right_spec room_top F7 KX N7 T (by k_mem) lbl ibl zbl lb6 (by omega) (by omega) (by k_mem) plst pall ppic plen oB' oK' oR' nk1 nr1 nkr (Sx.db.mono (by walk_at "M sub")) Sx.kn Sx.rw (by walk_at "M sub") Sx.p1 Sx.p2 hn8 Sx.iv ?_
              clear F7 N7
              intro bo7 k7 kt7 ko7 ro7 Xs new h7 tk7 hXin F8 N8 ab8 lb8 hk7 hk8 K8 R8
              (repeat' (first | (k_unfold; (try dsimp only)) | ((with_reducible show wpAny _ _ (subscriptTail _ _ (Value.ref _) (Value.ref _)) _ _ _); with_reducible (k_here; (with_reducible show wpAny _ _ (subscriptTail _ (PySem.Expr.Slice none none (some _) _) (Value.ref _) (Value.ref _)) _ _ _); k_dflt (refine' pair_rev (by k_asm) (by k_asm) (by k_mem) ?_ (by with_unfolding_all rfl) (by intro _; with_unfolding_all rfl); k_whole); intro _ _ _ _ _; (try k_sweep))) | ((with_reducible show wpAny _ _ (newTuple _) _ _ _); with_reducible (k_here; k_dflt (refine' kup_newTuple (by k_asm) (by k_asm) ?_ (by exact Nat.le_of_ble_eq_true rfl)); intro _ _ _ _ _; (try k_sweep))) | ((with_reducible show wpAny _ _ (subscriptTail _ _ (Value.ref _) _) _ _ _); (first | with_reducible (k_here; (with_reducible show wpAny _ _ (subscriptTail _ _ (Value.ref _) (Value.int _ _)) _ _ _); k_dflt (refine' lst_tail (by k_asm) (by k_mem) (by assumption) (by omega) (by omega) (by assumption) ?_ (by with_unfolding_all rfl); k_whole)) | with_reducible (k_here; (with_reducible show wpAny _ _ (subscriptTail _ _ (Value.ref _) (Value.int _ _)) _ _ _); k_dflt (refine' lst_get (by k_asm) (by k_mem) (by assumption) (by first | omega | exact fmod_ge (by omega)) (by first | omega | exact Int.fmod_lt_of_pos _ (by omega)) (by omega) ?_ (by with_unfolding_all rfl); k_whole); intro _ _) | with_reducible (k_here; (with_reducible show wpAny _ _ (subscriptTail _ _ (Value.ref _) (Value.int _ _)) _ _ _); k_dflt (refine' lst_tail (by k_asm) (by k_mem) (by assumption) (by decide) (by decide) (by exact rfl) ?_ (by with_unfolding_all rfl); k_whole)))) | ((with_reducible show wpAny _ _ (assign (Expr.Tuple _ _ _) _ (Value.ref _)) _ _ _); with_reducible (k_here; (with_reducible show wpAny _ _ (assign (Expr.Tuple _ _ _) _ (Value.ref _)) _ _ _); k_dflt (refine' unpackN_ (by k_asm) (by k_asm) (by first | assumption | (refine News.isTup (by k_asm) (by k_mem))) (by (first | assumption | exact room_top | exact Room.h room_top | exact Room.u_lt room_top)) (by exact rfl) (by exact rfl) ?_); intro _ _ _; (try k_sweep))) | ((with_reducible show wpAny _ _ (unpackItems (Value.ref _) _ _) _ _ _); with_reducible (k_here; k_dflt (refine' unpackItemsN_ (by k_asm) (by k_asm) (by first | assumption | (refine News.isTup (by k_asm) (by k_mem))) (by (first | assumption | exact room_top | exact Room.h room_top | exact Room.u_lt room_top)) (by exact rfl) ?_; k_whole); intro _ _ _; (try k_sweep))) | ((with_reducible show wpAny _ _ (call (Value.builtin "len") _) _ _ _); with_reducible (k_here; (with_reducible show wpAny _ _ (call (Value.builtin "len") [Value.ref _]) _ _ _); k_dflt (refine' lst_len (by k_asm) (by k_mem) (by exact LstX.lst (by assumption)) (by omega) ?_; k_whole); intro _ _)) | ((with_reducible show wpAny _ _ (eval (Expr.Name _ _) _) _ _ _); (first | with_reducible (k_here; (with_reducible show wpAny _ _ (eval (Expr.Name _ _) (compEnvC _ _ _ _)) _ _ _); k_dflt (first | refine LCgL.ld_own (by k_asm) (by k_mem) (by assumption) (by assumption) ?_ | refine ld_cell (by k_asm) (by rfl) (by k_mem) (by assumption) ?_)) | with_reducible (k_here; k_dflt (apply nameX_L; (case F => k_asm); (case hk => rfl); (case hx => rfl); (case hv => walk_at "M look"); (case hd => decide); k_whole)))) | ((with_reducible show wpAny _ _ (getMethod (Value.ref _) _ _) _ _ _); with_reducible (k_here; (with_reducible show wpAny _ _ (getMethod (Value.ref _) (PySem.Str.ofString "append") _) _ _ _); k_dflt (refine' lst_method (by k_asm) (by k_mem) (by assumption) PySem.F.slot_list_append PySem.F.type_list_append ?_))) | ((with_reducible show wpAny _ _ (call (Value.builtin "list.append") _) _ _ _); with_reducible (k_here; k_dflt (apply lst_append; (case F => k_asm); (case N => k_asm); (case U => walk_at "M up"); (case ho => assumption); (case hz => omega); k_whole); intro _ _ _; intro zN; (try dsimp only at zN); revert zN; intro _; intro _; (try k_sweep))) | ((with_reducible show wpAny _ _ (exec (Stmt.For _ _ _ _ _) _) _ _ _); with_reducible (k_here; k_dflt (refine' for_go (by k_asm) ?_); k_whole)) | ((with_reducible show wpAny _ _ (exec (Stmt.For _ _ _ _ _) _) _ _ _); with_reducible (k_here; k_dflt (refine' for_go (by k_asm) ?_); k_whole)) | ((with_reducible show wpAny _ _ (call (Value.ref _) _) _ _ _); (first | with_reducible (k_here; (with_reducible show wpAny _ _ (call (Value.ref 211) _) _ _ _); k_dflt (refine' call_stop ?_); k_whole) | with_reducible (k_here; (with_reducible show wpAny _ _ (call (Value.ref 204) _) _ _ _); k_dflt (refine' call_stop ?_); k_whole) | with_reducible (k_here; (with_reducible show wpAny _ _ (call (Value.ref 225) _) _ _ _); k_dflt (refine' call_stop ?_); k_whole) | with_reducible (k_here; (with_reducible show wpAny _ _ (call (Value.ref 126) _) _ _ _); k_dflt (refine' call_stop ?_); k_whole) | with_reducible (k_here; (with_reducible show wpAny _ _ (call (Value.ref 218) _) _ _ _); k_dflt (refine' call_stop ?_); k_whole) | with_reducible (k_here; (with_reducible show wpAny _ _ (call (Value.ref 197) _) _ _ _); k_dflt (refine' call_stop ?_); k_whole) | with_reducible (k_here; k_dflt (apply draw_spec; (case hR => (first | assumption | exact room_top | exact Room.h room_top | exact Room.u_lt room_top)); (case F => k_asm); (case X => k_asm); (case N => k_asm); (case T => k_asm); (case U => walk_at "M up"); (case ho => assumption); (case hz => first | assumption | omega); (case hk => first | assumption | omega); (case hk1 => first | assumption | omega); (case hm0 => first | decide | omega); (case hm1 => first | decide | omega); (case hU => intro o9; k_mem); (case hlo => assumption); (case hi => assumption); k_whole); intro _ _ _ _ _ _ _ _ _; intro zN; (try dsimp only at zN); revert zN; intro _; intro _; (try k_sweep)) | with_reducible (k_here; k_dflt (refine' new_db (by (first | assumption | exact room_top | exact Room.h room_top | exact Room.u_lt room_top)) (by k_asm) (by k_asm) (by k_asm) (by k_asm) ?_; k_whole); intro _ _ _ _ _ _ _ _ _ _ _ _ _ _ _; (try k_sweep)))) | ((with_reducible show wpAny _ _ (eval (Expr.ListComp _ _ _ _) _) _ _ _); with_reducible (k_here; k_dflt (refine LCg.ListComp_U (F₀ := by k_asm) (by rfl) (by decide) (by rfl) (by decide) (by rfl) ?_))) | ((with_reducible show wpAny _ _ (compareOp CmpOp.Eq (Value.ref _) (Value.ref _)) _ _ _); with_reducible (k_here; k_dflt (refine' eq_stop ?_); k_whole)) | walk1 | (dsimp only; walk1) | (dsimp only; k_unfold; try dsimp only)))
              all_goals (try dsimp only)
              rename Fr _ _ _ _ => F9
              rename News _ _ _ _ => N9
              obtain ⟨a', b', c', P', S'⟩ := S.upd (x' := ⟨x.d, x.kp, x.rp, ko7, ro7, (runE now x.es Xs).1⟩) (K' := 10 * (i : Int) + 10) P hn8 rfl rfl rfl ⟨kt7, lb8⟩ (by omega) (by omega) (muts_off ab8 (by k_mem) (by k_mem) (by k_mem) (by k_mem) (by k_mem) (by k_mem) (by k_mem) (by k_mem)) (run_db Sx hXin ppic pnum hn8 K8 R8) (run_grow Xs) (fun h => absurd h (by omega)) (by omega)
              refine zhI _ ?_; refine' Hold.of ⟨_, _, _, now, nt, k7, bo7, po, pvs, a', b', c', new ++ im, rfl, F9, News.sub N9 ?zqyCN, S', ?zqyCA, ?zqyCg1, ?zqyCg2, ?zqyCg3, ?zqyCg4, ?zqyCg5⟩
              (case zqyCg1 => walk_at "M look")
              (case zqyCg2 => walk_at "M look")
              (case zqyCg3 => walk_at "M look")
              (case zqyCg4 => walk_at "M look")
              (case zqyCg5 => walk_at "M look")
              (case zqyCN => exact Sub.both (by walk_at "M sub") (P'.sub'.trans (show Sub ((bx, bo7) :: (x.kp, ko7) :: (x.rp, ro7) :: (pc, po) :: (y.kp, y.ko) :: (y.rp, y.ro) :: (z.kp, z.ko) :: (z.rp, z.ro) :: (new ++ im)) _ by walk_at "M sub")))
              (case zqyCA => exact canon_apart P P' rfl rfl ap' ab8 (by walk_at "M sub"))
          · rintro s' ⟨h6, tk6, m6, now, nt, k, bo, po, pvs, a, b, c, im, rfl, F6, N6, S, ap, q1, q2, q3, q4, q5⟩
            simp only [List.drop_succ_cons, List.drop_zero]
            (repeat' (first | (k_unfold; (try dsimp only)) | ((with_reducible show wpAny _ _ (subscriptTail _ _ (Value.ref _) (Value.ref _)) _ _ _); with_reducible (k_here; (with_reducible show wpAny _ _ (subscriptTail _ (PySem.Expr.Slice none none (some _) _) (Value.ref _) (Value.ref _)) _ _ _); k_dflt (refine' pair_rev (by k_asm) (by k_asm) (by k_mem) ?_ (by with_unfolding_all rfl) (by intro _; with_unfolding_all rfl); k_whole); intro _ _ _ _ _; (try k_sweep))) | ((with_reducible show wpAny _ _ (newTuple _) _ _ _); with_reducible (k_here; k_dflt (refine' kup_newTuple (by k_asm) (by k_asm) ?_ (by exact Nat.le_of_ble_eq_true rfl)); intro _ _ _ _ _; (try k_sweep))) | ((with_reducible show wpAny _ _ (subscriptTail _ _ (Value.ref _) _) _ _ _); (first | with_reducible (k_here; (with_reducible show wpAny _ _ (subscriptTail _ _ (Value.ref _) (Value.int _ _)) _ _ _); k_dflt (refine' lst_tail (by k_asm) (by k_mem) (by assumption) (by omega) (by omega) (by assumption) ?_ (by with_unfolding_all rfl); k_whole)) | with_reducible (k_here; (with_reducible show wpAny _ _ (subscriptTail _ _ (Value.ref _) (Value.int _ _)) _ _ _); k_dflt (refine' lst_get (by k_asm) (by k_mem) (by assumption) (by first | omega | exact fmod_ge (by omega)) (by first | omega | exact Int.fmod_lt_of_pos _ (by omega)) (by omega) ?_ (by with_unfolding_all rfl); k_whole); intro _ _) | with_reducible (k_here; (with_reducible show wpAny _ _ (subscriptTail _ _ (Value.ref _) (Value.int _ _)) _ _ _); k_dflt (refine' lst_tail (by k_asm) (by k_mem) (by assumption) (by decide) (by decide) (by exact rfl) ?_ (by with_unfolding_all rfl); k_whole)))) | ((with_reducible show wpAny _ _ (assign (Expr.Tuple _ _ _) _ (Value.ref _)) _ _ _); with_reducible (k_here; (with_reducible show wpAny _ _ (assign (Expr.Tuple _ _ _) _ (Value.ref _)) _ _ _); k_dflt (refine' unpackN_ (by k_asm) (by k_asm) (by first | assumption | (refine News.isTup (by k_asm) (by k_mem))) (by (first | assumption | exact room_top | exact Room.h room_top | exact Room.u_lt room_top)) (by exact rfl) (by exact rfl) ?_); intro _ _ _; (try k_sweep))) | ((with_reducible show wpAny _ _ (unpackItems (Value.ref _) _ _) _ _ _); with_reducible (k_here; k_dflt (refine' unpackItemsN_ (by k_asm) (by k_asm) (by first | assumption | (refine News.isTup (by k_asm) (by k_mem))) (by (first | assumption | exact room_top | exact Room.h room_top | exact Room.u_lt room_top)) (by exact rfl) ?_; k_whole); intro _ _ _; (try k_sweep))) | ((with_reducible show wpAny _ _ (call (Value.builtin "len") _) _ _ _); with_reducible (k_here; (with_reducible show wpAny _ _ (call (Value.builtin "len") [Value.ref _]) _ _ _); k_dflt (refine' lst_len (by k_asm) (by k_mem) (by exact LstX.lst (by assumption)) (by omega) ?_; k_whole); intro _ _)) | ((with_reducible show wpAny _ _ (eval (Expr.Name _ _) _) _ _ _); (first | with_reducible (k_here; (with_reducible show wpAny _ _ (eval (Expr.Name _ _) (compEnvC _ _ _ _)) _ _ _); k_dflt (first | refine LCgL.ld_own (by k_asm) (by k_mem) (by assumption) (by assumption) ?_ | refine ld_cell (by k_asm) (by rfl) (by k_mem) (by assumption) ?_)) | with_reducible (k_here; k_dflt (apply nameX_L; (case F => k_asm); (case hk => rfl); (case hx => rfl); (case hv => walk_at "M look"); (case hd => decide); k_whole)))) | ((with_reducible show wpAny _ _ (getMethod (Value.ref _) _ _) _ _ _); with_reducible (k_here; (with_reducible show wpAny _ _ (getMethod (Value.ref _) (PySem.Str.ofString "append") _) _ _ _); k_dflt (refine' lst_method (by k_asm) (by k_mem) (by assumption) PySem.F.slot_list_append PySem.F.type_list_append ?_))) | ((with_reducible show wpAny _ _ (call (Value.builtin "list.append") _) _ _ _); with_reducible (k_here; k_dflt (apply lst_append; (case F => k_asm); (case N => k_asm); (case U => walk_at "M up"); (case ho => assumption); (case hz => omega); k_whole); intro _ _ _; intro zN; (try dsimp only at zN); revert zN; intro _; intro _; (try k_sweep))) | ((with_reducible show wpAny _ _ (exec (Stmt.For _ _ _ _ _) _) _ _ _); with_reducible (k_here; k_dflt (refine' for_go (by k_asm) ?_); k_whole)) | ((with_reducible show wpAny _ _ (exec (Stmt.For _ _ _ _ _) _) _ _ _); with_reducible (k_here; k_dflt (refine' for_go (by k_asm) ?_); k_whole)) | ((with_reducible show wpAny _ _ (call (Value.ref _) _) _ _ _); (first | with_reducible (k_here; (with_reducible show wpAny _ _ (call (Value.ref 211) _) _ _ _); k_dflt (refine' call_stop ?_); k_whole) | with_reducible (k_here; (with_reducible show wpAny _ _ (call (Value.ref 204) _) _ _ _); k_dflt (refine' call_stop ?_); k_whole) | with_reducible (k_here; (with_reducible show wpAny _ _ (call (Value.ref 225) _) _ _ _); k_dflt (refine' call_stop ?_); k_whole) | with_reducible (k_here; (with_reducible show wpAny _ _ (call (Value.ref 126) _) _ _ _); k_dflt (refine' call_stop ?_); k_whole) | with_reducible (k_here; (with_reducible show wpAny _ _ (call (Value.ref 218) _) _ _ _); k_dflt (refine' call_stop ?_); k_whole) | with_reducible (k_here; (with_reducible show wpAny _ _ (call (Value.ref 197) _) _ _ _); k_dflt (refine' call_stop ?_); k_whole) | with_reducible (k_here; k_dflt (apply draw_spec; (case hR => (first | assumption | exact room_top | exact Room.h room_top | exact Room.u_lt room_top)); (case F => k_asm); (case X => k_asm); (case N => k_asm); (case T => k_asm); (case U => walk_at "M up"); (case ho => assumption); (case hz => first | assumption | omega); (case hk => first | assumption | omega); (case hk1 => first | assumption | omega); (case hm0 => first | decide | omega); (case hm1 => first | decide | omega); (case hU => intro o9; k_mem); (case hlo => assumption); (case hi => assumption); k_whole); intro _ _ _ _ _ _ _ _ _; intro zN; (try dsimp only at zN); revert zN; intro _; intro _; (try k_sweep)) | with_reducible (k_here; k_dflt (refine' new_db (by (first | assumption | exact room_top | exact Room.h room_top | exact Room.u_lt room_top)) (by k_asm) (by k_asm) (by k_asm) (by k_asm) ?_; k_whole); intro _ _ _ _ _ _ _ _ _ _ _ _ _ _ _; (try k_sweep)))) | ((with_reducible show wpAny _ _ (eval (Expr.ListComp _ _ _ _) _) _ _ _); with_reducible (k_here; k_dflt (refine LCg.ListComp_U (F₀ := by k_asm) (by rfl) (by decide) (by rfl) (by decide) (by rfl) ?_))) | ((with_reducible show wpAny _ _ (compareOp CmpOp.Eq (Value.ref _) (Value.ref _)) _ _ _); with_reducible (k_here; k_dflt (refine' eq_stop ?_); k_whole)) | walk1 | (dsimp only; walk1) | (dsimp only; k_unfold; try dsimp only)))
            rename Fr _ _ _ _ => F7
            rename News _ _ _ _ => N7
            unfold CallAt
            obtain ⟨lbb, mlb, llb⟩ := S.lb
            obtain ⟨lkk, mlk, llk⟩ := S.lk
            refine all_right_spec (imm := im) room_top F7 KX N7 T (by k_mem) llb (by k_mem) llk (.cons (dbok S.da (by walk_at "M sub") (by k_mem) (by k_mem)) (.cons (dbok S.db (by walk_at "M sub") (by k_mem) (by k_mem)) (.cons (dbok S.dc (by walk_at "M sub") (by k_mem) (by k_mem)) .nil))) (by walk_at "M sub") ?_
            clear F7 N7
            intro h7 tk7 F8 N8
            (repeat' (first | (k_unfold; (try dsimp only)) | ((with_reducible show wpAny _ _ (subscriptTail _ _ (Value.ref _) (Value.ref _)) _ _ _); with_reducible (k_here; (with_reducible show wpAny _ _ (subscriptTail _ (PySem.Expr.Slice none none (some _) _) (Value.ref _) (Value.ref _)) _ _ _); k_dflt (refine' pair_rev (by k_asm) (by k_asm) (by k_mem) ?_ (by with_unfolding_all rfl) (by intro _; with_unfolding_all rfl); k_whole); intro _ _ _ _ _; (try k_sweep))) | ((with_reducible show wpAny _ _ (newTuple _) _ _ _); with_reducible (k_here; k_dflt (refine' kup_newTuple (by k_asm) (by k_asm) ?_ (by exact Nat.le_of_ble_eq_true rfl)); intro _ _ _ _ _; (try k_sweep))) | ((with_reducible show wpAny _ _ (subscriptTail _ _ (Value.ref _) _) _ _ _); (first | with_reducible (k_here; (with_reducible show wpAny _ _ (subscriptTail _ _ (Value.ref _) (Value.int _ _)) _ _ _); k_dflt (refine' lst_tail (by k_asm) (by k_mem) (by assumption) (by omega) (by omega) (by assumption) ?_ (by with_unfolding_all rfl); k_whole)) | with_reducible (k_here; (with_reducible show wpAny _ _ (subscriptTail _ _ (Value.ref _) (Value.int _ _)) _ _ _); k_dflt (refine' lst_get (by k_asm) (by k_mem) (by assumption) (by first | omega | exact fmod_ge (by omega)) (by first | omega | exact Int.fmod_lt_of_pos _ (by omega)) (by omega) ?_ (by with_unfolding_all rfl); k_whole); intro _ _) | with_reducible (k_here; (with_reducible show wpAny _ _ (subscriptTail _ _ (Value.ref _) (Value.int _ _)) _ _ _); k_dflt (refine' lst_tail (by k_asm) (by k_mem) (by assumption) (by decide) (by decide) (by exact rfl) ?_ (by with_unfolding_all rfl); k_whole)))) | ((with_reducible show wpAny _ _ (assign (Expr.Tuple _ _ _) _ (Value.ref _)) _ _ _); with_reducible (k_here; (with_reducible show wpAny _ _ (assign (Expr.Tuple _ _ _) _ (Value.ref _)) _ _ _); k_dflt (refine' unpackN_ (by k_asm) (by k_asm) (by first | assumption | (refine News.isTup (by k_asm) (by k_mem))) (by (first | assumption | exact room_top | exact Room.h room_top | exact Room.u_lt room_top)) (by exact rfl) (by exact rfl) ?_); intro _ _ _; (try k_sweep))) | ((with_reducible show wpAny _ _ (unpackItems (Value.ref _) _ _) _ _ _); with_reducible (k_here; k_dflt (refine' unpackItemsN_ (by k_asm) (by k_asm) (by first | assumption | (refine News.isTup (by k_asm) (by k_mem))) (by (first | assumption | exact room_top | exact Room.h room_top | exact Room.u_lt room_top)) (by exact rfl) ?_; k_whole); intro _ _ _; (try k_sweep))) | ((with_reducible show wpAny _ _ (call (Value.builtin "len") _) _ _ _); with_reducible (k_here; (with_reducible show wpAny _ _ (call (Value.builtin "len") [Value.ref _]) _ _ _); k_dflt (refine' lst_len (by k_asm) (by k_mem) (by exact LstX.lst (by assumption)) (by omega) ?_; k_whole); intro _ _)) | ((with_reducible show wpAny _ _ (eval (Expr.Name _ _) _) _ _ _); (first | with_reducible (k_here; (with_reducible show wpAny _ _ (eval (Expr.Name _ _) (compEnvC _ _ _ _)) _ _ _); k_dflt (first | refine LCgL.ld_own (by k_asm) (by k_mem) (by assumption) (by assumption) ?_ | refine ld_cell (by k_asm) (by rfl) (by k_mem) (by assumption) ?_)) | with_reducible (k_here; k_dflt (apply nameX_L; (case F => k_asm); (case hk => rfl); (case hx => rfl); (case hv => walk_at "M look"); (case hd => decide); k_whole)))) | ((with_reducible show wpAny _ _ (getMethod (Value.ref _) _ _) _ _ _); with_reducible (k_here; (with_reducible show wpAny _ _ (getMethod (Value.ref _) (PySem.Str.ofString "append") _) _ _ _); k_dflt (refine' lst_method (by k_asm) (by k_mem) (by assumption) PySem.F.slot_list_append PySem.F.type_list_append ?_))) | ((with_reducible show wpAny _ _ (call (Value.builtin "list.append") _) _ _ _); with_reducible (k_here; k_dflt (apply lst_append; (case F => k_asm); (case N => k_asm); (case U => walk_at "M up"); (case ho => assumption); (case hz => omega); k_whole); intro _ _ _; intro zN; (try dsimp only at zN); revert zN; intro _; intro _; (try k_sweep))) | ((with_reducible show wpAny _ _ (exec (Stmt.For _ _ _ _ _) _) _ _ _); with_reducible (k_here; k_dflt (refine' for_go (by k_asm) ?_); k_whole)) | ((with_reducible show wpAny _ _ (exec (Stmt.For _ _ _ _ _) _) _ _ _); with_reducible (k_here; k_dflt (refine' for_go (by k_asm) ?_); k_whole)) | ((with_reducible show wpAny _ _ (call (Value.ref _) _) _ _ _); (first | with_reducible (k_here; (with_reducible show wpAny _ _ (call (Value.ref 211) _) _ _ _); k_dflt (refine' call_stop ?_); k_whole) | with_reducible (k_here; (with_reducible show wpAny _ _ (call (Value.ref 204) _) _ _ _); k_dflt (refine' call_stop ?_); k_whole) | with_reducible (k_here; (with_reducible show wpAny _ _ (call (Value.ref 225) _) _ _ _); k_dflt (refine' call_stop ?_); k_whole) | with_reducible (k_here; (with_reducible show wpAny _ _ (call (Value.ref 126) _) _ _ _); k_dflt (refine' call_stop ?_); k_whole) | with_reducible (k_here; (with_reducible show wpAny _ _ (call (Value.ref 218) _) _ _ _); k_dflt (refine' call_stop ?_); k_whole) | with_reducible (k_here; (with_reducible show wpAny _ _ (call (Value.ref 197) _) _ _ _); k_dflt (refine' call_stop ?_); k_whole) | with_reducible (k_here; k_dflt (apply draw_spec; (case hR => (first | assumption | exact room_top | exact Room.h room_top | exact Room.u_lt room_top)); (case F => k_asm); (case X => k_asm); (case N => k_asm); (case T => k_asm); (case U => walk_at "M up"); (case ho => assumption); (case hz => first | assumption | omega); (case hk => first | assumption | omega); (case hk1 => first | assumption | omega); (case hm0 => first | decide | omega); (case hm1 => first | decide | omega); (case hU => intro o9; k_mem); (case hlo => assumption); (case hi => assumption); k_whole); intro _ _ _ _ _ _ _ _ _; intro zN; (try dsimp only at zN); revert zN; intro _; intro _; (try k_sweep)) | with_reducible (k_here; k_dflt (refine' new_db (by (first | assumption | exact room_top | exact Room.h room_top | exact Room.u_lt room_top)) (by k_asm) (by k_asm) (by k_asm) (by k_asm) ?_; k_whole); intro _ _ _ _ _ _ _ _ _ _ _ _ _ _ _; (try k_sweep)))) | ((with_reducible show wpAny _ _ (eval (Expr.ListComp _ _ _ _) _) _ _ _); with_reducible (k_here; k_dflt (refine LCg.ListComp_U (F₀ := by k_asm) (by rfl) (by decide) (by rfl) (by decide) (by rfl) ?_))) | ((with_reducible show wpAny _ _ (compareOp CmpOp.Eq (Value.ref _) (Value.ref _)) _ _ _); with_reducible (k_here; k_dflt (refine' eq_stop ?_); k_whole)) | walk1 | (dsimp only; walk1) | (dsimp only; k_unfold; try dsimp only)))
            all_goals (try dsimp only)
            rename Fr _ _ _ _ => F9
            rename News _ _ _ _ => N9
            refine zhT _ _ ?_; refine Turned.next (canon bx pc bo po a b c im) F9 N9 (Sub.refl _) ap ⟨now, nt, k, bo, po, pvs, a, b, c, im, rfl, S.wide (by omega) (by omega), ?_, ?_, ?_, ?_, ?_⟩
            all_goals (walk_at "M look")
    · rintro m9 n9 h9 tk9 ⟨now, nt, k, bo, po, pvs, a, b, c, im, rfl, S, q1, q2, q3, q4, q5⟩ F9 N9
      dsimp only
      clear FF NS S0
      obtain ⟨kt, lbo⟩ := S.bo
      obtain ⟨blo, wl, wns, mbl, lbl, ibl, zbl⟩ := S.bl
      obtain ⟨lbb, mlb, llb⟩ := S.lb
      have hk0 := S.k0
      have hk1 := S.k1
      have hn0 := S.n0
      have hn1 := S.n1
      have hpic := S.pic
      have hpl := S.pl
      have hp1 := S.pn (by decide)
      have oBX := S.dist.offBox (po := po)
      (repeat' (first | (k_unfold; (try dsimp only)) | ((with_reducible show wpAny _ _ (execs _ _) _ _ _); dsimp only) | ((with_reducible show wpAny _ _ (subscriptTail _ _ (Value.ref _) (Value.ref _)) _ _ _); with_reducible (k_here; (with_reducible show wpAny _ _ (subscriptTail _ (PySem.Expr.Slice none none (some _) _) (Value.ref _) (Value.ref _)) _ _ _); k_dflt (refine' pair_rev (by k_asm) (by k_asm) (by k_mem) ?_ (by with_unfolding_all rfl) (by intro _; with_unfolding_all rfl); k_whole); intro _ _ _ _ _; (try k_sweep))) | ((with_reducible show wpAny _ _ (newTuple _) _ _ _); with_reducible (k_here; k_dflt (refine' kup_newTuple (by k_asm) (by k_asm) ?_ (by exact Nat.le_of_ble_eq_true rfl)); intro _ _ _ _ _; (try k_sweep))) | ((with_reducible show wpAny _ _ (subscriptTail _ _ (Value.ref _) _) _ _ _); (first | with_reducible (k_here; (with_reducible show wpAny _ _ (subscriptTail _ _ (Value.ref _) (Value.int _ _)) _ _ _); k_dflt (refine' lst_tail (by k_asm) (by k_mem) (by assumption) (by omega) (by omega) (by assumption) ?_ (by with_unfolding_all rfl); k_whole)) | with_reducible (k_here; (with_reducible show wpAny _ _ (subscriptTail _ _ (Value.ref _) (Value.int _ _)) _ _ _); k_dflt (refine' lst_get (by k_asm) (by k_mem) (by assumption) (by first | omega | exact fmod_ge (by omega)) (by first | omega | exact Int.fmod_lt_of_pos _ (by omega)) (by omega) ?_ (by with_unfolding_all rfl); k_whole); intro _ _) | with_reducible (k_here; (with_reducible show wpAny _ _ (subscriptTail _ _ (Value.ref _) (Value.int _ _)) _ _ _); k_dflt (refine' lst_tail (by k_asm) (by k_mem) (by assumption) (by decide) (by decide) (by exact rfl) ?_ (by with_unfolding_all rfl); k_whole)))) | ((with_reducible show wpAny _ _ (assign (Expr.Tuple _ _ _) _ (Value.ref _)) _ _ _); with_reducible (k_here; (with_reducible show wpAny _ _ (assign (Expr.Tuple _ _ _) _ (Value.ref _)) _ _ _); k_dflt (refine' unpackN_ (by k_asm) (by k_asm) (by first | assumption | (refine News.isTup (by k_asm) (by k_mem))) (by (first | assumption | exact room_top | exact Room.h room_top | exact Room.u_lt room_top)) (by exact rfl) (by exact rfl) ?_); intro _ _ _; (try k_sweep))) | ((with_reducible show wpAny _ _ (unpackItems (Value.ref _) _ _) _ _ _); with_reducible (k_here; k_dflt (refine' unpackItemsN_ (by k_asm) (by k_asm) (by first | assumption | (refine News.isTup (by k_asm) (by k_mem))) (by (first | assumption | exact room_top | exact Room.h room_top | exact Room.u_lt room_top)) (by exact rfl) ?_; k_whole); intro _ _ _; (try k_sweep))) | ((with_reducible show wpAny _ _ (call (Value.builtin "len") _) _ _ _); with_reducible (k_here; (with_reducible show wpAny _ _ (call (Value.builtin "len") [Value.ref _]) _ _ _); k_dflt (refine' lst_len (by k_asm) (by k_mem) (by exact LstX.lst (by assumption)) (by omega) ?_; k_whole); intro _ _)) | ((with_reducible show wpAny _ _ (eval (Expr.Name _ _) _) _ _ _); (first | with_reducible (k_here; (with_reducible show wpAny _ _ (eval (Expr.Name _ _) (compEnvC _ _ _ _)) _ _ _); k_dflt (first | refine LCgL.ld_own (by k_asm) (by k_mem) (by assumption) (by assumption) ?_ | refine ld_cell (by k_asm) (by rfl) (by k_mem) (by assumption) ?_)) | with_reducible (k_here; k_dflt (apply nameX_L; (case F => k_asm); (case hk => rfl); (case hx => rfl); (case hv => walk_at "M look"); (case hd => decide); k_whole)))) | ((with_reducible show wpAny _ _ (getMethod (Value.ref _) _ _) _ _ _); with_reducible (k_here; (with_reducible show wpAny _ _ (getMethod (Value.ref _) (PySem.Str.ofString "append") _) _ _ _); k_dflt (refine' lst_method (by k_asm) (by k_mem) (by assumption) PySem.F.slot_list_append PySem.F.type_list_append ?_))) | ((with_reducible show wpAny _ _ (call (Value.builtin "list.append") _) _ _ _); with_reducible (k_here; k_dflt (apply lst_append; (case F => k_asm); (case N => k_asm); (case U => walk_at "M up"); (case ho => assumption); (case hz => omega); k_whole); intro _ _ _; intro zN; (try dsimp only at zN); revert zN; intro _; intro _; (try k_sweep))) | ((with_reducible show wpAny _ _ (exec (Stmt.For _ _ _ _ _) _) _ _ _); with_reducible (k_here; k_dflt (refine' for_go (by k_asm) ?_); k_whole)) | ((with_reducible show wpAny _ _ (exec (Stmt.For _ _ _ _ _) _) _ _ _); with_reducible (k_here; k_dflt (refine' for_go (by k_asm) ?_); k_whole)) | ((with_reducible show wpAny _ _ (call (Value.ref _) _) _ _ _); (first | with_reducible (k_here; (with_reducible show wpAny _ _ (call (Value.ref 211) _) _ _ _); k_dflt (refine' call_stop ?_); k_whole) | with_reducible (k_here; (with_reducible show wpAny _ _ (call (Value.ref 204) _) _ _ _); k_dflt (refine' call_stop ?_); k_whole) | with_reducible (k_here; (with_reducible show wpAny _ _ (call (Value.ref 225) _) _ _ _); k_dflt (refine' call_stop ?_); k_whole) | with_reducible (k_here; (with_reducible show wpAny _ _ (call (Value.ref 126) _) _ _ _); k_dflt (refine' call_stop ?_); k_whole) | with_reducible (k_here; (with_reducible show wpAny _ _ (call (Value.ref 218) _) _ _ _); k_dflt (refine' call_stop ?_); k_whole) | with_reducible (k_here; (with_reducible show wpAny _ _ (call (Value.ref 197) _) _ _ _); k_dflt (refine' call_stop ?_); k_whole) | with_reducible (k_here; k_dflt (apply draw_spec; (case hR => (first | assumption | exact room_top | exact Room.h room_top | exact Room.u_lt room_top)); (case F => k_asm); (case X => k_asm); (case N => k_asm); (case T => k_asm); (case U => walk_at "M up"); (case ho => assumption); (case hz => first | assumption | omega); (case hk => first | assumption | omega); (case hk1 => first | assumption | omega); (case hm0 => first | decide | omega); (case hm1 => first | decide | omega); (case hU => intro o9; k_mem); (case hlo => assumption); (case hi => assumption); k_whole); intro _ _ _ _ _ _ _ _ _; intro zN; (try dsimp only at zN); revert zN; intro _; intro _; (try k_sweep)) | with_reducible (k_here; k_dflt (refine' new_db (by (first | assumption | exact room_top | exact Room.h room_top | exact Room.u_lt room_top)) (by k_asm) (by k_asm) (by k_asm) (by k_asm) ?_; k_whole); intro _ _ _ _ _ _ _ _ _ _ _ _ _ _ _; (try k_sweep)))) | ((with_reducible show wpAny _ _ (eval (Expr.ListComp _ _ _ _) _) _ _ _); with_reducible (k_here; k_dflt (refine LCg.ListComp_U (F₀ := by k_asm) (by rfl) (by decide) (by rfl) (by decide) (by rfl) ?_))) | ((with_reducible show wpAny _ _ (compareOp CmpOp.Eq (Value.ref _) (Value.ref _)) _ _ _); with_reducible (k_here; k_dflt (refine' eq_stop ?_); k_whole)) | walk1 | (dsimp only; walk1) | (dsimp only; k_unfold; try dsimp only)))
      rename_i v1 hv1 _ _ _ bo9 _ _ _ _ _ _ _ v2 hv2 Dl _ lDl en _ len Dt _ _ _ _ _ Dr _ lDr Do _ FO NO lDo
      obtain ⟨l1, lo1, vs1, A1, rfl, g1, g2, g3, g4, _, _⟩ := S.pv v1 hv1
      obtain ⟨l2, lo2, vs2, A2, rfl, f1, f2, f3, f4, _, _⟩ := S.pv v2 hv2
      have hn8 : now ≤ 800 := by omega
      have hda := S.da
      have hdbc := hda.db
      obtain ⟨dx, hsd, td, nd, d1, d2⟩ := hdbc
      have lEn : ∀ p ∈ (Dl, tupO [.ref l1, .ref l2]) :: canon bx pc bo9 po a b c im, p.1 < en := allLt_at len
      generalize hBB : ((Do, tupO [.ref Dl, .ref Dr]) :: (Dr, tupO [.ref l2, .ref l1]) :: (Dl, tupO [.ref l1, .ref l2]) :: (a.rp, a.ro) :: im) = BB
      have NB : News s1.heap s1.heap.objs.size _ ((en, listOf #[] 0) :: ([] ++ BB)) := News.sub NO (by rw [← hBB]; walk_at "M sub")
      have sBB : Sub im BB := by rw [← hBB]; walk_at "M sub"
      have mDo : (Do, tupO [.ref Dl, .ref Dr]) ∈ BB := by rw [← hBB]; k_mem
      have mDr : (Dr, tupO [.ref l2, .ref l1]) ∈ BB := by rw [← hBB]; k_mem
      have mDl : (Dl, tupO [.ref l1, .ref l2]) ∈ BB := by rw [← hBB]; k_mem
      have mrp : (a.rp, a.ro) ∈ BB := by rw [← hBB]; k_mem
      have oBB : Off en BB := by
        rw [← hBB]
        exact Off.cons' (Nat.ne_of_gt (lDo (en, _) (by k_mem))) (Off.cons' (Nat.ne_of_gt (lDr (en, _) (by k_mem))) (fun p hp => Nat.ne_of_lt (lEn p (by
          rcases List.mem_cons.mp hp with rfl | hp
          · exact List.Mem.head _
          rcases List.mem_cons.mp hp with rfl | hp
          · k_mem
          · k_mem))))
      have mlb2 := sBB _ mlb
      have md1 := sBB _ d1
      have md2 := sBB _ d2
      clear hBB NO lDo lDr len lDl lEn mlb d1 d2 hv1 hv2
      have hPs : All2 (fun (v : Value) (p : List Row × List Row) => ∃ D u1 w1 us1 u2 w2 us2, v = .ref D ∧ (D, tupO [.ref u1, .ref u2]) ∈ BB ∧ (u1, w1) ∈ im ∧ LstO w1 us1 ∧ All2 (RowV im) us1 p.1 ∧ Pic now p.1 ∧ (u2, w2) ∈ im ∧ LstO w2 us2 ∧ All2 (RowV im) us2 p.2 ∧ Pic now p.2) [.ref Dl, .ref Dr] [(A1, A2), (A2, A1)] :=
        .cons ⟨Dl, l1, lo1, vs1, l2, lo2, vs2, rfl, mDl, g1, g2, g3, g4, f1, f2, f3, f4⟩ (.cons ⟨Dr, l2, lo2, vs2, l1, lo1, vs1, rfl, mDr, f1, f2, f3, f4, g1, g2, g3, g4⟩ .nil)
      refine for_tup (vs := [.ref Dl, .ref Dr]) (fun i m' nn => ∃ eo evs new, nn = (en, eo) :: (new ++ BB) ∧ Off en new ∧ LstX eo evs ∧ All2 (fun v (p : List Row × List Row) => Out (new ++ BB) now a.es p.1 p.2 v) evs ([(A1, A2), (A2, A1)].take i) ∧
        m' (Str.ofString "bases") = some (.ref lb) ∧ m' (Str.ofString "now") = some (.int now nt) ∧ m' (Str.ofString "ends") = some (.ref en)) room_top.h FO NB (List.Mem.tail _ mDo) ?_ ⟨_, [], [], rfl, Off.nil, ⟨0, rfl⟩, .nil, ?_, ?_, ?_⟩ ?_ ?_
      · rintro i m' nn ⟨eo, evs, new, rfl, _⟩
        exact List.Mem.tail _ (List.mem_append_right _ mDo)
      · walk_at "M look"
      · walk_at "M look"
      · walk_at "M look"
      · rintro i v m1 nn h3 tk3 its hv ⟨eo, evs, new, rfl, oEn, leo, aO, q1, q2, q3⟩ F3 N3 ap zTQ zhT
        clear FO NB
        obtain ⟨⟨B1, B2⟩, hp, D, u1, w1, us1, u2, w2, us2, rfl, mD, e1, e2, e3, e4, e5, e6, e7, e8⟩ := hPs.get' hv
        simp only at e3 e4 e7 e8
        (repeat' (first | (k_unfold; (try dsimp only)) | ((with_reducible show wpAny _ _ (subscriptTail _ _ (Value.ref _) (Value.ref _)) _ _ _); with_reducible (k_here; (with_reducible show wpAny _ _ (subscriptTail _ (PySem.Expr.Slice none none (some _) _) (Value.ref _) (Value.ref _)) _ _ _); k_dflt (refine' pair_rev (by k_asm) (by k_asm) (by k_mem) ?_ (by with_unfolding_all rfl) (by intro _; with_unfolding_all rfl); k_whole); intro _ _ _ _ _; (try k_sweep))) | ((with_reducible show wpAny _ _ (newTuple _) _ _ _); with_reducible (k_here; k_dflt (refine' kup_newTuple (by k_asm) (by k_asm) ?_ (by exact Nat.le_of_ble_eq_true rfl)); intro _ _ _ _ _; (try k_sweep))) | ((with_reducible show wpAny _ _ (subscriptTail _ _ (Value.ref _) _) _ _ _); (first | with_reducible (k_here; (with_reducible show wpAny _ _ (subscriptTail _ _ (Value.ref _) (Value.int _ _)) _ _ _); k_dflt (refine' lst_tail (by k_asm) (by k_mem) (by assumption) (by omega) (by omega) (by assumption) ?_ (by with_unfolding_all rfl); k_whole)) | with_reducible (k_here; (with_reducible show wpAny _ _ (subscriptTail _ _ (Value.ref _) (Value.int _ _)) _ _ _); k_dflt (refine' lst_get (by k_asm) (by k_mem) (by assumption) (by first | omega | exact fmod_ge (by omega)) (by first | omega | exact Int.fmod_lt_of_pos _ (by omega)) (by omega) ?_ (by with_unfolding_all rfl); k_whole); intro _ _) | with_reducible (k_here; (with_reducible show wpAny _ _ (subscriptTail _ _ (Value.ref _) (Value.int _ _)) _ _ _); k_dflt (refine' lst_tail (by k_asm) (by k_mem) (by assumption) (by decide) (by decide) (by exact rfl) ?_ (by with_unfolding_all rfl); k_whole)))) | ((with_reducible show wpAny _ _ (assign (Expr.Tuple _ _ _) _ (Value.ref _)) _ _ _); with_reducible (k_here; (with_reducible show wpAny _ _ (assign (Expr.Tuple _ _ _) _ (Value.ref _)) _ _ _); k_dflt (refine' unpackN_ (by k_asm) (by k_asm) (by first | assumption | (refine News.isTup (by k_asm) (by k_mem))) (by (first | assumption | exact room_top | exact Room.h room_top | exact Room.u_lt room_top)) (by exact rfl) (by exact rfl) ?_); intro _ _ _; (try k_sweep))) | ((with_reducible show wpAny _ _ (unpackItems (Value.ref _) _ _) _ _ _); with_reducible (k_here; k_dflt (refine' unpackItemsN_ (by k_asm) (by k_asm) (by first | assumption | (refine News.isTup (by k_asm) (by k_mem))) (by (first | assumption | exact room_top | exact Room.h room_top | exact Room.u_lt room_top)) (by exact rfl) ?_; k_whole); intro _ _ _; (try k_sweep))) | ((with_reducible show wpAny _ _ (call (Value.builtin "len") _) _ _ _); with_reducible (k_here; (with_reducible show wpAny _ _ (call (Value.builtin "len") [Value.ref _]) _ _ _); k_dflt (refine' lst_len (by k_asm) (by k_mem) (by exact LstX.lst (by assumption)) (by omega) ?_; k_whole); intro _ _)) | ((with_reducible show wpAny _ _ (eval (Expr.Name _ _) _) _ _ _); (first | with_reducible (k_here; (with_reducible show wpAny _ _ (eval (Expr.Name _ _) (compEnvC _ _ _ _)) _ _ _); k_dflt (first | refine LCgL.ld_own (by k_asm) (by k_mem) (by assumption) (by assumption) ?_ | refine ld_cell (by k_asm) (by rfl) (by k_mem) (by assumption) ?_)) | with_reducible (k_here; k_dflt (apply nameX_L; (case F => k_asm); (case hk => rfl); (case hx => rfl); (case hv => walk_at "M look"); (case hd => decide); k_whole)))) | ((with_reducible show wpAny _ _ (getMethod (Value.ref _) _ _) _ _ _); with_reducible (k_here; (with_reducible show wpAny _ _ (getMethod (Value.ref _) (PySem.Str.ofString "append") _) _ _ _); k_dflt (refine' lst_method (by k_asm) (by k_mem) (by assumption) PySem.F.slot_list_append PySem.F.type_list_append ?_))) | ((with_reducible show wpAny _ _ (call (Value.builtin "list.append") _) _ _ _); with_reducible (k_here; k_dflt (apply lst_append; (case F => k_asm); (case N => k_asm); (case U => walk_at "M up"); (case ho => assumption); (case hz => omega); k_whole); intro _ _ _; intro zN; (try dsimp only at zN); revert zN; intro _; intro _; (try k_sweep))) | ((with_reducible show wpAny _ _ (exec (Stmt.For _ _ _ _ _) _) _ _ _); with_reducible (k_here; k_dflt (refine' for_go (by k_asm) ?_); k_whole)) | ((with_reducible show wpAny _ _ (exec (Stmt.For _ _ _ _ _) _) _ _ _); with_reducible (k_here; k_dflt (refine' for_go (by k_asm) ?_); k_whole)) | ((with_reducible show wpAny _ _ (call (Value.ref _) _) _ _ _); (first | with_reducible (k_here; (with_reducible show wpAny _ _ (call (Value.ref 211) _) _ _ _); k_dflt (refine' call_stop ?_); k_whole) | with_reducible (k_here; (with_reducible show wpAny _ _ (call (Value.ref 204) _) _ _ _); k_dflt (refine' call_stop ?_); k_whole) | with_reducible (k_here; (with_reducible show wpAny _ _ (call (Value.ref 225) _) _ _ _); k_dflt (refine' call_stop ?_); k_whole) | with_reducible (k_here; (with_reducible show wpAny _ _ (call (Value.ref 126) _) _ _ _); k_dflt (refine' call_stop ?_); k_whole) | with_reducible (k_here; (with_reducible show wpAny _ _ (call (Value.ref 218) _) _ _ _); k_dflt (refine' call_stop ?_); k_whole) | with_reducible (k_here; (with_reducible show wpAny _ _ (call (Value.ref 197) _) _ _ _); k_dflt (refine' call_stop ?_); k_whole) | with_reducible (k_here; k_dflt (apply draw_spec; (case hR => (first | assumption | exact room_top | exact Room.h room_top | exact Room.u_lt room_top)); (case F => k_asm); (case X => k_asm); (case N => k_asm); (case T => k_asm); (case U => walk_at "M up"); (case ho => assumption); (case hz => first | assumption | omega); (case hk => first | assumption | omega); (case hk1 => first | assumption | omega); (case hm0 => first | decide | omega); (case hm1 => first | decide | omega); (case hU => intro o9; k_mem); (case hlo => assumption); (case hi => assumption); k_whole); intro _ _ _ _ _ _ _ _ _; intro zN; (try dsimp only at zN); revert zN; intro _; intro _; (try k_sweep)) | with_reducible (k_here; k_dflt (refine' new_db (by (first | assumption | exact room_top | exact Room.h room_top | exact Room.u_lt room_top)) (by k_asm) (by k_asm) (by k_asm) (by k_asm) ?_; k_whole); intro _ _ _ _ _ _ _ _ _ _ _ _ _ _ _; (try k_sweep)))) | ((with_reducible show wpAny _ _ (eval (Expr.ListComp _ _ _ _) _) _ _ _); with_reducible (k_here; k_dflt (refine LCg.ListComp_U (F₀ := by k_asm) (by rfl) (by decide) (by rfl) (by decide) (by rfl) ?_))) | ((with_reducible show wpAny _ _ (compareOp CmpOp.Eq (Value.ref _) (Value.ref _)) _ _ _); with_reducible (k_here; k_dflt (refine' eq_stop ?_); k_whole)) | walk1 | (dsimp only; walk1) | (dsimp only; k_unfold; try dsimp only)))
        rename Fr _ _ _ _ => F4
        rename News _ _ _ _ => N4
        unfold CallAt
        refine all_rows_spec room_top F4 KX N4 T (hda.db.mono (by walk_at "M sub")) (by k_mem) hda.rw (by walk_at "M sub") hda.p2 hda.iv.len ?_
        clear F4 N4
        intro D0 c0 new0 vs0 rs0 h4 tk4 F5 N5 ab0 of0 a0 ar0
        have hP0 := pic_of hda.iv ar0
        (repeat' (first | (k_unfold; (try dsimp only)) | ((with_reducible show wpAny _ _ (subscriptTail _ _ (Value.ref _) (Value.ref _)) _ _ _); with_reducible (k_here; (with_reducible show wpAny _ _ (subscriptTail _ (PySem.Expr.Slice none none (some _) _) (Value.ref _) (Value.ref _)) _ _ _); k_dflt (refine' pair_rev (by k_asm) (by k_asm) (by k_mem) ?_ (by with_unfolding_all rfl) (by intro _; with_unfolding_all rfl); k_whole); intro _ _ _ _ _; (try k_sweep))) | ((with_reducible show wpAny _ _ (newTuple _) _ _ _); with_reducible (k_here; k_dflt (refine' kup_newTuple (by k_asm) (by k_asm) ?_ (by exact Nat.le_of_ble_eq_true rfl)); intro _ _ _ _ _; (try k_sweep))) | ((with_reducible show wpAny _ _ (subscriptTail _ _ (Value.ref _) _) _ _ _); (first | with_reducible (k_here; (with_reducible show wpAny _ _ (subscriptTail _ _ (Value.ref _) (Value.int _ _)) _ _ _); k_dflt (refine' lst_tail (by k_asm) (by k_mem) (by assumption) (by omega) (by omega) (by assumption) ?_ (by with_unfolding_all rfl); k_whole)) | with_reducible (k_here; (with_reducible show wpAny _ _ (subscriptTail _ _ (Value.ref _) (Value.int _ _)) _ _ _); k_dflt (refine' lst_get (by k_asm) (by k_mem) (by assumption) (by first | omega | exact fmod_ge (by omega)) (by first | omega | exact Int.fmod_lt_of_pos _ (by omega)) (by omega) ?_ (by with_unfolding_all rfl); k_whole); intro _ _) | with_reducible (k_here; (with_reducible show wpAny _ _ (subscriptTail _ _ (Value.ref _) (Value.int _ _)) _ _ _); k_dflt (refine' lst_tail (by k_asm) (by k_mem) (by assumption) (by decide) (by decide) (by exact rfl) ?_ (by with_unfolding_all rfl); k_whole)))) | ((with_reducible show wpAny _ _ (assign (Expr.Tuple _ _ _) _ (Value.ref _)) _ _ _); with_reducible (k_here; (with_reducible show wpAny _ _ (assign (Expr.Tuple _ _ _) _ (Value.ref _)) _ _ _); k_dflt (refine' unpackN_ (by k_asm) (by k_asm) (by first | assumption | (refine News.isTup (by k_asm) (by k_mem))) (by (first | assumption | exact room_top | exact Room.h room_top | exact Room.u_lt room_top)) (by exact rfl) (by exact rfl) ?_); intro _ _ _; (try k_sweep))) | ((with_reducible show wpAny _ _ (unpackItems (Value.ref _) _ _) _ _ _); with_reducible (k_here; k_dflt (refine' unpackItemsN_ (by k_asm) (by k_asm) (by first | assumption | (refine News.isTup (by k_asm) (by k_mem))) (by (first | assumption | exact room_top | exact Room.h room_top | exact Room.u_lt room_top)) (by exact rfl) ?_; k_whole); intro _ _ _; (try k_sweep))) | ((with_reducible show wpAny _ _ (call (Value.builtin "len") _) _ _ _); with_reducible (k_here; (with_reducible show wpAny _ _ (call (Value.builtin "len") [Value.ref _]) _ _ _); k_dflt (refine' lst_len (by k_asm) (by k_mem) (by exact LstX.lst (by assumption)) (by omega) ?_; k_whole); intro _ _)) | ((with_reducible show wpAny _ _ (eval (Expr.Name _ _) _) _ _ _); (first | with_reducible (k_here; (with_reducible show wpAny _ _ (eval (Expr.Name _ _) (compEnvC _ _ _ _)) _ _ _); k_dflt (first | refine LCgL.ld_own (by k_asm) (by k_mem) (by assumption) (by assumption) ?_ | refine ld_cell (by k_asm) (by rfl) (by k_mem) (by assumption) ?_)) | with_reducible (k_here; k_dflt (apply nameX_L; (case F => k_asm); (case hk => rfl); (case hx => rfl); (case hv => walk_at "M look"); (case hd => decide); k_whole)))) | ((with_reducible show wpAny _ _ (getMethod (Value.ref _) _ _) _ _ _); with_reducible (k_here; (with_reducible show wpAny _ _ (getMethod (Value.ref _) (PySem.Str.ofString "append") _) _ _ _); k_dflt (refine' lst_method (by k_asm) (by k_mem) (by assumption) PySem.F.slot_list_append PySem.F.type_list_append ?_))) | ((with_reducible show wpAny _ _ (call (Value.builtin "list.append") _) _ _ _); with_reducible (k_here; k_dflt (apply lst_append; (case F => k_asm); (case N => k_asm); (case U => walk_at "M up"); (case ho => assumption); (case hz => omega); k_whole); intro _ _ _; intro zN; (try dsimp only at zN); revert zN; intro _; intro _; (try k_sweep))) | ((with_reducible show wpAny _ _ (exec (Stmt.For _ _ _ _ _) _) _ _ _); with_reducible (k_here; k_dflt (refine' for_go (by k_asm) ?_); k_whole)) | ((with_reducible show wpAny _ _ (exec (Stmt.For _ _ _ _ _) _) _ _ _); with_reducible (k_here; k_dflt (refine' for_go (by k_asm) ?_); k_whole)) | ((with_reducible show wpAny _ _ (call (Value.ref _) _) _ _ _); (first | with_reducible (k_here; (with_reducible show wpAny _ _ (call (Value.ref 211) _) _ _ _); k_dflt (refine' call_stop ?_); k_whole) | with_reducible (k_here; (with_reducible show wpAny _ _ (call (Value.ref 204) _) _ _ _); k_dflt (refine' call_stop ?_); k_whole) | with_reducible (k_here; (with_reducible show wpAny _ _ (call (Value.ref 225) _) _ _ _); k_dflt (refine' call_stop ?_); k_whole) | with_reducible (k_here; (with_reducible show wpAny _ _ (call (Value.ref 126) _) _ _ _); k_dflt (refine' call_stop ?_); k_whole) | with_reducible (k_here; (with_reducible show wpAny _ _ (call (Value.ref 218) _) _ _ _); k_dflt (refine' call_stop ?_); k_whole) | with_reducible (k_here; (with_reducible show wpAny _ _ (call (Value.ref 197) _) _ _ _); k_dflt (refine' call_stop ?_); k_whole) | with_reducible (k_here; k_dflt (apply draw_spec; (case hR => (first | assumption | exact room_top | exact Room.h room_top | exact Room.u_lt room_top)); (case F => k_asm); (case X => k_asm); (case N => k_asm); (case T => k_asm); (case U => walk_at "M up"); (case ho => assumption); (case hz => first | assumption | omega); (case hk => first | assumption | omega); (case hk1 => first | assumption | omega); (case hm0 => first | decide | omega); (case hm1 => first | decide | omega); (case hU => intro o9; k_mem); (case hlo => assumption); (case hi => assumption); k_whole); intro _ _ _ _ _ _ _ _ _; intro zN; (try dsimp only at zN); revert zN; intro _; intro _; (try k_sweep)) | with_reducible (k_here; k_dflt (refine' new_db (by (first | assumption | exact room_top | exact Room.h room_top | exact Room.u_lt room_top)) (by k_asm) (by k_asm) (by k_asm) (by k_asm) ?_; k_whole); intro _ _ _ _ _ _ _ _ _ _ _ _ _ _ _; (try k_sweep)))) | ((with_reducible show wpAny _ _ (eval (Expr.ListComp _ _ _ _) _) _ _ _); with_reducible (k_here; k_dflt (refine LCg.ListComp_U (F₀ := by k_asm) (by rfl) (by decide) (by rfl) (by decide) (by rfl) ?_))) | ((with_reducible show wpAny _ _ (compareOp CmpOp.Eq (Value.ref _) (Value.ref _)) _ _ _); with_reducible (k_here; k_dflt (refine' eq_stop ?_); k_whole)) | walk1 | (dsimp only; walk1) | (dsimp only; k_unfold; try dsimp only)))
        rename Fr _ _ _ _ => F6
        rename News _ _ _ _ => N6
        unfold CallAt
        refine made_specI (imm := new0 ++ im) room_top F6 KX N6 T (List.Mem.head _) LstO.of a0 (by walk_at "M sub") hP0.len ?_
        clear F6 N6
        intro TT d' rp' kp' ko' ro' newm h5 tk5 F7 N7 lT ab7 ok7 or7 db7 K7 R7 p17 p27
        have db7c := db7
        obtain ⟨dx7, hsd7, td7, nd7, d17, d27⟩ := db7c
        (repeat' (first | (k_unfold; (try dsimp only)) | ((with_reducible show wpAny _ _ (subscriptTail _ _ (Value.ref _) (Value.ref _)) _ _ _); with_reducible (k_here; (with_reducible show wpAny _ _ (subscriptTail _ (PySem.Expr.Slice none none (some _) _) (Value.ref _) (Value.ref _)) _ _ _); k_dflt (refine' pair_rev (by k_asm) (by k_asm) (by k_mem) ?_ (by with_unfolding_all rfl) (by intro _; with_unfolding_all rfl); k_whole); intro _ _ _ _ _; (try k_sweep))) | ((with_reducible show wpAny _ _ (newTuple _) _ _ _); with_reducible (k_here; k_dflt (refine' kup_newTuple (by k_asm) (by k_asm) ?_ (by exact Nat.le_of_ble_eq_true rfl)); intro _ _ _ _ _; (try k_sweep))) | ((with_reducible show wpAny _ _ (subscriptTail _ _ (Value.ref _) _) _ _ _); (first | with_reducible (k_here; (with_reducible show wpAny _ _ (subscriptTail _ _ (Value.ref _) (Value.int _ _)) _ _ _); k_dflt (refine' lst_tail (by k_asm) (by k_mem) (by assumption) (by omega) (by omega) (by assumption) ?_ (by with_unfolding_all rfl); k_whole)) | with_reducible (k_here; (with_reducible show wpAny _ _ (subscriptTail _ _ (Value.ref _) (Value.int _ _)) _ _ _); k_dflt (refine' lst_get (by k_asm) (by k_mem) (by assumption) (by first | omega | exact fmod_ge (by omega)) (by first | omega | exact Int.fmod_lt_of_pos _ (by omega)) (by omega) ?_ (by with_unfolding_all rfl); k_whole); intro _ _) | with_reducible (k_here; (with_reducible show wpAny _ _ (subscriptTail _ _ (Value.ref _) (Value.int _ _)) _ _ _); k_dflt (refine' lst_tail (by k_asm) (by k_mem) (by assumption) (by decide) (by decide) (by exact rfl) ?_ (by with_unfolding_all rfl); k_whole)))) | ((with_reducible show wpAny _ _ (assign (Expr.Tuple _ _ _) _ (Value.ref _)) _ _ _); with_reducible (k_here; (with_reducible show wpAny _ _ (assign (Expr.Tuple _ _ _) _ (Value.ref _)) _ _ _); k_dflt (refine' unpackN_ (by k_asm) (by k_asm) (by first | assumption | (refine News.isTup (by k_asm) (by k_mem))) (by (first | assumption | exact room_top | exact Room.h room_top | exact Room.u_lt room_top)) (by exact rfl) (by exact rfl) ?_); intro _ _ _; (try k_sweep))) | ((with_reducible show wpAny _ _ (unpackItems (Value.ref _) _ _) _ _ _); with_reducible (k_here; k_dflt (refine' unpackItemsN_ (by k_asm) (by k_asm) (by first | assumption | (refine News.isTup (by k_asm) (by k_mem))) (by (first | assumption | exact room_top | exact Room.h room_top | exact Room.u_lt room_top)) (by exact rfl) ?_; k_whole); intro _ _ _; (try k_sweep))) | ((with_reducible show wpAny _ _ (call (Value.builtin "len") _) _ _ _); with_reducible (k_here; (with_reducible show wpAny _ _ (call (Value.builtin "len") [Value.ref _]) _ _ _); k_dflt (refine' lst_len (by k_asm) (by k_mem) (by exact LstX.lst (by assumption)) (by omega) ?_; k_whole); intro _ _)) | ((with_reducible show wpAny _ _ (eval (Expr.Name _ _) _) _ _ _); (first | with_reducible (k_here; (with_reducible show wpAny _ _ (eval (Expr.Name _ _) (compEnvC _ _ _ _)) _ _ _); k_dflt (first | refine LCgL.ld_own (by k_asm) (by k_mem) (by assumption) (by assumption) ?_ | refine ld_cell (by k_asm) (by rfl) (by k_mem) (by assumption) ?_)) | with_reducible (k_here; k_dflt (apply nameX_L; (case F => k_asm); (case hk => rfl); (case hx => rfl); (case hv => walk_at "M look"); (case hd => decide); k_whole)))) | ((with_reducible show wpAny _ _ (getMethod (Value.ref _) _ _) _ _ _); with_reducible (k_here; (with_reducible show wpAny _ _ (getMethod (Value.ref _) (PySem.Str.ofString "append") _) _ _ _); k_dflt (refine' lst_method (by k_asm) (by k_mem) (by assumption) PySem.F.slot_list_append PySem.F.type_list_append ?_))) | ((with_reducible show wpAny _ _ (call (Value.builtin "list.append") _) _ _ _); with_reducible (k_here; k_dflt (apply lst_append; (case F => k_asm); (case N => k_asm); (case U => walk_at "M up"); (case ho => assumption); (case hz => omega); k_whole); intro _ _ _; intro zN; (try dsimp only at zN); revert zN; intro _; intro _; (try k_sweep))) | ((with_reducible show wpAny _ _ (exec (Stmt.For _ _ _ _ _) _) _ _ _); with_reducible (k_here; k_dflt (refine' for_go (by k_asm) ?_); k_whole)) | ((with_reducible show wpAny _ _ (exec (Stmt.For _ _ _ _ _) _) _ _ _); with_reducible (k_here; k_dflt (refine' for_go (by k_asm) ?_); k_whole)) | ((with_reducible show wpAny _ _ (call (Value.ref _) _) _ _ _); (first | with_reducible (k_here; (with_reducible show wpAny _ _ (call (Value.ref 211) _) _ _ _); k_dflt (refine' call_stop ?_); k_whole) | with_reducible (k_here; (with_reducible show wpAny _ _ (call (Value.ref 204) _) _ _ _); k_dflt (refine' call_stop ?_); k_whole) | with_reducible (k_here; (with_reducible show wpAny _ _ (call (Value.ref 225) _) _ _ _); k_dflt (refine' call_stop ?_); k_whole) | with_reducible (k_here; (with_reducible show wpAny _ _ (call (Value.ref 126) _) _ _ _); k_dflt (refine' call_stop ?_); k_whole) | with_reducible (k_here; (with_reducible show wpAny _ _ (call (Value.ref 218) _) _ _ _); k_dflt (refine' call_stop ?_); k_whole) | with_reducible (k_here; (with_reducible show wpAny _ _ (call (Value.ref 197) _) _ _ _); k_dflt (refine' call_stop ?_); k_whole) | with_reducible (k_here; k_dflt (apply draw_spec; (case hR => (first | assumption | exact room_top | exact Room.h room_top | exact Room.u_lt room_top)); (case F => k_asm); (case X => k_asm); (case N => k_asm); (case T => k_asm); (case U => walk_at "M up"); (case ho => assumption); (case hz => first | assumption | omega); (case hk => first | assumption | omega); (case hk1 => first | assumption | omega); (case hm0 => first | decide | omega); (case hm1 => first | decide | omega); (case hU => intro o9; k_mem); (case hlo => assumption); (case hi => assumption); k_whole); intro _ _ _ _ _ _ _ _ _; intro zN; (try dsimp only at zN); revert zN; intro _; intro _; (try k_sweep)) | with_reducible (k_here; k_dflt (refine' new_db (by (first | assumption | exact room_top | exact Room.h room_top | exact Room.u_lt room_top)) (by k_asm) (by k_asm) (by k_asm) (by k_asm) ?_; k_whole); intro _ _ _ _ _ _ _ _ _ _ _ _ _ _ _; (try k_sweep)))) | ((with_reducible show wpAny _ _ (eval (Expr.ListComp _ _ _ _) _) _ _ _); with_reducible (k_here; k_dflt (refine LCg.ListComp_U (F₀ := by k_asm) (by rfl) (by decide) (by rfl) (by decide) (by rfl) ?_))) | ((with_reducible show wpAny _ _ (compareOp CmpOp.Eq (Value.ref _) (Value.ref _)) _ _ _); with_reducible (k_here; k_dflt (refine' eq_stop ?_); k_whole)) | walk1 | (dsimp only; walk1) | (dsimp only; k_unfold; try dsimp only)))
        rename Fr _ _ _ _ => F8
        rename News _ _ _ _ => N8a
        unfold CallAt
        have nkr7 : kp' ≠ rp' := fun q => ok7 (rp', ro') (List.Mem.head _) q.symm
        have ok7b : Off kp' (newm ++ ((D0, listOf (List.toArray vs0) c0) :: (new0 ++ (its ++ ((en, eo) :: (new ++ BB)))))) := fun p hp => ok7 p (List.Mem.tail _ hp)
        have hI0 : InvE now (madeEs now rs0) := InvE.made hn8 rs0 hP0.fit
        have mu1 : (u1, w1) ∈ BB := sBB _ e1
        have mu2 : (u2, w2) ∈ BB := sBB _ e5
        have men : (en, eo) ∈ newm ++ ((D0, listOf (List.toArray vs0) c0) :: (new0 ++ (its ++ ((en, eo) :: (new ++ BB))))) := by k_mem
        have N8 := News.sub N8a (show Sub ((kp', ko') :: (rp', ro') :: (newm ++ ((D0, listOf (List.toArray vs0) c0) :: (new0 ++ (its ++ ((en, eo) :: (new ++ BB))))))) _ by walk_at "M sub")
        clear N8a
        refine sent_back_spec room_top F8 KX N8 T (by k_mem) e2 (all_mono (led' := newm ++ (new0 ++ im)) (by walk_at "M sub") e3) (by have := e4.len; omega) (by have := hI0.len; omega) ok7b or7 nkr7 (db7.mono (by walk_at "M sub")) K7 R7 (by walk_at "M sub") p17 p27 hn8 hI0.ok (fun r hr => (e4.fit r hr).1) ?_
        clear F8 N8
        intro D2 bo2 ko2 ro2 new2 bvs2 h6 tk6 F9 N9 ab2 oD2 lb2 _ K2 R2
        have hI1 := hI0.run hn8 B1 e4.fit
        generalize hes1 : (runE now (madeEs now rs0) B1).1 = es1 at *
        (repeat' (first | (k_unfold; (try dsimp only)) | ((with_reducible show wpAny _ _ (subscriptTail _ _ (Value.ref _) (Value.ref _)) _ _ _); with_reducible (k_here; (with_reducible show wpAny _ _ (subscriptTail _ (PySem.Expr.Slice none none (some _) _) (Value.ref _) (Value.ref _)) _ _ _); k_dflt (refine' pair_rev (by k_asm) (by k_asm) (by k_mem) ?_ (by with_unfolding_all rfl) (by intro _; with_unfolding_all rfl); k_whole); intro _ _ _ _ _; (try k_sweep))) | ((with_reducible show wpAny _ _ (newTuple _) _ _ _); with_reducible (k_here; k_dflt (refine' kup_newTuple (by k_asm) (by k_asm) ?_ (by exact Nat.le_of_ble_eq_true rfl)); intro _ _ _ _ _; (try k_sweep))) | ((with_reducible show wpAny _ _ (subscriptTail _ _ (Value.ref _) _) _ _ _); (first | with_reducible (k_here; (with_reducible show wpAny _ _ (subscriptTail _ _ (Value.ref _) (Value.int _ _)) _ _ _); k_dflt (refine' lst_tail (by k_asm) (by k_mem) (by assumption) (by omega) (by omega) (by assumption) ?_ (by with_unfolding_all rfl); k_whole)) | with_reducible (k_here; (with_reducible show wpAny _ _ (subscriptTail _ _ (Value.ref _) (Value.int _ _)) _ _ _); k_dflt (refine' lst_get (by k_asm) (by k_mem) (by assumption) (by first | omega | exact fmod_ge (by omega)) (by first | omega | exact Int.fmod_lt_of_pos _ (by omega)) (by omega) ?_ (by with_unfolding_all rfl); k_whole); intro _ _) | with_reducible (k_here; (with_reducible show wpAny _ _ (subscriptTail _ _ (Value.ref _) (Value.int _ _)) _ _ _); k_dflt (refine' lst_tail (by k_asm) (by k_mem) (by assumption) (by decide) (by decide) (by exact rfl) ?_ (by with_unfolding_all rfl); k_whole)))) | ((with_reducible show wpAny _ _ (assign (Expr.Tuple _ _ _) _ (Value.ref _)) _ _ _); with_reducible (k_here; (with_reducible show wpAny _ _ (assign (Expr.Tuple _ _ _) _ (Value.ref _)) _ _ _); k_dflt (refine' unpackN_ (by k_asm) (by k_asm) (by first | assumption | (refine News.isTup (by k_asm) (by k_mem))) (by (first | assumption | exact room_top | exact Room.h room_top | exact Room.u_lt room_top)) (by exact rfl) (by exact rfl) ?_); intro _ _ _; (try k_sweep))) | ((with_reducible show wpAny _ _ (unpackItems (Value.ref _) _ _) _ _ _); with_reducible (k_here; k_dflt (refine' unpackItemsN_ (by k_asm) (by k_asm) (by first | assumption | (refine News.isTup (by k_asm) (by k_mem))) (by (first | assumption | exact room_top | exact Room.h room_top | exact Room.u_lt room_top)) (by exact rfl) ?_; k_whole); intro _ _ _; (try k_sweep))) | ((with_reducible show wpAny _ _ (call (Value.builtin "len") _) _ _ _); with_reducible (k_here; (with_reducible show wpAny _ _ (call (Value.builtin "len") [Value.ref _]) _ _ _); k_dflt (refine' lst_len (by k_asm) (by k_mem) (by exact LstX.lst (by assumption)) (by omega) ?_; k_whole); intro _ _)) | ((with_reducible show wpAny _ _ (eval (Expr.Name _ _) _) _ _ _); (first | with_reducible (k_here; (with_reducible show wpAny _ _ (eval (Expr.Name _ _) (compEnvC _ _ _ _)) _ _ _); k_dflt (first | refine LCgL.ld_own (by k_asm) (by k_mem) (by assumption) (by assumption) ?_ | refine ld_cell (by k_asm) (by rfl) (by k_mem) (by assumption) ?_)) | with_reducible (k_here; k_dflt (apply nameX_L; (case F => k_asm); (case hk => rfl); (case hx => rfl); (case hv => walk_at "M look"); (case hd => decide); k_whole)))) | ((with_reducible show wpAny _ _ (getMethod (Value.ref _) _ _) _ _ _); with_reducible (k_here; (with_reducible show wpAny _ _ (getMethod (Value.ref _) (PySem.Str.ofString "append") _) _ _ _); k_dflt (refine' lst_method (by k_asm) (by k_mem) (by assumption) PySem.F.slot_list_append PySem.F.type_list_append ?_))) | ((with_reducible show wpAny _ _ (call (Value.builtin "list.append") _) _ _ _); with_reducible (k_here; k_dflt (apply lst_append; (case F => k_asm); (case N => k_asm); (case U => walk_at "M up"); (case ho => assumption); (case hz => omega); k_whole); intro _ _ _; intro zN; (try dsimp only at zN); revert zN; intro _; intro _; (try k_sweep))) | ((with_reducible show wpAny _ _ (exec (Stmt.For _ _ _ _ _) _) _ _ _); with_reducible (k_here; k_dflt (refine' for_go (by k_asm) ?_); k_whole)) | ((with_reducible show wpAny _ _ (exec (Stmt.For _ _ _ _ _) _) _ _ _); with_reducible (k_here; k_dflt (refine' for_go (by k_asm) ?_); k_whole)) | ((with_reducible show wpAny _ _ (call (Value.ref _) _) _ _ _); (first | with_reducible (k_here; (with_reducible show wpAny _ _ (call (Value.ref 211) _) _ _ _); k_dflt (refine' call_stop ?_); k_whole) | with_reducible (k_here; (with_reducible show wpAny _ _ (call (Value.ref 204) _) _ _ _); k_dflt (refine' call_stop ?_); k_whole) | with_reducible (k_here; (with_reducible show wpAny _ _ (call (Value.ref 225) _) _ _ _); k_dflt (refine' call_stop ?_); k_whole) | with_reducible (k_here; (with_reducible show wpAny _ _ (call (Value.ref 126) _) _ _ _); k_dflt (refine' call_stop ?_); k_whole) | with_reducible (k_here; (with_reducible show wpAny _ _ (call (Value.ref 218) _) _ _ _); k_dflt (refine' call_stop ?_); k_whole) | with_reducible (k_here; (with_reducible show wpAny _ _ (call (Value.ref 197) _) _ _ _); k_dflt (refine' call_stop ?_); k_whole) | with_reducible (k_here; k_dflt (apply draw_spec; (case hR => (first | assumption | exact room_top | exact Room.h room_top | exact Room.u_lt room_top)); (case F => k_asm); (case X => k_asm); (case N => k_asm); (case T => k_asm); (case U => walk_at "M up"); (case ho => assumption); (case hz => first | assumption | omega); (case hk => first | assumption | omega); (case hk1 => first | assumption | omega); (case hm0 => first | decide | omega); (case hm1 => first | decide | omega); (case hU => intro o9; k_mem); (case hlo => assumption); (case hi => assumption); k_whole); intro _ _ _ _ _ _ _ _ _; intro zN; (try dsimp only at zN); revert zN; intro _; intro _; (try k_sweep)) | with_reducible (k_here; k_dflt (refine' new_db (by (first | assumption | exact room_top | exact Room.h room_top | exact Room.u_lt room_top)) (by k_asm) (by k_asm) (by k_asm) (by k_asm) ?_; k_whole); intro _ _ _ _ _ _ _ _ _ _ _ _ _ _ _; (try k_sweep)))) | ((with_reducible show wpAny _ _ (eval (Expr.ListComp _ _ _ _) _) _ _ _); with_reducible (k_here; k_dflt (refine LCg.ListComp_U (F₀ := by k_asm) (by rfl) (by decide) (by rfl) (by decide) (by rfl) ?_))) | ((with_reducible show wpAny _ _ (compareOp CmpOp.Eq (Value.ref _) (Value.ref _)) _ _ _); with_reducible (k_here; k_dflt (refine' eq_stop ?_); k_whole)) | walk1 | (dsimp only; walk1) | (dsimp only; k_unfold; try dsimp only)))
        rename Fr _ _ _ _ => F10
        rename News _ _ _ _ => N10
        unfold CallAt
        have ok9 : Off kp' ((D2, bo2) :: (new2 ++ (newm ++ ((D0, listOf (List.toArray vs0) c0) :: (new0 ++ (its ++ ((en, eo) :: (new ++ BB)))))))) := fun p hp => by
          rcases List.mem_cons.mp hp with rfl | hp
          · exact Nat.ne_of_gt (ab2 _ (List.Mem.head _) (kp', ko') (List.Mem.head _))
          rcases List.mem_append.mp hp with hp | hp
          · exact Nat.ne_of_gt (ab2 p (List.Mem.tail _ hp) (kp', ko') (List.Mem.head _))
          · exact ok7b p hp
        have or9 : Off rp' ((D2, bo2) :: (new2 ++ (newm ++ ((D0, listOf (List.toArray vs0) c0) :: (new0 ++ (its ++ ((en, eo) :: (new ++ BB)))))))) := fun p hp => by
          rcases List.mem_cons.mp hp with rfl | hp
          · exact Nat.ne_of_gt (ab2 _ (List.Mem.head _) (rp', ro') (List.Mem.tail _ (List.Mem.head _)))
          rcases List.mem_append.mp hp with hp | hp
          · exact Nat.ne_of_gt (ab2 p (List.Mem.tail _ hp) (rp', ro') (List.Mem.tail _ (List.Mem.head _)))
          · exact or7 p hp
        have N11 := News.sub N10 (show Sub ((kp', ko2) :: (rp', ro2) :: ((D2, bo2) :: (new2 ++ (newm ++ ((D0, listOf (List.toArray vs0) c0) :: (new0 ++ (its ++ ((en, eo) :: (new ++ BB)))))))))  _ by walk_at "M sub")
        clear N10
        refine sent_back_spec room_top F10 KX N11 T (by k_mem) e6 (all_mono (led' := new2 ++ (newm ++ (new0 ++ im))) (by walk_at "M sub") e7) (by have := e8.len; omega) (by have := hI1.len; omega) ok9 or9 nkr7 (db7.mono (by walk_at "M sub")) K2 R2 (by walk_at "M sub") p17 p27 hn8 hI1.ok (fun r hr => (e8.fit r hr).1) ?_
        clear F10 N11
        intro D3 bo3 ko3 ro3 new3 bvs3 h7 tk7 F12 N12 ab3 oD3 lb3 _ K3 R3
        have hI2 := hI1.run hn8 B2 e8.fit
        generalize hes2 : (runE now es1 B2).1 = es2 at *
        have hel : evs.length ≤ 2 := by rw [aO.length]; simp; omega
        (repeat' (first | (k_unfold; (try dsimp only)) | ((with_reducible show wpAny _ _ (subscriptTail _ _ (Value.ref _) (Value.ref _)) _ _ _); with_reducible (k_here; (with_reducible show wpAny _ _ (subscriptTail _ (PySem.Expr.Slice none none (some _) _) (Value.ref _) (Value.ref _)) _ _ _); k_dflt (refine' pair_rev (by k_asm) (by k_asm) (by k_mem) ?_ (by with_unfolding_all rfl) (by intro _; with_unfolding_all rfl); k_whole); intro _ _ _ _ _; (try k_sweep))) | ((with_reducible show wpAny _ _ (newTuple _) _ _ _); with_reducible (k_here; k_dflt (refine' kup_newTuple (by k_asm) (by k_asm) ?_ (by exact Nat.le_of_ble_eq_true rfl)); intro _ _ _ _ _; (try k_sweep))) | ((with_reducible show wpAny _ _ (subscriptTail _ _ (Value.ref _) _) _ _ _); (first | with_reducible (k_here; (with_reducible show wpAny _ _ (subscriptTail _ _ (Value.ref _) (Value.int _ _)) _ _ _); k_dflt (refine' lst_tail (by k_asm) (by k_mem) (by assumption) (by omega) (by omega) (by assumption) ?_ (by with_unfolding_all rfl); k_whole)) | with_reducible (k_here; (with_reducible show wpAny _ _ (subscriptTail _ _ (Value.ref _) (Value.int _ _)) _ _ _); k_dflt (refine' lst_get (by k_asm) (by k_mem) (by assumption) (by first | omega | exact fmod_ge (by omega)) (by first | omega | exact Int.fmod_lt_of_pos _ (by omega)) (by omega) ?_ (by with_unfolding_all rfl); k_whole); intro _ _) | with_reducible (k_here; (with_reducible show wpAny _ _ (subscriptTail _ _ (Value.ref _) (Value.int _ _)) _ _ _); k_dflt (refine' lst_tail (by k_asm) (by k_mem) (by assumption) (by decide) (by decide) (by exact rfl) ?_ (by with_unfolding_all rfl); k_whole)))) | ((with_reducible show wpAny _ _ (assign (Expr.Tuple _ _ _) _ (Value.ref _)) _ _ _); with_reducible (k_here; (with_reducible show wpAny _ _ (assign (Expr.Tuple _ _ _) _ (Value.ref _)) _ _ _); k_dflt (refine' unpackN_ (by k_asm) (by k_asm) (by first | assumption | (refine News.isTup (by k_asm) (by k_mem))) (by (first | assumption | exact room_top | exact Room.h room_top | exact Room.u_lt room_top)) (by exact rfl) (by exact rfl) ?_); intro _ _ _; (try k_sweep))) | ((with_reducible show wpAny _ _ (unpackItems (Value.ref _) _ _) _ _ _); with_reducible (k_here; k_dflt (refine' unpackItemsN_ (by k_asm) (by k_asm) (by first | assumption | (refine News.isTup (by k_asm) (by k_mem))) (by (first | assumption | exact room_top | exact Room.h room_top | exact Room.u_lt room_top)) (by exact rfl) ?_; k_whole); intro _ _ _; (try k_sweep))) | ((with_reducible show wpAny _ _ (call (Value.builtin "len") _) _ _ _); with_reducible (k_here; (with_reducible show wpAny _ _ (call (Value.builtin "len") [Value.ref _]) _ _ _); k_dflt (refine' lst_len (by k_asm) (by k_mem) (by exact LstX.lst (by assumption)) (by omega) ?_; k_whole); intro _ _)) | ((with_reducible show wpAny _ _ (eval (Expr.Name _ _) _) _ _ _); (first | with_reducible (k_here; (with_reducible show wpAny _ _ (eval (Expr.Name _ _) (compEnvC _ _ _ _)) _ _ _); k_dflt (first | refine LCgL.ld_own (by k_asm) (by k_mem) (by assumption) (by assumption) ?_ | refine ld_cell (by k_asm) (by rfl) (by k_mem) (by assumption) ?_)) | with_reducible (k_here; k_dflt (apply nameX_L; (case F => k_asm); (case hk => rfl); (case hx => rfl); (case hv => walk_at "M look"); (case hd => decide); k_whole)))) | ((with_reducible show wpAny _ _ (getMethod (Value.ref _) _ _) _ _ _); with_reducible (k_here; (with_reducible show wpAny _ _ (getMethod (Value.ref _) (PySem.Str.ofString "append") _) _ _ _); k_dflt (refine' lst_method (by k_asm) (by k_mem) (by assumption) PySem.F.slot_list_append PySem.F.type_list_append ?_))) | ((with_reducible show wpAny _ _ (call (Value.builtin "list.append") _) _ _ _); with_reducible (k_here; k_dflt (apply lst_append; (case F => k_asm); (case N => k_asm); (case U => walk_at "M up"); (case ho => assumption); (case hz => omega); k_whole); intro _ _ _; intro zN; (try dsimp only at zN); revert zN; intro _; intro _; (try k_sweep))) | ((with_reducible show wpAny _ _ (exec (Stmt.For _ _ _ _ _) _) _ _ _); with_reducible (k_here; k_dflt (refine' for_go (by k_asm) ?_); k_whole)) | ((with_reducible show wpAny _ _ (exec (Stmt.For _ _ _ _ _) _) _ _ _); with_reducible (k_here; k_dflt (refine' for_go (by k_asm) ?_); k_whole)) | ((with_reducible show wpAny _ _ (call (Value.ref _) _) _ _ _); (first | with_reducible (k_here; (with_reducible show wpAny _ _ (call (Value.ref 211) _) _ _ _); k_dflt (refine' call_stop ?_); k_whole) | with_reducible (k_here; (with_reducible show wpAny _ _ (call (Value.ref 204) _) _ _ _); k_dflt (refine' call_stop ?_); k_whole) | with_reducible (k_here; (with_reducible show wpAny _ _ (call (Value.ref 225) _) _ _ _); k_dflt (refine' call_stop ?_); k_whole) | with_reducible (k_here; (with_reducible show wpAny _ _ (call (Value.ref 126) _) _ _ _); k_dflt (refine' call_stop ?_); k_whole) | with_reducible (k_here; (with_reducible show wpAny _ _ (call (Value.ref 218) _) _ _ _); k_dflt (refine' call_stop ?_); k_whole) | with_reducible (k_here; (with_reducible show wpAny _ _ (call (Value.ref 197) _) _ _ _); k_dflt (refine' call_stop ?_); k_whole) | with_reducible (k_here; k_dflt (apply draw_spec; (case hR => (first | assumption | exact room_top | exact Room.h room_top | exact Room.u_lt room_top)); (case F => k_asm); (case X => k_asm); (case N => k_asm); (case T => k_asm); (case U => walk_at "M up"); (case ho => assumption); (case hz => first | assumption | omega); (case hk => first | assumption | omega); (case hk1 => first | assumption | omega); (case hm0 => first | decide | omega); (case hm1 => first | decide | omega); (case hU => intro o9; k_mem); (case hlo => assumption); (case hi => assumption); k_whole); intro _ _ _ _ _ _ _ _ _; intro zN; (try dsimp only at zN); revert zN; intro _; intro _; (try k_sweep)) | with_reducible (k_here; k_dflt (refine' new_db (by (first | assumption | exact room_top | exact Room.h room_top | exact Room.u_lt room_top)) (by k_asm) (by k_asm) (by k_asm) (by k_asm) ?_; k_whole); intro _ _ _ _ _ _ _ _ _ _ _ _ _ _ _; (try k_sweep)))) | ((with_reducible show wpAny _ _ (eval (Expr.ListComp _ _ _ _) _) _ _ _); with_reducible (k_here; k_dflt (refine LCg.ListComp_U (F₀ := by k_asm) (by rfl) (by decide) (by rfl) (by decide) (by rfl) ?_))) | ((with_reducible show wpAny _ _ (compareOp CmpOp.Eq (Value.ref _) (Value.ref _)) _ _ _); with_reducible (k_here; k_dflt (refine' eq_stop ?_); k_whole)) | walk1 | (dsimp only; walk1) | (dsimp only; k_unfold; try dsimp only)))
        rename Fr _ _ _ _ => F13
        rename News _ _ _ _ => N13
        unfold CallAt
        refine all_rows_spec room_top F13 KX N13 T (db7.mono (by walk_at "M sub")) (by k_mem) R3 (by walk_at "M sub") p27 hI2.len ?_
        clear F13 N13
        intro D5 c5 new5 vs5 rs5 h8 tk8 F14 N14 ab5 of5 a5 ar5
        have s5 : Sub (new5 ++ (new3 ++ (new2 ++ (newm ++ (new0 ++ im))))) ((D5, listOf (List.toArray vs5) c5) :: (new5 ++ ((D3, bo3) :: (kp', ko3) :: (rp', ro3) :: (new3 ++ ((D2, bo2) :: (new2 ++ (newm ++ ((D0, listOf (List.toArray vs0) c0) :: (new0 ++ (its ++ ((en, eo) :: (new ++ BB)))))))))))) := by walk_at "M sub"
        have sR : Sub ((en, eo) :: ((new5 ++ (new3 ++ (new2 ++ (newm ++ (new0 ++ im))))) ++ (its ++ (new ++ BB)))) ((D5, listOf (List.toArray vs5) c5) :: (new5 ++ ((D3, bo3) :: (kp', ko3) :: (rp', ro3) :: (new3 ++ ((D2, bo2) :: (new2 ++ (newm ++ ((D0, listOf (List.toArray vs0) c0) :: (new0 ++ (its ++ ((en, eo) :: (new ++ BB)))))))))))) := by walk_at "M sub"
        have ien : Off en (new5 ++ (new3 ++ (new2 ++ (newm ++ (new0 ++ im))))) := Off.both (Off.of' ab5 (by k_mem)) (Off.both (Off.of' ab3.tl (by k_mem)) (Off.both (Off.of' ab2.tl (by k_mem)) (Off.both (Off.of' ab7.tl.tl (by k_mem)) (Off.both (Off.of' ab0 (by k_mem)) (fun p hp => oBB p (sBB p hp))))))
        have iap : Apart its (new5 ++ (new3 ++ (new2 ++ (newm ++ (new0 ++ im))))) := Apart.both (Apart.new ab5 (by walk_at "M sub")) (Apart.both (Apart.new ab3.tl (by walk_at "M sub")) (Apart.both (Apart.new ab2.tl (by walk_at "M sub")) (Apart.both (Apart.new ab7.tl.tl (by walk_at "M sub")) (Apart.both (Apart.new ab0 (by walk_at "M sub")) (Apart.less (fun p hp => List.Mem.tail _ (List.mem_append_right _ (sBB p hp))) ap)))))
        have oen : Off en its := Apart.off ap (List.Mem.head _)
        have m5 : (D5, listOf (List.toArray vs5) c5) ∈ ((D5, listOf (List.toArray vs5) c5) :: (new5 ++ ((D3, bo3) :: (kp', ko3) :: (rp', ro3) :: (new3 ++ ((D2, bo2) :: (new2 ++ (newm ++ ((D0, listOf (List.toArray vs0) c0) :: (new0 ++ (its ++ ((en, eo) :: (new ++ BB)))))))))))) := List.Mem.head _
        generalize hall : ((D5, listOf (List.toArray vs5) c5) :: (new5 ++ ((D3, bo3) :: (kp', ko3) :: (rp', ro3) :: (new3 ++ ((D2, bo2) :: (new2 ++ (newm ++ ((D0, listOf (List.toArray vs0) c0) :: (new0 ++ (its ++ ((en, eo) :: (new ++ BB)))))))))))) = all5 at *
        generalize him5 : new5 ++ (new3 ++ (new2 ++ (newm ++ (new0 ++ im)))) = im5 at *
        clear hall ab5 ab3 ab2 ab7 ab0 of5 of0 ok7 or7 ok7b ok9 or9 men oD2 oD3 lT K7 R7 K2 R2 K3 R3 db7 d17 d27
        refine comp_list (fun i ys n => all5 = n ∧ All2 (BodV im5) ys (rs5.take i)) room_top.h F14 N14 m5 LstO.of ?_ ?_ ⟨rfl, .nil⟩ ?_ ?_
        · obtain ⟨_, pq, _, qq⟩ := ar5
          rw [a5.length, qq.len, pq.length_eq]
          have := hI2.len
          simp only [names, List.length_map]; omega
        · rintro i ys n ⟨rfl, _⟩
          exact m5
        · rintro i v I oI C oC D m₂ h tk E' ys n hv hC hx F N apc ⟨rfl, a2⟩ zEQ zhE
          clear F14 N14
          obtain ⟨r, hri, k5, rfl, hp5, bp5, i1, i2, i3⟩ := a5.get' hv
          have r1 := s5 _ i1
          (repeat' (first | (k_unfold; (try dsimp only)) | ((with_reducible show wpAny _ _ (subscriptTail _ _ (Value.ref _) (Value.ref _)) _ _ _); with_reducible (k_here; (with_reducible show wpAny _ _ (subscriptTail _ (PySem.Expr.Slice none none (some _) _) (Value.ref _) (Value.ref _)) _ _ _); k_dflt (refine' pair_rev (by k_asm) (by k_asm) (by k_mem) ?_ (by with_unfolding_all rfl) (by intro _; with_unfolding_all rfl); k_whole); intro _ _ _ _ _; (try k_sweep))) | ((with_reducible show wpAny _ _ (newTuple _) _ _ _); with_reducible (k_here; k_dflt (refine' kup_newTuple (by k_asm) (by k_asm) ?_ (by exact Nat.le_of_ble_eq_true rfl)); intro _ _ _ _ _; (try k_sweep))) | ((with_reducible show wpAny _ _ (subscriptTail _ _ (Value.ref _) _) _ _ _); (first | with_reducible (k_here; (with_reducible show wpAny _ _ (subscriptTail _ _ (Value.ref _) (Value.int _ _)) _ _ _); k_dflt (refine' lst_tail (by k_asm) (by k_mem) (by assumption) (by omega) (by omega) (by assumption) ?_ (by with_unfolding_all rfl); k_whole)) | with_reducible (k_here; (with_reducible show wpAny _ _ (subscriptTail _ _ (Value.ref _) (Value.int _ _)) _ _ _); k_dflt (refine' lst_get (by k_asm) (by k_mem) (by assumption) (by first | omega | exact fmod_ge (by omega)) (by first | omega | exact Int.fmod_lt_of_pos _ (by omega)) (by omega) ?_ (by with_unfolding_all rfl); k_whole); intro _ _) | with_reducible (k_here; (with_reducible show wpAny _ _ (subscriptTail _ _ (Value.ref _) (Value.int _ _)) _ _ _); k_dflt (refine' lst_tail (by k_asm) (by k_mem) (by assumption) (by decide) (by decide) (by exact rfl) ?_ (by with_unfolding_all rfl); k_whole)))) | ((with_reducible show wpAny _ _ (assign (Expr.Tuple _ _ _) _ (Value.ref _)) _ _ _); with_reducible (k_here; (with_reducible show wpAny _ _ (assign (Expr.Tuple _ _ _) _ (Value.ref _)) _ _ _); k_dflt (refine' unpackN_ (by k_asm) (by k_asm) (by first | assumption | (refine News.isTup (by k_asm) (by k_mem))) (by (first | assumption | exact room_top | exact Room.h room_top | exact Room.u_lt room_top)) (by exact rfl) (by exact rfl) ?_); intro _ _ _; (try k_sweep))) | ((with_reducible show wpAny _ _ (unpackItems (Value.ref _) _ _) _ _ _); with_reducible (k_here; k_dflt (refine' unpackItemsN_ (by k_asm) (by k_asm) (by first | assumption | (refine News.isTup (by k_asm) (by k_mem))) (by (first | assumption | exact room_top | exact Room.h room_top | exact Room.u_lt room_top)) (by exact rfl) ?_; k_whole); intro _ _ _; (try k_sweep))) | ((with_reducible show wpAny _ _ (call (Value.builtin "len") _) _ _ _); with_reducible (k_here; (with_reducible show wpAny _ _ (call (Value.builtin "len") [Value.ref _]) _ _ _); k_dflt (refine' lst_len (by k_asm) (by k_mem) (by exact LstX.lst (by assumption)) (by omega) ?_; k_whole); intro _ _)) | ((with_reducible show wpAny _ _ (eval (Expr.Name _ _) _) _ _ _); (first | with_reducible (k_here; (with_reducible show wpAny _ _ (eval (Expr.Name _ _) (compEnvC _ _ _ _)) _ _ _); k_dflt (first | refine LCgL.ld_own (by k_asm) (by k_mem) (by assumption) (by assumption) ?_ | refine ld_cell (by k_asm) (by rfl) (by k_mem) (by assumption) ?_)) | with_reducible (k_here; k_dflt (apply nameX_L; (case F => k_asm); (case hk => rfl); (case hx => rfl); (case hv => walk_at "M look"); (case hd => decide); k_whole)))) | ((with_reducible show wpAny _ _ (getMethod (Value.ref _) _ _) _ _ _); with_reducible (k_here; (with_reducible show wpAny _ _ (getMethod (Value.ref _) (PySem.Str.ofString "append") _) _ _ _); k_dflt (refine' lst_method (by k_asm) (by k_mem) (by assumption) PySem.F.slot_list_append PySem.F.type_list_append ?_))) | ((with_reducible show wpAny _ _ (call (Value.builtin "list.append") _) _ _ _); with_reducible (k_here; k_dflt (apply lst_append; (case F => k_asm); (case N => k_asm); (case U => walk_at "M up"); (case ho => assumption); (case hz => omega); k_whole); intro _ _ _; intro zN; (try dsimp only at zN); revert zN; intro _; intro _; (try k_sweep))) | ((with_reducible show wpAny _ _ (exec (Stmt.For _ _ _ _ _) _) _ _ _); with_reducible (k_here; k_dflt (refine' for_go (by k_asm) ?_); k_whole)) | ((with_reducible show wpAny _ _ (exec (Stmt.For _ _ _ _ _) _) _ _ _); with_reducible (k_here; k_dflt (refine' for_go (by k_asm) ?_); k_whole)) | ((with_reducible show wpAny _ _ (call (Value.ref _) _) _ _ _); (first | with_reducible (k_here; (with_reducible show wpAny _ _ (call (Value.ref 211) _) _ _ _); k_dflt (refine' call_stop ?_); k_whole) | with_reducible (k_here; (with_reducible show wpAny _ _ (call (Value.ref 204) _) _ _ _); k_dflt (refine' call_stop ?_); k_whole) | with_reducible (k_here; (with_reducible show wpAny _ _ (call (Value.ref 225) _) _ _ _); k_dflt (refine' call_stop ?_); k_whole) | with_reducible (k_here; (with_reducible show wpAny _ _ (call (Value.ref 126) _) _ _ _); k_dflt (refine' call_stop ?_); k_whole) | with_reducible (k_here; (with_reducible show wpAny _ _ (call (Value.ref 218) _) _ _ _); k_dflt (refine' call_stop ?_); k_whole) | with_reducible (k_here; (with_reducible show wpAny _ _ (call (Value.ref 197) _) _ _ _); k_dflt (refine' call_stop ?_); k_whole) | with_reducible (k_here; k_dflt (apply draw_spec; (case hR => (first | assumption | exact room_top | exact Room.h room_top | exact Room.u_lt room_top)); (case F => k_asm); (case X => k_asm); (case N => k_asm); (case T => k_asm); (case U => walk_at "M up"); (case ho => assumption); (case hz => first | assumption | omega); (case hk => first | assumption | omega); (case hk1 => first | assumption | omega); (case hm0 => first | decide | omega); (case hm1 => first | decide | omega); (case hU => intro o9; k_mem); (case hlo => assumption); (case hi => assumption); k_whole); intro _ _ _ _ _ _ _ _ _; intro zN; (try dsimp only at zN); revert zN; intro _; intro _; (try k_sweep)) | with_reducible (k_here; k_dflt (refine' new_db (by (first | assumption | exact room_top | exact Room.h room_top | exact Room.u_lt room_top)) (by k_asm) (by k_asm) (by k_asm) (by k_asm) ?_; k_whole); intro _ _ _ _ _ _ _ _ _ _ _ _ _ _ _; (try k_sweep)))) | ((with_reducible show wpAny _ _ (eval (Expr.ListComp _ _ _ _) _) _ _ _); with_reducible (k_here; k_dflt (refine LCg.ListComp_U (F₀ := by k_asm) (by rfl) (by decide) (by rfl) (by decide) (by rfl) ?_))) | ((with_reducible show wpAny _ _ (compareOp CmpOp.Eq (Value.ref _) (Value.ref _)) _ _ _); with_reducible (k_here; k_dflt (refine' eq_stop ?_); k_whole)) | walk1 | (dsimp only; walk1) | (dsimp only; k_unfold; try dsimp only)))
          rename Fr _ _ _ _ => F15
          rename News _ _ _ _ => N15
          refine zhE _ _ ?_; refine Elt.intro all5 F15 N15 (by walk_at "M sub") apc ⟨rfl, by rw [take_snoc_at hri]; exact a2.snoc ⟨bp5, rfl, i3⟩⟩
        · rintro D6 h tk ys n ⟨rfl, a2⟩ F N off
          clear F14 N14
          rw [a5.length, List.take_length] at a2
          have nD6 : D6 ≠ en := fun q => off _ (sR _ (List.Mem.head _)) q.symm
          have oE : Off en ((D6, LCg.lst ys) :: (im5 ++ (its ++ (new ++ BB)))) := Off.cons' nD6 (Off.both ien (Off.both oen (Off.both oEn oBB)))
          have N16 : News s1.heap s1.heap.objs.size h ((en, eo) :: ((D6, LCg.lst ys) :: (im5 ++ (its ++ (new ++ BB))))) := News.sub N (fun p hp => by
            rcases List.mem_cons.mp hp with rfl | hp
            · exact List.Mem.tail _ (sR _ (List.Mem.head _))
            rcases List.mem_cons.mp hp with rfl | hp
            · exact List.Mem.head _
            · exact List.Mem.tail _ (sR _ (List.Mem.tail _ hp)))
          clear N
          try k_unfold
          try dsimp only
          (repeat' (first | (k_unfold; (try dsimp only)) | ((with_reducible show wpAny _ _ (subscriptTail _ _ (Value.ref _) (Value.ref _)) _ _ _); with_reducible (k_here; (with_reducible show wpAny _ _ (subscriptTail _ (PySem.Expr.Slice none none (some _) _) (Value.ref _) (Value.ref _)) _ _ _); k_dflt (refine' pair_rev (by k_asm) (by k_asm) (by k_mem) ?_ (by with_unfolding_all rfl) (by intro _; with_unfolding_all rfl); k_whole); intro _ _ _ _ _; (try k_sweep))) | ((with_reducible show wpAny _ _ (newTuple _) _ _ _); with_reducible (k_here; k_dflt (refine' kup_newTuple (by k_asm) (by k_asm) ?_ (by exact Nat.le_of_ble_eq_true rfl)); intro _ _ _ _ _; (try k_sweep))) | ((with_reducible show wpAny _ _ (subscriptTail _ _ (Value.ref _) _) _ _ _); (first | with_reducible (k_here; (with_reducible show wpAny _ _ (subscriptTail _ _ (Value.ref _) (Value.int _ _)) _ _ _); k_dflt (refine' lst_tail (by k_asm) (by k_mem) (by assumption) (by omega) (by omega) (by assumption) ?_ (by with_unfolding_all rfl); k_whole)) | with_reducible (k_here; (with_reducible show wpAny _ _ (subscriptTail _ _ (Value.ref _) (Value.int _ _)) _ _ _); k_dflt (refine' lst_get (by k_asm) (by k_mem) (by assumption) (by first | omega | exact fmod_ge (by omega)) (by first | omega | exact Int.fmod_lt_of_pos _ (by omega)) (by omega) ?_ (by with_unfolding_all rfl); k_whole); intro _ _) | with_reducible (k_here; (with_reducible show wpAny _ _ (subscriptTail _ _ (Value.ref _) (Value.int _ _)) _ _ _); k_dflt (refine' lst_tail (by k_asm) (by k_mem) (by assumption) (by decide) (by decide) (by exact rfl) ?_ (by with_unfolding_all rfl); k_whole)))) | ((with_reducible show wpAny _ _ (assign (Expr.Tuple _ _ _) _ (Value.ref _)) _ _ _); with_reducible (k_here; (with_reducible show wpAny _ _ (assign (Expr.Tuple _ _ _) _ (Value.ref _)) _ _ _); k_dflt (refine' unpackN_ (by k_asm) (by k_asm) (by first | assumption | (refine News.isTup (by k_asm) (by k_mem))) (by (first | assumption | exact room_top | exact Room.h room_top | exact Room.u_lt room_top)) (by exact rfl) (by exact rfl) ?_); intro _ _ _; (try k_sweep))) | ((with_reducible show wpAny _ _ (unpackItems (Value.ref _) _ _) _ _ _); with_reducible (k_here; k_dflt (refine' unpackItemsN_ (by k_asm) (by k_asm) (by first | assumption | (refine News.isTup (by k_asm) (by k_mem))) (by (first | assumption | exact room_top | exact Room.h room_top | exact Room.u_lt room_top)) (by exact rfl) ?_; k_whole); intro _ _ _; (try k_sweep))) | ((with_reducible show wpAny _ _ (call (Value.builtin "len") _) _ _ _); with_reducible (k_here; (with_reducible show wpAny _ _ (call (Value.builtin "len") [Value.ref _]) _ _ _); k_dflt (refine' lst_len (by k_asm) (by k_mem) (by exact LstX.lst (by assumption)) (by omega) ?_; k_whole); intro _ _)) | ((with_reducible show wpAny _ _ (eval (Expr.Name _ _) _) _ _ _); (first | with_reducible (k_here; (with_reducible show wpAny _ _ (eval (Expr.Name _ _) (compEnvC _ _ _ _)) _ _ _); k_dflt (first | refine LCgL.ld_own (by k_asm) (by k_mem) (by assumption) (by assumption) ?_ | refine ld_cell (by k_asm) (by rfl) (by k_mem) (by assumption) ?_)) | with_reducible (k_here; k_dflt (apply nameX_L; (case F => k_asm); (case hk => rfl); (case hx => rfl); (case hv => walk_at "M look"); (case hd => decide); k_whole)))) | ((with_reducible show wpAny _ _ (getMethod (Value.ref _) _ _) _ _ _); with_reducible (k_here; (with_reducible show wpAny _ _ (getMethod (Value.ref _) (PySem.Str.ofString "append") _) _ _ _); k_dflt (refine' lst_method (by k_asm) (by k_mem) (by assumption) PySem.F.slot_list_append PySem.F.type_list_append ?_))) | ((with_reducible show wpAny _ _ (call (Value.builtin "list.append") _) _ _ _); with_reducible (k_here; k_dflt (apply lst_append; (case F => k_asm); (case N => k_asm); (case U => walk_at "M up"); (case ho => assumption); (case hz => omega); k_whole); intro _ _ _; intro zN; (try dsimp only at zN); revert zN; intro _; intro _; (try k_sweep))) | ((with_reducible show wpAny _ _ (exec (Stmt.For _ _ _ _ _) _) _ _ _); with_reducible (k_here; k_dflt (refine' for_go (by k_asm) ?_); k_whole)) | ((with_reducible show wpAny _ _ (exec (Stmt.For _ _ _ _ _) _) _ _ _); with_reducible (k_here; k_dflt (refine' for_go (by k_asm) ?_); k_whole)) | ((with_reducible show wpAny _ _ (call (Value.ref _) _) _ _ _); (first | with_reducible (k_here; (with_reducible show wpAny _ _ (call (Value.ref 211) _) _ _ _); k_dflt (refine' call_stop ?_); k_whole) | with_reducible (k_here; (with_reducible show wpAny _ _ (call (Value.ref 204) _) _ _ _); k_dflt (refine' call_stop ?_); k_whole) | with_reducible (k_here; (with_reducible show wpAny _ _ (call (Value.ref 225) _) _ _ _); k_dflt (refine' call_stop ?_); k_whole) | with_reducible (k_here; (with_reducible show wpAny _ _ (call (Value.ref 126) _) _ _ _); k_dflt (refine' call_stop ?_); k_whole) | with_reducible (k_here; (with_reducible show wpAny _ _ (call (Value.ref 218) _) _ _ _); k_dflt (refine' call_stop ?_); k_whole) | with_reducible (k_here; (with_reducible show wpAny _ _ (call (Value.ref 197) _) _ _ _); k_dflt (refine' call_stop ?_); k_whole) | with_reducible (k_here; k_dflt (apply draw_spec; (case hR => (first | assumption | exact room_top | exact Room.h room_top | exact Room.u_lt room_top)); (case F => k_asm); (case X => k_asm); (case N => k_asm); (case T => k_asm); (case U => walk_at "M up"); (case ho => assumption); (case hz => first | assumption | omega); (case hk => first | assumption | omega); (case hk1 => first | assumption | omega); (case hm0 => first | decide | omega); (case hm1 => first | decide | omega); (case hU => intro o9; k_mem); (case hlo => assumption); (case hi => assumption); k_whole); intro _ _ _ _ _ _ _ _ _; intro zN; (try dsimp only at zN); revert zN; intro _; intro _; (try k_sweep)) | with_reducible (k_here; k_dflt (refine' new_db (by (first | assumption | exact room_top | exact Room.h room_top | exact Room.u_lt room_top)) (by k_asm) (by k_asm) (by k_asm) (by k_asm) ?_; k_whole); intro _ _ _ _ _ _ _ _ _ _ _ _ _ _ _; (try k_sweep)))) | ((with_reducible show wpAny _ _ (eval (Expr.ListComp _ _ _ _) _) _ _ _); with_reducible (k_here; k_dflt (refine LCg.ListComp_U (F₀ := by k_asm) (by rfl) (by decide) (by rfl) (by decide) (by rfl) ?_))) | ((with_reducible show wpAny _ _ (compareOp CmpOp.Eq (Value.ref _) (Value.ref _)) _ _ _); with_reducible (k_here; k_dflt (refine' eq_stop ?_); k_whole)) | walk1 | (dsimp only; walk1) | (dsimp only; k_unfold; try dsimp only)))
          rename Fr _ _ _ _ => F17
          rename News _ _ _ _ => N17
          refine nameL (show LstX _ (evs ++ _) by assumption) fun eo7 e9 => ?_
          subst e9
          rename LstX _ (evs ++ _) => leo7
          have apD : ∀ q ∈ its, D6 ≠ q.1 := fun q hq e => off q (sR q (by k_mem)) e.symm
          refine zhT _ _ ?_; refine Turned.next ((en, eo7) :: (((D6, LCg.lst ys) :: (im5 ++ new)) ++ BB)) F17 N17 (by walk_at "M sub") (by
            refine Apart.consm ap (List.Mem.head _) (fun p hp => ?_)
            rcases List.mem_cons.mp hp with rfl | hp
            · exact apD
            rcases List.mem_append.mp hp with hp | hp
            · rcases List.mem_append.mp hp with hp | hp
              · exact iap p hp
              · exact ap p (List.Mem.tail _ (List.mem_append_left _ hp))
            · exact ap p (List.Mem.tail _ (List.mem_append_right _ hp))) ?_
          refine ⟨eo7, evs ++ [.ref D6], (D6, LCg.lst ys) :: (im5 ++ new), rfl, Off.cons' nD6 (Off.both ien oEn), leo7, ?_, ?_, ?_, ?_⟩
          · rw [take_snoc_at hp]
            refine All2.snoc (aO.mono fun _ _ x => x.mono (by walk_at "M sub")) ⟨rs0, rs5, ar0, ?_, ?_, D6, rfl⟩
            · rw [hes1, hes2]; exact ar5
            · exact DatAt.lst (vs := ys.toArray) (List.Mem.head _) (by simpa using bods_dat (a2.mono fun _ _ x => x.mono (by walk_at "M sub")))
          all_goals (walk_at "M look")
      · rintro m2 n2 h2 tk2 ⟨eo, evs, new, rfl, oEn, leo, aO, q1, q2, q3⟩ F2 N2
        clear FO NB
        have aO' : All2 (fun v (p : List Row × List Row) => Out (new ++ BB) now a.es p.1 p.2 v) evs [(A1, A2), (A2, A1)] := aO
        clear aO
        cases aO' with
        | cons h1 t =>
          cases t with
          | cons h2 t2 =>
            cases t2
            obtain ⟨d1, d2, x1, x2, x3, x4, x5, x6⟩ := outs_same hda.iv hn8 g4 f4 h1 h2
            obtain ⟨_, _, _, _, _, D1, rfl⟩ := h1
            obtain ⟨_, _, _, _, _, D2, rfl⟩ := h2
            have leoO := leo.lst
            (repeat' (first | (k_unfold; (try dsimp only)) | ((with_reducible show wpAny _ _ (subscriptTail _ _ (Value.ref _) (Value.ref _)) _ _ _); with_reducible (k_here; (with_reducible show wpAny _ _ (subscriptTail _ (PySem.Expr.Slice none none (some _) _) (Value.ref _) (Value.ref _)) _ _ _); k_dflt (refine' pair_rev (by k_asm) (by k_asm) (by k_mem) ?_ (by with_unfolding_all rfl) (by intro _; with_unfolding_all rfl); k_whole); intro _ _ _ _ _; (try k_sweep))) | ((with_reducible show wpAny _ _ (newTuple _) _ _ _); with_reducible (k_here; k_dflt (refine' kup_newTuple (by k_asm) (by k_asm) ?_ (by exact Nat.le_of_ble_eq_true rfl)); intro _ _ _ _ _; (try k_sweep))) | ((with_reducible show wpAny _ _ (subscriptTail _ _ (Value.ref _) _) _ _ _); (first | with_reducible (k_here; (with_reducible show wpAny _ _ (subscriptTail _ _ (Value.ref _) (Value.int _ _)) _ _ _); k_dflt (refine' lst_tail (by k_asm) (by k_mem) (by assumption) (by omega) (by omega) (by assumption) ?_ (by with_unfolding_all rfl); k_whole)) | with_reducible (k_here; (with_reducible show wpAny _ _ (subscriptTail _ _ (Value.ref _) (Value.int _ _)) _ _ _); k_dflt (refine' lst_get (by k_asm) (by k_mem) (by assumption) (by first | omega | exact fmod_ge (by omega)) (by first | omega | exact Int.fmod_lt_of_pos _ (by omega)) (by omega) ?_ (by with_unfolding_all rfl); k_whole); intro _ _) | with_reducible (k_here; (with_reducible show wpAny _ _ (subscriptTail _ _ (Value.ref _) (Value.int _ _)) _ _ _); k_dflt (refine' lst_tail (by k_asm) (by k_mem) (by assumption) (by decide) (by decide) (by exact rfl) ?_ (by with_unfolding_all rfl); k_whole)))) | ((with_reducible show wpAny _ _ (assign (Expr.Tuple _ _ _) _ (Value.ref _)) _ _ _); with_reducible (k_here; (with_reducible show wpAny _ _ (assign (Expr.Tuple _ _ _) _ (Value.ref _)) _ _ _); k_dflt (refine' unpackN_ (by k_asm) (by k_asm) (by first | assumption | (refine News.isTup (by k_asm) (by k_mem))) (by (first | assumption | exact room_top | exact Room.h room_top | exact Room.u_lt room_top)) (by exact rfl) (by exact rfl) ?_); intro _ _ _; (try k_sweep))) | ((with_reducible show wpAny _ _ (unpackItems (Value.ref _) _ _) _ _ _); with_reducible (k_here; k_dflt (refine' unpackItemsN_ (by k_asm) (by k_asm) (by first | assumption | (refine News.isTup (by k_asm) (by k_mem))) (by (first | assumption | exact room_top | exact Room.h room_top | exact Room.u_lt room_top)) (by exact rfl) ?_; k_whole); intro _ _ _; (try k_sweep))) | ((with_reducible show wpAny _ _ (call (Value.builtin "len") _) _ _ _); with_reducible (k_here; (with_reducible show wpAny _ _ (call (Value.builtin "len") [Value.ref _]) _ _ _); k_dflt (refine' lst_len (by k_asm) (by k_mem) (by exact LstX.lst (by assumption)) (by omega) ?_; k_whole); intro _ _)) | ((with_reducible show wpAny _ _ (eval (Expr.Name _ _) _) _ _ _); (first | with_reducible (k_here; (with_reducible show wpAny _ _ (eval (Expr.Name _ _) (compEnvC _ _ _ _)) _ _ _); k_dflt (first | refine LCgL.ld_own (by k_asm) (by k_mem) (by assumption) (by assumption) ?_ | refine ld_cell (by k_asm) (by rfl) (by k_mem) (by assumption) ?_)) | with_reducible (k_here; k_dflt (apply nameX_L; (case F => k_asm); (case hk => rfl); (case hx => rfl); (case hv => walk_at "M look"); (case hd => decide); k_whole)))) | ((with_reducible show wpAny _ _ (getMethod (Value.ref _) _ _) _ _ _); with_reducible (k_here; (with_reducible show wpAny _ _ (getMethod (Value.ref _) (PySem.Str.ofString "append") _) _ _ _); k_dflt (refine' lst_method (by k_asm) (by k_mem) (by assumption) PySem.F.slot_list_append PySem.F.type_list_append ?_))) | ((with_reducible show wpAny _ _ (call (Value.builtin "list.append") _) _ _ _); with_reducible (k_here; k_dflt (apply lst_append; (case F => k_asm); (case N => k_asm); (case U => walk_at "M up"); (case ho => assumption); (case hz => omega); k_whole); intro _ _ _; intro zN; (try dsimp only at zN); revert zN; intro _; intro _; (try k_sweep))) | ((with_reducible show wpAny _ _ (exec (Stmt.For _ _ _ _ _) _) _ _ _); with_reducible (k_here; k_dflt (refine' for_go (by k_asm) ?_); k_whole)) | ((with_reducible show wpAny _ _ (exec (Stmt.For _ _ _ _ _) _) _ _ _); with_reducible (k_here; k_dflt (refine' for_go (by k_asm) ?_); k_whole)) | ((with_reducible show wpAny _ _ (call (Value.ref _) _) _ _ _); (first | with_reducible (k_here; (with_reducible show wpAny _ _ (call (Value.ref 211) _) _ _ _); k_dflt (refine' call_stop ?_); k_whole) | with_reducible (k_here; (with_reducible show wpAny _ _ (call (Value.ref 204) _) _ _ _); k_dflt (refine' call_stop ?_); k_whole) | with_reducible (k_here; (with_reducible show wpAny _ _ (call (Value.ref 225) _) _ _ _); k_dflt (refine' call_stop ?_); k_whole) | with_reducible (k_here; (with_reducible show wpAny _ _ (call (Value.ref 126) _) _ _ _); k_dflt (refine' call_stop ?_); k_whole) | with_reducible (k_here; (with_reducible show wpAny _ _ (call (Value.ref 218) _) _ _ _); k_dflt (refine' call_stop ?_); k_whole) | with_reducible (k_here; (with_reducible show wpAny _ _ (call (Value.ref 197) _) _ _ _); k_dflt (refine' call_stop ?_); k_whole) | with_reducible (k_here; k_dflt (apply draw_spec; (case hR => (first | assumption | exact room_top | exact Room.h room_top | exact Room.u_lt room_top)); (case F => k_asm); (case X => k_asm); (case N => k_asm); (case T => k_asm); (case U => walk_at "M up"); (case ho => assumption); (case hz => first | assumption | omega); (case hk => first | assumption | omega); (case hk1 => first | assumption | omega); (case hm0 => first | decide | omega); (case hm1 => first | decide | omega); (case hU => intro o9; k_mem); (case hlo => assumption); (case hi => assumption); k_whole); intro _ _ _ _ _ _ _ _ _; intro zN; (try dsimp only at zN); revert zN; intro _; intro _; (try k_sweep)) | with_reducible (k_here; k_dflt (refine' new_db (by (first | assumption | exact room_top | exact Room.h room_top | exact Room.u_lt room_top)) (by k_asm) (by k_asm) (by k_asm) (by k_asm) ?_; k_whole); intro _ _ _ _ _ _ _ _ _ _ _ _ _ _ _; (try k_sweep)))) | ((with_reducible show wpAny _ _ (eval (Expr.ListComp _ _ _ _) _) _ _ _); with_reducible (k_here; k_dflt (refine LCg.ListComp_U (F₀ := by k_asm) (by rfl) (by decide) (by rfl) (by decide) (by rfl) ?_))) | ((with_reducible show wpAny _ _ (compareOp CmpOp.Eq (Value.ref _) (Value.ref _)) _ _ _); with_reducible (k_here; k_dflt (refine' eq_stop ?_); k_whole)) | walk1 | (dsimp only; walk1) | (dsimp only; k_unfold; try dsimp only)))
            rename News _ _ _ _ => N5
            unfold EqAt
            refine eq_dat room_top N5 (x1.mono (by walk_at "M sub")) (x2.mono (by walk_at "M sub")) x3 x4 x5 x6 ?_
            (repeat' (first | (k_unfold; (try dsimp only)) | ((with_reducible show wpAny _ _ (subscriptTail _ _ (Value.ref _) (Value.ref _)) _ _ _); with_reducible (k_here; (with_reducible show wpAny _ _ (subscriptTail _ (PySem.Expr.Slice none none (some _) _) (Value.ref _) (Value.ref _)) _ _ _); k_dflt (refine' pair_rev (by k_asm) (by k_asm) (by k_mem) ?_ (by with_unfolding_all rfl) (by intro _; with_unfolding_all rfl); k_whole); intro _ _ _ _ _; (try k_sweep))) | ((with_reducible show wpAny _ _ (newTuple _) _ _ _); with_reducible (k_here; k_dflt (refine' kup_newTuple (by k_asm) (by k_asm) ?_ (by exact Nat.le_of_ble_eq_true rfl)); intro _ _ _ _ _; (try k_sweep))) | ((with_reducible show wpAny _ _ (subscriptTail _ _ (Value.ref _) _) _ _ _); (first | with_reducible (k_here; (with_reducible show wpAny _ _ (subscriptTail _ _ (Value.ref _) (Value.int _ _)) _ _ _); k_dflt (refine' lst_tail (by k_asm) (by k_mem) (by assumption) (by omega) (by omega) (by assumption) ?_ (by with_unfolding_all rfl); k_whole)) | with_reducible (k_here; (with_reducible show wpAny _ _ (subscriptTail _ _ (Value.ref _) (Value.int _ _)) _ _ _); k_dflt (refine' lst_get (by k_asm) (by k_mem) (by assumption) (by first | omega | exact fmod_ge (by omega)) (by first | omega | exact Int.fmod_lt_of_pos _ (by omega)) (by omega) ?_ (by with_unfolding_all rfl); k_whole); intro _ _) | with_reducible (k_here; (with_reducible show wpAny _ _ (subscriptTail _ _ (Value.ref _) (Value.int _ _)) _ _ _); k_dflt (refine' lst_tail (by k_asm) (by k_mem) (by assumption) (by decide) (by decide) (by exact rfl) ?_ (by with_unfolding_all rfl); k_whole)))) | ((with_reducible show wpAny _ _ (assign (Expr.Tuple _ _ _) _ (Value.ref _)) _ _ _); with_reducible (k_here; (with_reducible show wpAny _ _ (assign (Expr.Tuple _ _ _) _ (Value.ref _)) _ _ _); k_dflt (refine' unpackN_ (by k_asm) (by k_asm) (by first | assumption | (refine News.isTup (by k_asm) (by k_mem))) (by (first | assumption | exact room_top | exact Room.h room_top | exact Room.u_lt room_top)) (by exact rfl) (by exact rfl) ?_); intro _ _ _; (try k_sweep))) | ((with_reducible show wpAny _ _ (unpackItems (Value.ref _) _ _) _ _ _); with_reducible (k_here; k_dflt (refine' unpackItemsN_ (by k_asm) (by k_asm) (by first | assumption | (refine News.isTup (by k_asm) (by k_mem))) (by (first | assumption | exact room_top | exact Room.h room_top | exact Room.u_lt room_top)) (by exact rfl) ?_; k_whole); intro _ _ _; (try k_sweep))) | ((with_reducible show wpAny _ _ (call (Value.builtin "len") _) _ _ _); with_reducible (k_here; (with_reducible show wpAny _ _ (call (Value.builtin "len") [Value.ref _]) _ _ _); k_dflt (refine' lst_len (by k_asm) (by k_mem) (by exact LstX.lst (by assumption)) (by omega) ?_; k_whole); intro _ _)) | ((with_reducible show wpAny _ _ (eval (Expr.Name _ _) _) _ _ _); (first | with_reducible (k_here; (with_reducible show wpAny _ _ (eval (Expr.Name _ _) (compEnvC _ _ _ _)) _ _ _); k_dflt (first | refine LCgL.ld_own (by k_asm) (by k_mem) (by assumption) (by assumption) ?_ | refine ld_cell (by k_asm) (by rfl) (by k_mem) (by assumption) ?_)) | with_reducible (k_here; k_dflt (apply nameX_L; (case F => k_asm); (case hk => rfl); (case hx => rfl); (case hv => walk_at "M look"); (case hd => decide); k_whole)))) | ((with_reducible show wpAny _ _ (getMethod (Value.ref _) _ _) _ _ _); with_reducible (k_here; (with_reducible show wpAny _ _ (getMethod (Value.ref _) (PySem.Str.ofString "append") _) _ _ _); k_dflt (refine' lst_method (by k_asm) (by k_mem) (by assumption) PySem.F.slot_list_append PySem.F.type_list_append ?_))) | ((with_reducible show wpAny _ _ (call (Value.builtin "list.append") _) _ _ _); with_reducible (k_here; k_dflt (apply lst_append; (case F => k_asm); (case N => k_asm); (case U => walk_at "M up"); (case ho => assumption); (case hz => omega); k_whole); intro _ _ _; intro zN; (try dsimp only at zN); revert zN; intro _; intro _; (try k_sweep))) | ((with_reducible show wpAny _ _ (exec (Stmt.For _ _ _ _ _) _) _ _ _); with_reducible (k_here; k_dflt (refine' for_go (by k_asm) ?_); k_whole)) | ((with_reducible show wpAny _ _ (exec (Stmt.For _ _ _ _ _) _) _ _ _); with_reducible (k_here; k_dflt (refine' for_go (by k_asm) ?_); k_whole)) | ((with_reducible show wpAny _ _ (call (Value.ref _) _) _ _ _); (first | with_reducible (k_here; (with_reducible show wpAny _ _ (call (Value.ref 211) _) _ _ _); k_dflt (refine' call_stop ?_); k_whole) | with_reducible (k_here; (with_reducible show wpAny _ _ (call (Value.ref 204) _) _ _ _); k_dflt (refine' call_stop ?_); k_whole) | with_reducible (k_here; (with_reducible show wpAny _ _ (call (Value.ref 225) _) _ _ _); k_dflt (refine' call_stop ?_); k_whole) | with_reducible (k_here; (with_reducible show wpAny _ _ (call (Value.ref 126) _) _ _ _); k_dflt (refine' call_stop ?_); k_whole) | with_reducible (k_here; (with_reducible show wpAny _ _ (call (Value.ref 218) _) _ _ _); k_dflt (refine' call_stop ?_); k_whole) | with_reducible (k_here; (with_reducible show wpAny _ _ (call (Value.ref 197) _) _ _ _); k_dflt (refine' call_stop ?_); k_whole) | with_reducible (k_here; k_dflt (apply draw_spec; (case hR => (first | assumption | exact room_top | exact Room.h room_top | exact Room.u_lt room_top)); (case F => k_asm); (case X => k_asm); (case N => k_asm); (case T => k_asm); (case U => walk_at "M up"); (case ho => assumption); (case hz => first | assumption | omega); (case hk => first | assumption | omega); (case hk1 => first | assumption | omega); (case hm0 => first | decide | omega); (case hm1 => first | decide | omega); (case hU => intro o9; k_mem); (case hlo => assumption); (case hi => assumption); k_whole); intro _ _ _ _ _ _ _ _ _; intro zN; (try dsimp only at zN); revert zN; intro _; intro _; (try k_sweep)) | with_reducible (k_here; k_dflt (refine' new_db (by (first | assumption | exact room_top | exact Room.h room_top | exact Room.u_lt room_top)) (by k_asm) (by k_asm) (by k_asm) (by k_asm) ?_; k_whole); intro _ _ _ _ _ _ _ _ _ _ _ _ _ _ _; (try k_sweep)))) | ((with_reducible show wpAny _ _ (eval (Expr.ListComp _ _ _ _) _) _ _ _); with_reducible (k_here; k_dflt (refine LCg.ListComp_U (F₀ := by k_asm) (by rfl) (by decide) (by rfl) (by decide) (by rfl) ?_))) | ((with_reducible show wpAny _ _ (compareOp CmpOp.Eq (Value.ref _) (Value.ref _)) _ _ _); with_reducible (k_here; k_dflt (refine' eq_stop ?_); k_whole)) | walk1 | (dsimp only; walk1) | (dsimp only; k_unfold; try dsimp only)))
            (try dsimp only)
            kc_close
end Mine

theorem PySem.Challenge.cw_sz0113_01_holds : PySem.Challenge.rw_sz0113_01.Holds := by
  exact Mine.thelaw
