import PyProof.Rows.All
import Wide.All
import OpenK.AllK
import Wide.FinOn
import PySem.Challenge.RW_nz0562_01
open PySem PySem.W PyProof.Rows
set_option Elab.async false
set_option maxRecDepth 100000
set_option maxHeartbeats 8000000
set_option linter.unusedVariables false
namespace Mine
open PySem PySem.W PyProof.Rows PySem.Calls PySem.Builtin
/-! HM -/
section
/-- the def at this place of the text, made a function -/
noncomputable def fnO (i : Nat) (pm : Value) (cd : Addr) : Obj :=
  match PySem.Challenge.pw_nz0562_01.main.body[i]? with
  | some (.FunctionDef x ps b _ _ _ sc _ _ _) => { cls := .type "function", data := .func { name := x, qualname := x, params := ps, body := .stmts b, scope := sc, globals := 3, closure := [], defaults := .none, kwdefaults := .none, pyModule := pm, code := .ref cd } }
  | _ => { cls := .none, data := .dict #[] }

noncomputable def fo21 : Obj := by
  refine (fun (k : Obj) (_ : k = fnO 19 (.str (Str.ofString "z80.flags") 187) 20) => k) ?k ?h
  case h =>
    dsimp only [fnO, PySem.Challenge.pw_nz0562_01, List.getElem?_cons_succ, List.getElem?_cons_zero]
    exact rfl
noncomputable def fo28 : Obj := by
  refine (fun (k : Obj) (_ : k = fnO 20 (.str (Str.ofString "z80.flags") 187) 27) => k) ?k ?h
  case h =>
    dsimp only [fnO, PySem.Challenge.pw_nz0562_01, List.getElem?_cons_succ, List.getElem?_cons_zero]
    exact rfl
noncomputable def fo35 : Obj := by
  refine (fun (k : Obj) (_ : k = fnO 21 (.str (Str.ofString "z80.flags") 187) 34) => k) ?k ?h
  case h =>
    dsimp only [fnO, PySem.Challenge.pw_nz0562_01, List.getElem?_cons_succ, List.getElem?_cons_zero]
    exact rfl
noncomputable def fo42 : Obj := by
  refine (fun (k : Obj) (_ : k = fnO 22 (.str (Str.ofString "z80.flags") 187) 41) => k) ?k ?h
  case h =>
    dsimp only [fnO, PySem.Challenge.pw_nz0562_01, List.getElem?_cons_succ, List.getElem?_cons_zero]
    exact rfl
noncomputable def fo49 : Obj := by
  refine (fun (k : Obj) (_ : k = fnO 23 (.str (Str.ofString "z80.flags") 187) 48) => k) ?k ?h
  case h =>
    dsimp only [fnO, PySem.Challenge.pw_nz0562_01, List.getElem?_cons_succ, List.getElem?_cons_zero]
    exact rfl
noncomputable def fo56 : Obj := by
  refine (fun (k : Obj) (_ : k = fnO 24 (.str (Str.ofString "z80.flags") 187) 55) => k) ?k ?h
  case h =>
    dsimp only [fnO, PySem.Challenge.pw_nz0562_01, List.getElem?_cons_succ, List.getElem?_cons_zero]
    exact rfl
noncomputable def fo63 : Obj := by
  refine (fun (k : Obj) (_ : k = fnO 25 (.str (Str.ofString "z80.flags") 187) 62) => k) ?k ?h
  case h =>
    dsimp only [fnO, PySem.Challenge.pw_nz0562_01, List.getElem?_cons_succ, List.getElem?_cons_zero]
    exact rfl
noncomputable def fo70 : Obj := by
  refine (fun (k : Obj) (_ : k = fnO 26 (.str (Str.ofString "z80.flags") 187) 69) => k) ?k ?h
  case h =>
    dsimp only [fnO, PySem.Challenge.pw_nz0562_01, List.getElem?_cons_succ, List.getElem?_cons_zero]
    exact rfl
noncomputable def fo77 : Obj := by
  refine (fun (k : Obj) (_ : k = fnO 27 (.str (Str.ofString "z80.flags") 187) 76) => k) ?k ?h
  case h =>
    dsimp only [fnO, PySem.Challenge.pw_nz0562_01, List.getElem?_cons_succ, List.getElem?_cons_zero]
    exact rfl
noncomputable def fo84 : Obj := by
  refine (fun (k : Obj) (_ : k = fnO 28 (.str (Str.ofString "z80.flags") 187) 83) => k) ?k ?h
  case h =>
    dsimp only [fnO, PySem.Challenge.pw_nz0562_01, List.getElem?_cons_succ, List.getElem?_cons_zero]
    exact rfl
noncomputable def fo91 : Obj := by
  refine (fun (k : Obj) (_ : k = fnO 29 (.str (Str.ofString "z80.flags") 187) 90) => k) ?k ?h
  case h =>
    dsimp only [fnO, PySem.Challenge.pw_nz0562_01, List.getElem?_cons_succ, List.getElem?_cons_zero]
    exact rfl
noncomputable def fo98 : Obj := by
  refine (fun (k : Obj) (_ : k = fnO 30 (.str (Str.ofString "z80.flags") 187) 97) => k) ?k ?h
  case h =>
    dsimp only [fnO, PySem.Challenge.pw_nz0562_01, List.getElem?_cons_succ, List.getElem?_cons_zero]
    exact rfl
noncomputable def fo105 : Obj := by
  refine (fun (k : Obj) (_ : k = fnO 31 (.str (Str.ofString "z80.flags") 187) 104) => k) ?k ?h
  case h =>
    dsimp only [fnO, PySem.Challenge.pw_nz0562_01, List.getElem?_cons_succ, List.getElem?_cons_zero]
    exact rfl
noncomputable def fo112 : Obj := by
  refine (fun (k : Obj) (_ : k = fnO 32 (.str (Str.ofString "z80.flags") 187) 111) => k) ?k ?h
  case h =>
    dsimp only [fnO, PySem.Challenge.pw_nz0562_01, List.getElem?_cons_succ, List.getElem?_cons_zero]
    exact rfl
noncomputable def fo119 : Obj := by
  refine (fun (k : Obj) (_ : k = fnO 33 (.str (Str.ofString "z80.flags") 187) 118) => k) ?k ?h
  case h =>
    dsimp only [fnO, PySem.Challenge.pw_nz0562_01, List.getElem?_cons_succ, List.getElem?_cons_zero]
    exact rfl
noncomputable def fo126 : Obj := by
  refine (fun (k : Obj) (_ : k = fnO 34 (.str (Str.ofString "z80.flags") 187) 125) => k) ?k ?h
  case h =>
    dsimp only [fnO, PySem.Challenge.pw_nz0562_01, List.getElem?_cons_succ, List.getElem?_cons_zero]
    exact rfl
noncomputable def fo133 : Obj := by
  refine (fun (k : Obj) (_ : k = fnO 35 (.str (Str.ofString "z80.flags") 187) 132) => k) ?k ?h
  case h =>
    dsimp only [fnO, PySem.Challenge.pw_nz0562_01, List.getElem?_cons_succ, List.getElem?_cons_zero]
    exact rfl
noncomputable def fo140 : Obj := by
  refine (fun (k : Obj) (_ : k = fnO 36 (.str (Str.ofString "z80.flags") 187) 139) => k) ?k ?h
  case h =>
    dsimp only [fnO, PySem.Challenge.pw_nz0562_01, List.getElem?_cons_succ, List.getElem?_cons_zero]
    exact rfl
noncomputable def fo145 : Obj := by
  refine (fun (k : Obj) (_ : k = fnO 38 (.str (Str.ofString "law_nz0562_01") 406) 144) => k) ?k ?h
  case h =>
    dsimp only [fnO, PySem.Challenge.pw_nz0562_01, List.getElem?_cons_succ, List.getElem?_cons_zero]
    exact rfl
noncomputable def fo152 : Obj := by
  refine (fun (k : Obj) (_ : k = fnO 39 (.str (Str.ofString "law_nz0562_01") 406) 151) => k) ?k ?h
  case h =>
    dsimp only [fnO, PySem.Challenge.pw_nz0562_01, List.getElem?_cons_succ, List.getElem?_cons_zero]
    exact rfl
noncomputable def fo157 : Obj := by
  refine (fun (k : Obj) (_ : k = fnO 40 (.str (Str.ofString "law_nz0562_01") 406) 156) => k) ?k ?h
  case h =>
    dsimp only [fnO, PySem.Challenge.pw_nz0562_01, List.getElem?_cons_succ, List.getElem?_cons_zero]
    exact rfl
noncomputable def fo164 : Obj := by
  refine (fun (k : Obj) (_ : k = fnO 41 (.str (Str.ofString "law_nz0562_01") 406) 163) => k) ?k ?h
  case h =>
    dsimp only [fnO, PySem.Challenge.pw_nz0562_01, List.getElem?_cons_succ, List.getElem?_cons_zero]
    exact rfl
noncomputable def fo169 : Obj := by
  refine (fun (k : Obj) (_ : k = fnO 42 (.str (Str.ofString "law_nz0562_01") 406) 168) => k) ?k ?h
  case h =>
    dsimp only [fnO, PySem.Challenge.pw_nz0562_01, List.getElem?_cons_succ, List.getElem?_cons_zero]
    exact rfl
noncomputable def fo174 : Obj := by
  refine (fun (k : Obj) (_ : k = fnO 43 (.str (Str.ofString "law_nz0562_01") 406) 173) => k) ?k ?h
  case h =>
    dsimp only [fnO, PySem.Challenge.pw_nz0562_01, List.getElem?_cons_succ, List.getElem?_cons_zero]
    exact rfl
noncomputable def fo179 : Obj := by
  refine (fun (k : Obj) (_ : k = fnO 44 (.str (Str.ofString "law_nz0562_01") 406) 178) => k) ?k ?h
  case h =>
    dsimp only [fnO, PySem.Challenge.pw_nz0562_01, List.getElem?_cons_succ, List.getElem?_cons_zero]
    exact rfl
noncomputable def fo186 : Obj := by
  refine (fun (k : Obj) (_ : k = fnO 45 (.str (Str.ofString "law_nz0562_01") 406) 185) => k) ?k ?h
  case h =>
    dsimp only [fnO, PySem.Challenge.pw_nz0562_01, List.getElem?_cons_succ, List.getElem?_cons_zero]
    exact rfl
noncomputable def fo193 : Obj := by
  refine (fun (k : Obj) (_ : k = fnO 46 (.str (Str.ofString "law_nz0562_01") 406) 192) => k) ?k ?h
  case h =>
    dsimp only [fnO, PySem.Challenge.pw_nz0562_01, List.getElem?_cons_succ, List.getElem?_cons_zero]
    exact rfl
noncomputable def fo200 : Obj := by
  refine (fun (k : Obj) (_ : k = fnO 47 (.str (Str.ofString "law_nz0562_01") 406) 199) => k) ?k ?h
  case h =>
    dsimp only [fnO, PySem.Challenge.pw_nz0562_01, List.getElem?_cons_succ, List.getElem?_cons_zero]
    exact rfl
noncomputable def fo207 : Obj := by
  refine (fun (k : Obj) (_ : k = fnO 48 (.str (Str.ofString "law_nz0562_01") 406) 206) => k) ?k ?h
  case h =>
    dsimp only [fnO, PySem.Challenge.pw_nz0562_01, List.getElem?_cons_succ, List.getElem?_cons_zero]
    exact rfl
noncomputable def fo214 : Obj := by
  refine (fun (k : Obj) (_ : k = fnO 49 (.str (Str.ofString "law_nz0562_01") 406) 213) => k) ?k ?h
  case h =>
    dsimp only [fnO, PySem.Challenge.pw_nz0562_01, List.getElem?_cons_succ, List.getElem?_cons_zero]
    exact rfl
noncomputable def fo221 : Obj := by
  refine (fun (k : Obj) (_ : k = fnO 50 (.str (Str.ofString "law_nz0562_01") 406) 220) => k) ?k ?h
  case h =>
    dsimp only [fnO, PySem.Challenge.pw_nz0562_01, List.getElem?_cons_succ, List.getElem?_cons_zero]
    exact rfl
/-- what stands behind the top: the names and the defs -/
noncomputable def kv : Params → Frag := fun P =>
  (nat_lit 2, { cls := .none, data := .dict #[] }) ::
  (nat_lit 3, { cls := .type "dict", data := .dict #[{ hash := PyData.keyHash P (Str.ofString "__name__"), key := .str (Str.ofString "__name__") 165, val := .str (Str.ofString "law_nz0562_01") 406 }, { hash := PyData.keyHash P (Str.ofString "__doc__"), key := .str (Str.ofString "__doc__") 166, val := .none }, { hash := PyData.keyHash P (Str.ofString "__package__"), key := .str (Str.ofString "__package__") 167, val := .none }, { hash := PyData.keyHash P (Str.ofString "__loader__"), key := .str (Str.ofString "__loader__") 168, val := .builtin "__main__.__loader__#opaque" }, { hash := PyData.keyHash P (Str.ofString "__spec__"), key := .str (Str.ofString "__spec__") 169, val := .none }, { hash := PyData.keyHash P (Str.ofString "__annotations__"), key := .str (Str.ofString "__annotations__") 170, val := .ref 6 }, { hash := PyData.keyHash P (Str.ofString "__builtins__"), key := .str (Str.ofString "__builtins__") 171, val := .ref 4 }, { hash := PyData.keyHash P (Str.ofString "__file__"), key := .str (Str.ofString "__file__") 173, val := .str (Str.ofString "/claim/cut.py") 172 }, { hash := PyData.keyHash P (Str.ofString "__cached__"), key := .str (Str.ofString "__cached__") 174, val := .none }, { hash := PyData.keyHash P (Str.ofString "S"), key := .str (Str.ofString "S") 190, val := .int 128 189 }, { hash := PyData.keyHash P (Str.ofString "Z"), key := .str (Str.ofString "Z") 192, val := .int 64 191 }, { hash := PyData.keyHash P (Str.ofString "Y"), key := .str (Str.ofString "Y") 194, val := .int 32 193 }, { hash := PyData.keyHash P (Str.ofString "H"), key := .str (Str.ofString "H") 196, val := .int 16 195 }, { hash := PyData.keyHash P (Str.ofString "X"), key := .str (Str.ofString "X") 198, val := .int 8 197 }, { hash := PyData.keyHash P (Str.ofString "PV"), key := .str (Str.ofString "PV") 200, val := .int 4 199 }, { hash := PyData.keyHash P (Str.ofString "N"), key := .str (Str.ofString "N") 202, val := .int 2 201 }, { hash := PyData.keyHash P (Str.ofString "C"), key := .str (Str.ofString "C") 204, val := .int 1 203 }, { hash := PyData.keyHash P (Str.ofString "YX"), key := .str (Str.ofString "YX") 206, val := .int 40 205 }, { hash := PyData.keyHash P (Str.ofString "KEPT"), key := .str (Str.ofString "KEPT") 209, val := .int 196 208 }, { hash := PyData.keyHash P (Str.ofString "RLC"), key := .str (Str.ofString "RLC") 211, val := .int 0 210 }, { hash := PyData.keyHash P (Str.ofString "RRC"), key := .str (Str.ofString "RRC") 213, val := .int 1 212 }, { hash := PyData.keyHash P (Str.ofString "RL"), key := .str (Str.ofString "RL") 215, val := .int 2 214 }, { hash := PyData.keyHash P (Str.ofString "RR"), key := .str (Str.ofString "RR") 217, val := .int 3 216 }, { hash := PyData.keyHash P (Str.ofString "SLA"), key := .str (Str.ofString "SLA") 219, val := .int 4 218 }, { hash := PyData.keyHash P (Str.ofString "SRA"), key := .str (Str.ofString "SRA") 221, val := .int 5 220 }, { hash := PyData.keyHash P (Str.ofString "SLL"), key := .str (Str.ofString "SLL") 223, val := .int 6 222 }, { hash := PyData.keyHash P (Str.ofString "SRL"), key := .str (Str.ofString "SRL") 225, val := .int 7 224 }, { hash := PyData.keyHash P (Str.ofString "parity"), key := .str (Str.ofString "parity") 232, val := .ref 21 }, { hash := PyData.keyHash P (Str.ofString "szyx"), key := .str (Str.ofString "szyx") 239, val := .ref 28 }, { hash := PyData.keyHash P (Str.ofString "add8"), key := .str (Str.ofString "add8") 251, val := .ref 35 }, { hash := PyData.keyHash P (Str.ofString "sub8"), key := .str (Str.ofString "sub8") 263, val := .ref 42 }, { hash := PyData.keyHash P (Str.ofString "daa"), key := .str (Str.ofString "daa") 276, val := .ref 49 }, { hash := PyData.keyHash P (Str.ofString "cpl"), key := .str (Str.ofString "cpl") 285, val := .ref 56 }, { hash := PyData.keyHash P (Str.ofString "scf"), key := .str (Str.ofString "scf") 293, val := .ref 63 }, { hash := PyData.keyHash P (Str.ofString "ccf"), key := .str (Str.ofString "ccf") 301, val := .ref 70 }, { hash := PyData.keyHash P (Str.ofString "turned"), key := .str (Str.ofString "turned") 312, val := .ref 77 }, { hash := PyData.keyHash P (Str.ofString "rotate"), key := .str (Str.ofString "rotate") 323, val := .ref 84 }, { hash := PyData.keyHash P (Str.ofString "rotate_a"), key := .str (Str.ofString "rotate_a") 334, val := .ref 91 }, { hash := PyData.keyHash P (Str.ofString "test_bit"), key := .str (Str.ofString "test_bit") 344, val := .ref 98 }, { hash := PyData.keyHash P (Str.ofString "rrd"), key := .str (Str.ofString "rrd") 354, val := .ref 105 }, { hash := PyData.keyHash P (Str.ofString "rld"), key := .str (Str.ofString "rld") 364, val := .ref 112 }, { hash := PyData.keyHash P (Str.ofString "load_flags"), key := .str (Str.ofString "load_flags") 373, val := .ref 119 }, { hash := PyData.keyHash P (Str.ofString "in_flags"), key := .str (Str.ofString "in_flags") 381, val := .ref 126 }, { hash := PyData.keyHash P (Str.ofString "move_flags"), key := .str (Str.ofString "move_flags") 392, val := .ref 133 }, { hash := PyData.keyHash P (Str.ofString "seek_flags"), key := .str (Str.ofString "seek_flags") 405, val := .ref 140 }, { hash := PyData.keyHash P (Str.ofString "_law_deal"), key := .str (Str.ofString "_law_deal") 413, val := .ref 145 }, { hash := PyData.keyHash P (Str.ofString "_law_take"), key := .str (Str.ofString "_law_take") 421, val := .ref 152 }, { hash := PyData.keyHash P (Str.ofString "_law_row"), key := .str (Str.ofString "_law_row") 427, val := .ref 157 }, { hash := PyData.keyHash P (Str.ofString "_law_decimal_right"), key := .str (Str.ofString "_law_decimal_right") 445, val := .ref 164 }, { hash := PyData.keyHash P (Str.ofString "_law_bits"), key := .str (Str.ofString "_law_bits") 451, val := .ref 169 }, { hash := PyData.keyHash P (Str.ofString "_law_octet"), key := .str (Str.ofString "_law_octet") 457, val := .ref 174 }, { hash := PyData.keyHash P (Str.ofString "_law_told"), key := .str (Str.ofString "_law_told") 463, val := .ref 179 }, { hash := PyData.keyHash P (Str.ofString "_law_turned"), key := .str (Str.ofString "_law_turned") 475, val := .ref 186 }, { hash := PyData.keyHash P (Str.ofString "_law_turns_right"), key := .str (Str.ofString "_law_turns_right") 488, val := .ref 193 }, { hash := PyData.keyHash P (Str.ofString "_law_halves_right"), key := .str (Str.ofString "_law_halves_right") 503, val := .ref 200 }, { hash := PyData.keyHash P (Str.ofString "_law_carries_right"), key := .str (Str.ofString "_law_carries_right") 514, val := .ref 207 }, { hash := PyData.keyHash P (Str.ofString "_law_blocks_right"), key := .str (Str.ofString "_law_blocks_right") 529, val := .ref 214 }, { hash := PyData.keyHash P (Str.ofString "law"), key := .str (Str.ofString "law") 542, val := .ref 221 }] 58 }) ::
  (nat_lit 20, { cls := .type "code", data := .fields #[.str (Str.ofString "parity") 226, .str (Str.ofString "parity") 227, .str (Str.ofString "/claim/cut.py") 228, .int 20 0, .int 1 0, .int 0 0, .int 0 0, .int 3 0, .ref 15, .bool true, .int 181 0, .ref 16, .none, .ref 17, .ref 18, .ref 19, .int 230 0, .int 20 0, .str (Str.ofString "/claim/cut.py") 231] }) ::
  (nat_lit 21, fo21) ::
  (nat_lit 27, { cls := .type "code", data := .fields #[.str (Str.ofString "szyx") 233, .str (Str.ofString "szyx") 234, .str (Str.ofString "/claim/cut.py") 235, .int 25 0, .int 1 0, .int 0 0, .int 0 0, .int 3 0, .ref 22, .bool true, .int 181 0, .ref 23, .none, .ref 24, .ref 25, .ref 26, .int 237 0, .int 25 0, .str (Str.ofString "/claim/cut.py") 238] }) ::
  (nat_lit 28, fo28) ::
  (nat_lit 34, { cls := .type "code", data := .fields #[.str (Str.ofString "add8") 240, .str (Str.ofString "add8") 241, .str (Str.ofString "/claim/cut.py") 242, .int 27 0, .int 3 0, .int 0 0, .int 0 0, .int 3 0, .ref 29, .bool true, .int 181 0, .ref 30, .none, .ref 31, .ref 32, .ref 33, .int 249 0, .int 27 0, .str (Str.ofString "/claim/cut.py") 250] }) ::
  (nat_lit 35, fo35) ::
  (nat_lit 41, { cls := .type "code", data := .fields #[.str (Str.ofString "sub8") 252, .str (Str.ofString "sub8") 253, .str (Str.ofString "/claim/cut.py") 254, .int 32 0, .int 3 0, .int 0 0, .int 0 0, .int 3 0, .ref 36, .bool true, .int 181 0, .ref 37, .none, .ref 38, .ref 39, .ref 40, .int 261 0, .int 32 0, .str (Str.ofString "/claim/cut.py") 262] }) ::
  (nat_lit 42, fo42) ::
  (nat_lit 48, { cls := .type "code", data := .fields #[.str (Str.ofString "daa") 264, .str (Str.ofString "daa") 265, .str (Str.ofString "/claim/cut.py") 266, .int 37 0, .int 2 0, .int 0 0, .int 0 0, .int 3 0, .ref 43, .bool true, .int 181 0, .ref 44, .none, .ref 45, .ref 46, .ref 47, .int 274 0, .int 37 0, .str (Str.ofString "/claim/cut.py") 275] }) ::
  (nat_lit 49, fo49) ::
  (nat_lit 55, { cls := .type "code", data := .fields #[.str (Str.ofString "cpl") 277, .str (Str.ofString "cpl") 278, .str (Str.ofString "/claim/cut.py") 279, .int 48 0, .int 2 0, .int 0 0, .int 0 0, .int 3 0, .ref 50, .bool true, .int 181 0, .ref 51, .none, .ref 52, .ref 53, .ref 54, .int 283 0, .int 48 0, .str (Str.ofString "/claim/cut.py") 284] }) ::
  (nat_lit 56, fo56) ::
  (nat_lit 62, { cls := .type "code", data := .fields #[.str (Str.ofString "scf") 286, .str (Str.ofString "scf") 287, .str (Str.ofString "/claim/cut.py") 288, .int 51 0, .int 2 0, .int 0 0, .int 0 0, .int 3 0, .ref 57, .bool true, .int 181 0, .ref 58, .none, .ref 59, .ref 60, .ref 61, .int 291 0, .int 51 0, .str (Str.ofString "/claim/cut.py") 292] }) ::
  (nat_lit 63, fo63) ::
  (nat_lit 69, { cls := .type "code", data := .fields #[.str (Str.ofString "ccf") 294, .str (Str.ofString "ccf") 295, .str (Str.ofString "/claim/cut.py") 296, .int 53 0, .int 2 0, .int 0 0, .int 0 0, .int 3 0, .ref 64, .bool true, .int 181 0, .ref 65, .none, .ref 66, .ref 67, .ref 68, .int 299 0, .int 53 0, .str (Str.ofString "/claim/cut.py") 300] }) ::
  (nat_lit 70, fo70) ::
  (nat_lit 76, { cls := .type "code", data := .fields #[.str (Str.ofString "turned") 302, .str (Str.ofString "turned") 303, .str (Str.ofString "/claim/cut.py") 304, .int 55 0, .int 3 0, .int 0 0, .int 0 0, .int 3 0, .ref 71, .bool true, .int 181 0, .ref 72, .none, .ref 73, .ref 74, .ref 75, .int 310 0, .int 55 0, .str (Str.ofString "/claim/cut.py") 311] }) ::
  (nat_lit 77, fo77) ::
  (nat_lit 83, { cls := .type "code", data := .fields #[.str (Str.ofString "rotate") 313, .str (Str.ofString "rotate") 314, .str (Str.ofString "/claim/cut.py") 315, .int 63 0, .int 3 0, .int 0 0, .int 0 0, .int 3 0, .ref 78, .bool true, .int 181 0, .ref 79, .none, .ref 80, .ref 81, .ref 82, .int 321 0, .int 63 0, .str (Str.ofString "/claim/cut.py") 322] }) ::
  (nat_lit 84, fo84) ::
  (nat_lit 90, { cls := .type "code", data := .fields #[.str (Str.ofString "rotate_a") 324, .str (Str.ofString "rotate_a") 325, .str (Str.ofString "/claim/cut.py") 326, .int 66 0, .int 3 0, .int 0 0, .int 0 0, .int 3 0, .ref 85, .bool true, .int 181 0, .ref 86, .none, .ref 87, .ref 88, .ref 89, .int 332 0, .int 66 0, .str (Str.ofString "/claim/cut.py") 333] }) ::
  (nat_lit 91, fo91) ::
  (nat_lit 97, { cls := .type "code", data := .fields #[.str (Str.ofString "test_bit") 335, .str (Str.ofString "test_bit") 336, .str (Str.ofString "/claim/cut.py") 337, .int 69 0, .int 3 0, .int 0 0, .int 0 0, .int 3 0, .ref 92, .bool true, .int 181 0, .ref 93, .none, .ref 94, .ref 95, .ref 96, .int 342 0, .int 69 0, .str (Str.ofString "/claim/cut.py") 343] }) ::
  (nat_lit 98, fo98) ::
  (nat_lit 104, { cls := .type "code", data := .fields #[.str (Str.ofString "rrd") 345, .str (Str.ofString "rrd") 346, .str (Str.ofString "/claim/cut.py") 347, .int 72 0, .int 3 0, .int 0 0, .int 0 0, .int 3 0, .ref 99, .bool true, .int 181 0, .ref 100, .none, .ref 101, .ref 102, .ref 103, .int 352 0, .int 72 0, .str (Str.ofString "/claim/cut.py") 353] }) ::
  (nat_lit 105, fo105) ::
  (nat_lit 111, { cls := .type "code", data := .fields #[.str (Str.ofString "rld") 355, .str (Str.ofString "rld") 356, .str (Str.ofString "/claim/cut.py") 357, .int 75 0, .int 3 0, .int 0 0, .int 0 0, .int 3 0, .ref 106, .bool true, .int 181 0, .ref 107, .none, .ref 108, .ref 109, .ref 110, .int 362 0, .int 75 0, .str (Str.ofString "/claim/cut.py") 363] }) ::
  (nat_lit 112, fo112) ::
  (nat_lit 118, { cls := .type "code", data := .fields #[.str (Str.ofString "load_flags") 365, .str (Str.ofString "load_flags") 366, .str (Str.ofString "/claim/cut.py") 367, .int 78 0, .int 3 0, .int 0 0, .int 0 0, .int 3 0, .ref 113, .bool true, .int 181 0, .ref 114, .none, .ref 115, .ref 116, .ref 117, .int 371 0, .int 78 0, .str (Str.ofString "/claim/cut.py") 372] }) ::
  (nat_lit 119, fo119) ::
  (nat_lit 125, { cls := .type "code", data := .fields #[.str (Str.ofString "in_flags") 374, .str (Str.ofString "in_flags") 375, .str (Str.ofString "/claim/cut.py") 376, .int 80 0, .int 2 0, .int 0 0, .int 0 0, .int 3 0, .ref 120, .bool true, .int 181 0, .ref 121, .none, .ref 122, .ref 123, .ref 124, .int 379 0, .int 80 0, .str (Str.ofString "/claim/cut.py") 380] }) ::
  (nat_lit 126, fo126) ::
  (nat_lit 132, { cls := .type "code", data := .fields #[.str (Str.ofString "move_flags") 382, .str (Str.ofString "move_flags") 383, .str (Str.ofString "/claim/cut.py") 384, .int 82 0, .int 4 0, .int 0 0, .int 0 0, .int 3 0, .ref 127, .bool true, .int 181 0, .ref 128, .none, .ref 129, .ref 130, .ref 131, .int 390 0, .int 82 0, .str (Str.ofString "/claim/cut.py") 391] }) ::
  (nat_lit 133, fo133) ::
  (nat_lit 139, { cls := .type "code", data := .fields #[.str (Str.ofString "seek_flags") 393, .str (Str.ofString "seek_flags") 394, .str (Str.ofString "/claim/cut.py") 395, .int 85 0, .int 4 0, .int 0 0, .int 0 0, .int 3 0, .ref 134, .bool true, .int 181 0, .ref 135, .none, .ref 136, .ref 137, .ref 138, .int 403 0, .int 85 0, .str (Str.ofString "/claim/cut.py") 404] }) ::
  (nat_lit 140, fo140) ::
  (nat_lit 144, { cls := .type "code", data := .fields #[.str (Str.ofString "_law_deal") 408, .str (Str.ofString "_law_deal") 409, .str (Str.ofString "/claim/cut.py") 410, .int 90 0, .int 1 0, .int 0 0, .int 0 0, .int 3 0, .ref 141, .bool true, .int 181 0, .ref 142, .none, .none, .none, .ref 143, .int 411 0, .int 90 0, .str (Str.ofString "/claim/cut.py") 412] }) ::
  (nat_lit 145, fo145) ::
  (nat_lit 151, { cls := .type "code", data := .fields #[.str (Str.ofString "_law_take") 414, .str (Str.ofString "_law_take") 415, .str (Str.ofString "/claim/cut.py") 416, .int 96 0, .int 2 0, .int 0 0, .int 0 0, .int 3 0, .ref 146, .bool true, .int 181 0, .ref 147, .none, .ref 148, .ref 149, .ref 150, .int 419 0, .int 96 0, .str (Str.ofString "/claim/cut.py") 420] }) ::
  (nat_lit 152, fo152) ::
  (nat_lit 156, { cls := .type "code", data := .fields #[.str (Str.ofString "_law_row") 422, .str (Str.ofString "_law_row") 423, .str (Str.ofString "/claim/cut.py") 424, .int 102 0, .int 2 0, .int 0 0, .int 0 0, .int 3 0, .ref 153, .bool true, .int 181 0, .ref 154, .none, .none, .none, .ref 155, .int 425 0, .int 102 0, .str (Str.ofString "/claim/cut.py") 426] }) ::
  (nat_lit 157, fo157) ::
  (nat_lit 163, { cls := .type "code", data := .fields #[.str (Str.ofString "_law_decimal_right") 428, .str (Str.ofString "_law_decimal_right") 429, .str (Str.ofString "/claim/cut.py") 430, .int 104 0, .int 1 0, .int 0 0, .int 0 0, .int 3 0, .ref 158, .bool true, .int 181 0, .ref 159, .none, .ref 160, .ref 161, .ref 162, .int 443 0, .int 104 0, .str (Str.ofString "/claim/cut.py") 444] }) ::
  (nat_lit 164, fo164) ::
  (nat_lit 168, { cls := .type "code", data := .fields #[.str (Str.ofString "_law_bits") 446, .str (Str.ofString "_law_bits") 447, .str (Str.ofString "/claim/cut.py") 448, .int 117 0, .int 1 0, .int 0 0, .int 0 0, .int 3 0, .ref 165, .bool true, .int 181 0, .ref 166, .none, .none, .none, .ref 167, .int 449 0, .int 117 0, .str (Str.ofString "/claim/cut.py") 450] }) ::
  (nat_lit 169, fo169) ::
  (nat_lit 173, { cls := .type "code", data := .fields #[.str (Str.ofString "_law_octet") 452, .str (Str.ofString "_law_octet") 453, .str (Str.ofString "/claim/cut.py") 454, .int 119 0, .int 1 0, .int 0 0, .int 0 0, .int 3 0, .ref 170, .bool true, .int 181 0, .ref 171, .none, .none, .none, .ref 172, .int 455 0, .int 119 0, .str (Str.ofString "/claim/cut.py") 456] }) ::
  (nat_lit 174, fo174) ::
  (nat_lit 178, { cls := .type "code", data := .fields #[.str (Str.ofString "_law_told") 458, .str (Str.ofString "_law_told") 459, .str (Str.ofString "/claim/cut.py") 460, .int 121 0, .int 3 0, .int 0 0, .int 0 0, .int 3 0, .ref 175, .bool true, .int 181 0, .ref 176, .none, .none, .none, .ref 177, .int 461 0, .int 121 0, .str (Str.ofString "/claim/cut.py") 462] }) ::
  (nat_lit 179, fo179) ::
  (nat_lit 185, { cls := .type "code", data := .fields #[.str (Str.ofString "_law_turned") 464, .str (Str.ofString "_law_turned") 465, .str (Str.ofString "/claim/cut.py") 466, .int 126 0, .int 3 0, .int 0 0, .int 0 0, .int 3 0, .ref 180, .bool true, .int 181 0, .ref 181, .none, .ref 182, .ref 183, .ref 184, .int 473 0, .int 126 0, .str (Str.ofString "/claim/cut.py") 474] }) ::
  (nat_lit 186, fo186) ::
  (nat_lit 192, { cls := .type "code", data := .fields #[.str (Str.ofString "_law_turns_right") 476, .str (Str.ofString "_law_turns_right") 477, .str (Str.ofString "/claim/cut.py") 478, .int 133 0, .int 2 0, .int 0 0, .int 0 0, .int 3 0, .ref 187, .bool true, .int 181 0, .ref 188, .none, .ref 189, .ref 190, .ref 191, .int 486 0, .int 133 0, .str (Str.ofString "/claim/cut.py") 487] }) ::
  (nat_lit 193, fo193) ::
  (nat_lit 199, { cls := .type "code", data := .fields #[.str (Str.ofString "_law_halves_right") 489, .str (Str.ofString "_law_halves_right") 490, .str (Str.ofString "/claim/cut.py") 491, .int 145 0, .int 3 0, .int 0 0, .int 0 0, .int 3 0, .ref 194, .bool true, .int 181 0, .ref 195, .none, .ref 196, .ref 197, .ref 198, .int 501 0, .int 145 0, .str (Str.ofString "/claim/cut.py") 502] }) ::
  (nat_lit 200, fo200) ::
  (nat_lit 206, { cls := .type "code", data := .fields #[.str (Str.ofString "_law_carries_right") 504, .str (Str.ofString "_law_carries_right") 505, .str (Str.ofString "/claim/cut.py") 506, .int 151 0, .int 2 0, .int 0 0, .int 0 0, .int 3 0, .ref 201, .bool true, .int 181 0, .ref 202, .none, .ref 203, .ref 204, .ref 205, .int 512 0, .int 151 0, .str (Str.ofString "/claim/cut.py") 513] }) ::
  (nat_lit 207, fo207) ::
  (nat_lit 213, { cls := .type "code", data := .fields #[.str (Str.ofString "_law_blocks_right") 515, .str (Str.ofString "_law_blocks_right") 516, .str (Str.ofString "/claim/cut.py") 517, .int 157 0, .int 4 0, .int 0 0, .int 0 0, .int 3 0, .ref 208, .bool true, .int 181 0, .ref 209, .none, .ref 210, .ref 211, .ref 212, .int 527 0, .int 157 0, .str (Str.ofString "/claim/cut.py") 528] }) ::
  (nat_lit 214, fo214) ::
  (nat_lit 220, { cls := .type "code", data := .fields #[.str (Str.ofString "law") 530, .str (Str.ofString "law") 531, .str (Str.ofString "/claim/cut.py") 532, .int 169 0, .int 1 0, .int 0 0, .int 0 0, .int 3 0, .ref 215, .bool true, .int 181 0, .ref 216, .none, .ref 217, .ref 218, .ref 219, .int 540 0, .int 169 0, .str (Str.ofString "/claim/cut.py") 541] }) ::
  (nat_lit 221, fo221) :: []
def kas : List Addr := [nat_lit 2, nat_lit 3, nat_lit 20, nat_lit 21, nat_lit 27, nat_lit 28, nat_lit 34, nat_lit 35, nat_lit 41, nat_lit 42, nat_lit 48, nat_lit 49, nat_lit 55, nat_lit 56, nat_lit 62, nat_lit 63, nat_lit 69, nat_lit 70, nat_lit 76, nat_lit 77, nat_lit 83, nat_lit 84, nat_lit 90, nat_lit 91, nat_lit 97, nat_lit 98, nat_lit 104, nat_lit 105, nat_lit 111, nat_lit 112, nat_lit 118, nat_lit 119, nat_lit 125, nat_lit 126, nat_lit 132, nat_lit 133, nat_lit 139, nat_lit 140, nat_lit 144, nat_lit 145, nat_lit 151, nat_lit 152, nat_lit 156, nat_lit 157, nat_lit 163, nat_lit 164, nat_lit 168, nat_lit 169, nat_lit 173, nat_lit 174, nat_lit 178, nat_lit 179, nat_lit 185, nat_lit 186, nat_lit 192, nat_lit 193, nat_lit 199, nat_lit 200, nat_lit 206, nat_lit 207, nat_lit 213, nat_lit 214, nat_lit 220, nat_lit 221]
noncomputable def qv : Program := view PySem.Challenge.rw_nz0562_01.row.toRowW.prog [1, 2, 3, 4, 5, 6, 7, 8, 9, 10, 11, 12, 13, 14, 15, 16, 17, 18, 19, 20, 21, 22, 23, 24, 25, 26, 27, 28, 29, 30, 31, 32, 33, 34, 35, 36, 38, 39, 40, 41, 42, 43, 44, 45, 46, 47, 48, 49, 50]
noncomputable abbrev rv : RowW := PySem.Challenge.rw_nz0562_01.row.toRowW
noncomputable abbrev lv : List (Str × WData) := [(Str.ofString "KEPT", .int 196)]
theorem kv_as : ∀ P, kas = (kv P).map (·.1) := fun _ => by kernel_rfl
noncomputable abbrev hv : Hook := kHook kv kas kv_as
theorem left_v : LeftO rv.prog qv [Str.ofString "KEPT"] (fun s => xlAt qv lv s && recOk (RowW.records rv) s) (Hook.obs hv) (Hook.val hv) 2490 true := by
  unfold LeftO
  intro w
  kernel_rfl
theorem hdm (d : DefRec) (kwd : List (Str × PySem.Expr)) (hdef : defOf qv PySem.Challenge.rw_nz0562_01.row.name = some (d, kwd)) (hp : PySem.Challenge.rw_nz0562_01.row.prog.theDef PySem.Challenge.rw_nz0562_01.row.name = some (d.params, d.body, d.scope)) (hk : kwWritten? d.params.kwonlyargs d.params.kw_defaults = some kwd)
    (call : WalkO qv [Str.ofString "KEPT"] (XL qv lv) (Hook.says hv) rv d kwd fun f vs => PySem.call f vs) : PySem.Challenge.rw_nz0562_01.Holds := by
  w_on
  refine holds_law (by kernel_rfl) fun said => ?_
  refine holds_open (q := qv) (loose := [Str.ofString "KEPT"]) (Xt := fun s => xlAt qv lv s && recOk (RowW.records rv) s) (XP := XL qv lv) (Yf := Hook.obs hv) (Ya := Hook.val hv) (YP := Hook.says hv) (N := 2490) left_v (Hook.of hv) (Hook.keeps hv) (fun s e => xl_of s (Bool.and_eq_true_iff.mp e).1) XL.keeps hdef hp hk (fun s e => recFacts_of (Bool.and_eq_true_iff.mp e).2) (by first | rfl | fail "open_line: no head takes a call that writes beside a table") (by first | assumption | decide +kernel) (by decide +kernel) ⟨rfl, rfl, rfl, rfl, rfl, by decide +kernel⟩ ?hw call
  case hw => w_witness2
end
/-! PD -/
section
def bitI (v : Int) (k : Nat) : Int := (v.fdiv (2 ^ k)).fmod 2
def parityI (v : Int) : Int :=
  let a := bitXor v (v.fdiv (2 ^ Int.toNat 4))
  let b := bitXor a (a.fdiv (2 ^ Int.toNat 2))
  let c := bitXor b (b.fdiv (2 ^ Int.toNat 1))
  if bitAnd c 1 = 0 then 4 else 0
def szyxI (v : Int) : Int := bitOr (bitAnd v (bitOr 128 40)) (if v = 0 then 64 else 0)
def addR (a b c : Int) : Int := bitAnd (a + b + c) 255
def addF (a b c : Int) : Int :=
  bitOr (bitOr (bitOr (szyxI (addR a b c)) (bitAnd (bitXor (bitXor a b) (addR a b c)) 16)) (if bitAnd (bitAnd (bitXor a (addR a b c)) (bitXor b (addR a b c))) 128 = 0 then 0 else 4)) ((a + b + c).fdiv (2 ^ Int.toNat 8))
def subR (a b c : Int) : Int := bitAnd (a - b - c) 255
def subF (a b c : Int) : Int :=
  bitOr (bitOr (bitOr (bitOr (szyxI (subR a b c)) (bitAnd (bitXor (bitXor a b) (subR a b c)) 16)) (if bitAnd (bitAnd (bitXor a b) (bitXor a (subR a b c))) 128 = 0 then 0 else 4)) 2) (if a - b - c < 0 then 1 else 0)
def daaWay (a f : Int) : Int :=
  if bitAnd f 16 = 0 then (if bitAnd a 15 > 9 then (if bitAnd f 1 = 0 then (if a > 153 then 6 + 96 else 6) else 6 + 96) else (if bitAnd f 1 = 0 then (if a > 153 then 0 + 96 else 0) else 0 + 96))
  else (if bitAnd f 1 = 0 then (if a > 153 then 6 + 96 else 6) else 6 + 96)
def daaR (a f : Int) : Int := if bitAnd f 2 = 0 then bitAnd (a + daaWay a f) 255 else bitAnd (a - daaWay a f) 255
def daaF (a f : Int) : Int :=
  bitOr (bitOr (bitOr (bitOr (szyxI (daaR a f)) (parityI (daaR a f))) (if bitAnd f 2 = 0 then (if bitAnd a 15 > 9 then 16 else 0) else (if bitAnd f 16 = 0 then 0 else (if bitAnd a 15 < 6 then 16 else 0)))) (bitAnd f 2)) (if bitAnd f 1 = 0 then (if a > 153 then 1 else bitAnd f 1) else 1)
def turnCome (k v f : Int) : Int := if k = 0 then v.fdiv (2 ^ Int.toNat 7) else if k = 1 then bitAnd v 1 else if k = 2 then bitAnd f 1 else if k = 3 then bitAnd f 1 else if k = 4 then 0 else if k = 5 then v.fdiv (2 ^ Int.toNat 7) else if k = 6 then 1 else 0
def turnOut (k v : Int) : Int := if k % 2 = 0 then v.fdiv (2 ^ Int.toNat 7) else bitAnd v 1
def turnR (k v f : Int) : Int := if k % 2 = 0 then bitOr (bitAnd (v * 2 ^ Int.toNat 1) 255) (turnCome k v f) else bitOr (v.fdiv (2 ^ Int.toNat 1)) (turnCome k v f * 2 ^ Int.toNat 7)
def tbF (k v f : Int) : Int := bitOr (bitOr (bitOr (bitOr (if bitAnd (v.fdiv (2 ^ k.toNat)) 1 = 0 then bitOr 64 4 else 0) (if bitAnd (v.fdiv (2 ^ k.toNat)) 1 = 0 then 0 else (if k = 7 then 128 else 0))) (bitAnd v 40)) 16) (bitAnd f 1)
def spcF (r f : Int) : Int := bitOr (bitOr (szyxI r) (parityI r)) (bitAnd f 1)
def rrdR (x v : Int) : Int := bitOr (bitAnd x 240) (bitAnd v 15)
def rldR (x v : Int) : Int := bitOr (bitAnd x 240) (v.fdiv (2 ^ Int.toNat 4))
def moveF (x v l f : Int) : Int := bitOr (bitOr (bitOr (bitAnd f (bitOr (bitOr 128 64) 1)) (if bitAnd (x + v) 2 = 0 then 0 else 32)) (bitAnd (x + v) 8)) (if l = 0 then 0 else 4)
def seekT (x v : Int) : Int := subR x v 0 - (if bitAnd (subF x v 0) 16 = 0 then 0 else 1)
def seekF (x v l f : Int) : Int := bitOr (bitOr (bitOr (bitOr (bitOr (bitAnd (subF x v 0) (bitOr (bitOr 128 64) 16)) (if bitAnd (seekT x v) 2 = 0 then 0 else 32)) (bitAnd (seekT x v) 8)) (if l = 0 then 0 else 4)) 2) (bitAnd f 1)
def tS (r : Int) : Int := r.fdiv 128 * 128
def tZ (r : Int) : Int := 64 * if (r == 0) = true then 1 else 0
def tYX (r : Int) : Int := (r.fdiv 32).fmod 2 * 32 + (r.fdiv 8).fmod 2 * 8
def tP (r : Int) : Int := 4 * if ((bitI r 0 + (bitI r 1 + (bitI r 2 + (bitI r 3 + (bitI r 4 + (bitI r 5 + (bitI r 6 + (bitI r 7 + 0)))))))).fmod 2 == 0) = true then 1 else 0
def tszp (f : Int) : Int := f.fdiv 64 * 64 + (f.fdiv 4).fmod 2 * 4
end
/-! EN -/
section
section
variable {prog : Program} {w : World} {A : Around} {E : Value → Shared → Prop} {s : Shared} {h₀ : Heap} {L : Addr} {m : Str → Option Value} {env : Env} {news : List (Addr × Obj)}
/-- one * 2 ** place -/
abbrev enElt (p1 p2 p3 p4 p5 : Pos) : PySem.Expr := .BinOp (.Name (Str.ofString "one") p1) .Mult (.BinOp (.Constant (.int 2) 0 p2) .Pow (.Name (Str.ofString "place") p3) p4) p5
theorem en_elt {scope : Scope} {cl : List (Str × Addr)} {C : Addr} {p1 p2 p3 p4 p5 : Pos} {m₂ : Str → Option Value} {b : Int} {tb ti : Tok} {i : Nat} {Q : Value → Shared → Prop}
    (hk : (compEnvC scope cl C env).scope.kind = .function) (hl1 : (compEnvC scope cl C env).kindOf (Str.ofString "one") = some .local) (hl2 : (compEnvC scope cl C env).kindOf (Str.ofString "place") = some .local)
    (hn : s.heap.Ns C m₂) (h1 : m₂ (Str.ofString "one") = some (.int b tb)) (h2 : m₂ (Str.ofString "place") = some (.int i ti)) (hi : i < 8) (hb0 : 0 ≤ b) (hb1 : b < 2)
    (h : ∀ t tk, Q (.int (b * 2 ^ i) t) { s with toks := tk }) : wpAny (model prog w) A (eval (enElt p1 p2 p3 p4 p5) (compEnvC scope cl C env)) Q E s := by
  refine wpAny_BinOp (ldVarK hn h1 ?_ hk hl1)
  refine wpAny_BinOp (wpAny_Constant_int ?_)
  refine ldVarK hn h2 ?_ hk hl2
  refine pow_int_small (by omega) (by omega) (by decide) ?_
  refine mul_int ?_ ?_
  · rw [Int.toNat_natCast]
    exact h _ _
  · have hp : (2 : Int) ^ (i : Int).toNat ≤ 2 ^ 7 := by
      rw [Int.toNat_natCast]
      have : i = 0 ∨ i = 1 ∨ i = 2 ∨ i = 3 ∨ i = 4 ∨ i = 5 ∨ i = 6 ∨ i = 7 := by omega
      rcases this with rfl | rfl | rfl | rfl | rfl | rfl | rfl | rfl <;> decide
    have hp0 : (0 : Int) < 2 ^ (i : Int).toNat := Int.pow_pos (by decide)
    generalize (2 : Int) ^ (i : Int).toNat = z at hp hp0
    have e1 : b.natAbs < 2 ^ 1 := by omega
    have e2 : z.natAbs < 2 ^ 8 := by omega
    exact IntMulOk.of_le (intBits_le_iff.mpr e1) (intBits_le_iff.mpr e2) (by decide)

theorem ne4 {b z : Nat} (h : b < z) : b ≠ z + 1 ∧ b ≠ z ∧ b ≠ z + 3 ∧ b ≠ z + 2 := by omega
theorem new4 (z : Nat) : z + 1 ≠ z ∧ z + 3 ≠ z + 1 ∧ z + 3 ≠ z ∧ z + 2 ≠ z + 1 ∧ z + 2 ≠ z ∧ z + 2 ≠ z + 3 := by omega
def EnPost (prog : Program) (w : World) (A : Around) (E : Value → Shared → Prop) (env : Env) (elt : PySem.Expr) (tgt iter : PySem.Expr) (scope : Scope) (cl : List (Str × Addr)) (pos : Pos) (Q : Value → Shared → Prop) (x : Value) (s₁ : Shared) : Prop :=
  wpAny (model prog w) A (pyIter x) (fun it s₂ => wpAny (model prog w) A (newList []) (fun acc s₃ =>
      wpAny (model prog w) A (newFunctionEnv scope env.globals cl [] env.qual none .none (some env)) (fun cenv s₄ =>
        codeAny (model prog w) A (.compStart (.ListComp elt [⟨tgt, iter, [], 0⟩] scope pos) 0 it acc { cenv with scope := relabel scope env }) (compPost (model prog w) A E none Q acc cenv.locals) s₄) E s₃) E s₂) E s₁
theorem en_ListComp {elt tgt iter : PySem.Expr} {scope : Scope} {cl : List (Str × Addr)} {pos : Pos} {Q : Value → Shared → Prop}
    (hclos : closureFor scope env = pure cl) (hkind : scope.kind = .function) (hnames : ∀ x ∈ scope.names, x.2 = .local → scope.names.lookup x.1 = some .local)
    (h : wpAny (model prog w) A (eval iter env) (EnPost prog w A E env elt tgt iter scope cl pos Q) E s) (hs : ∀ x, foldedSetIterable iter env x = pure x := by intro _; rfl) :
    wpAny (model prog w) A (eval (.ListComp elt [⟨tgt, iter, [], 0⟩] scope pos) env) Q E s := by
  rw [eval_ListComp]
  exact wpAny_comprehension_free (use := none) rfl hs hclos hkind hnames h
/-- the list so far -/
def Ys (f : Nat → Int) (i : Nat) (ys : List Value) : Prop := ys.length = i ∧ ∀ j, j < i → ∃ t, ys[j]? = some (.int (f j) t)
theorem Ys.snoc {f : Nat → Int} {i : Nat} {ys : List Value} {t : Tok} (h : Ys f i ys) : Ys f (i + 1) (ys ++ [.int (f i) t]) := by
  obtain ⟨hl, hj⟩ := h
  refine ⟨by simp [hl], fun j hj' => ?_⟩
  by_cases e : j = i
  · subst e
    exact ⟨t, by rw [List.getElem?_append_right (by omega), hl]; simp⟩
  · obtain ⟨u, hu⟩ := hj j (by omega)
    exact ⟨u, by rw [List.getElem?_append_left (by omega)]; exact hu⟩
theorem Ys.all {f : Nat → Int} {ys : List Value} (h : Ys f 8 ys) : ∃ t0 t1 t2 t3 t4 t5 t6 t7 : Tok, ys = [.int (f 0) t0, .int (f 1) t1, .int (f 2) t2, .int (f 3) t3, .int (f 4) t4, .int (f 5) t5, .int (f 6) t6, .int (f 7) t7] := by
  obtain ⟨hl, hj⟩ := h
  match ys, hl with
  | [y0, y1, y2, y3, y4, y5, y6, y7], _ =>
    obtain ⟨t0, h0⟩ := hj 0 (by decide)
    obtain ⟨t1, h1⟩ := hj 1 (by decide)
    obtain ⟨t2, h2⟩ := hj 2 (by decide)
    obtain ⟨t3, h3⟩ := hj 3 (by decide)
    obtain ⟨t4, h4⟩ := hj 4 (by decide)
    obtain ⟨t5, h5⟩ := hj 5 (by decide)
    obtain ⟨t6, h6⟩ := hj 6 (by decide)
    obtain ⟨t7, h7⟩ := hj 7 (by decide)
    refine ⟨t0, t1, t2, t3, t4, t5, t6, t7, ?_⟩
    rw [Option.some.inj h0, Option.some.inj h1, Option.some.inj h2, Option.some.inj h3, Option.some.inj h4, Option.some.inj h5, Option.some.inj h6, Option.some.inj h7]
theorem off1_of {D : Addr} : ∀ {l : List (Addr × Obj)}, (∀ p ∈ l, p.1 ≠ D) → LCg.Off1 D l
  | [], _ => trivial
  | _ :: _, h => ⟨h _ List.mem_cons_self, off1_of fun p hp => h p (List.mem_cons_of_mem _ hp)⟩
def bAt (b0 b1 b2 b3 b4 b5 b6 b7 : Int) : Nat → Int
  | 0 => b0 | 1 => b1 | 2 => b2 | 3 => b3 | 4 => b4 | 5 => b5 | 6 => b6 | _ => b7
theorem en_call {p1 p2 p3 p4 p5 pa pb tp : Pos} {kk : Nat} {iter : PySem.Expr} {scope : Scope} {cl : List (Str × Addr)} {pos : Pos} {Q : Value → Shared → Prop} {l : Addr} {b0 b1 b2 b3 b4 b5 b6 b7 : Int} {t0 t1 t2 t3 t4 t5 t6 t7 : Tok} {n : Nat}
    (hh : A.handled = none) (F : Fr h₀ L s.heap m) (N : News h₀ L s.heap news) (hm : (l, listOf #[.int b0 t0, .int b1 t1, .int b2 t2, .int b3 t3, .int b4 t4, .int b5 t5, .int b6 t6, .int b7 t7] n) ∈ news)
    (hcell : ∀ y ∈ scope.names, y.2 ≠ .cell) (hkind : scope.kind = .function) (hxa : scope.names.lookup (Str.ofString "place") = some .local) (hxb : scope.names.lookup (Str.ofString "one") = some .local)
    (r0 : 0 ≤ b0 ∧ b0 < 2) (r1 : 0 ≤ b1 ∧ b1 < 2) (r2 : 0 ≤ b2 ∧ b2 < 2) (r3 : 0 ≤ b3 ∧ b3 < 2) (r4 : 0 ≤ b4 ∧ b4 < 2) (r5 : 0 ≤ b5 ∧ b5 < 2) (r6 : 0 ≤ b6 ∧ b6 < 2) (r7 : 0 ≤ b7 ∧ b7 < 2)
    (fin : ∀ (D : Addr) (t0 t1 t2 t3 t4 t5 t6 t7 : Tok) (h' : Heap) (tk' : Nat), Fr h₀ L h' m → News h₀ L h' ((D, LCg.lst [.int (b0 * 2 ^ 0) t0, .int (b1 * 2 ^ 1) t1, .int (b2 * 2 ^ 2) t2, .int (b3 * 2 ^ 3) t3, .int (b4 * 2 ^ 4) t4, .int (b5 * 2 ^ 5) t5, .int (b6 * 2 ^ 6) t6, .int (b7 * 2 ^ 7) t7]) :: news) → LCg.Off1 D news → Q (.ref D) { s with heap := h', toks := tk' }) :
    wpAny (model prog w) A (call (.type "enumerate") [.ref l]) (EnPost prog w A E env (enElt p1 p2 p3 p4 p5) (.Tuple [.Name (Str.ofString "place") pa, .Name (Str.ofString "one") pb] kk tp) iter scope cl pos Q) E s := by
  have hl : s.heap.IsList l #[.int b0 t0, .int b1 t1, .int b2 t2, .int b3 t3, .int b4 t4, .int b5 t5, .int b6 t6, .int b7 t7] := ⟨_, (N _ hm).1, rfl, n, rfl⟩
  have hlt : l < s.heap.objs.size := Heap.lt_size (N _ hm).1
  refine call_enumerate_list hl fun h1 hE hI hsz hk => ?_
  unfold EnPost
  refine wpAny_pyIter_enum hE ?_
  have hab : ¬ (Str.ofString "place") = (Str.ofString "one") := by decide +kernel
  -- the four new objects
  refine wpAny_newObj_type (wpAny_newFunctionEnv hcell (by intro y hy; simp at hy) (fun h2 hns2 hsb2 => ?_) hkind)
  dsimp only at hns2 hsb2 ⊢
  have hC : (h1.push { cls := .type "list", dict := none, data := .seq ([] : List Value).toArray }).objs.size = s.heap.objs.size + 3 := by rw [Heap.size_push, hsz]
  have hacc0 : (h1.push { cls := .type "list", dict := none, data := .seq ([] : List Value).toArray }).get? h1.objs.size = some (LCg.lst []) := Heap.get?_push_size _ rfl
  have up0 : ∀ b o, h1.get? b = some o → (h1.push { cls := .type "list", dict := none, data := .seq ([] : List Value).toArray }).get? b = some o := fun b o x => Heap.get?_push_of_some _ x
  generalize h1.push { cls := .type "list", dict := none, data := .seq ([] : List Value).toArray } = H2 at hns2 hsb2 hC hacc0 up0 ⊢
  rw [hsz] at hacc0
  simp only [hsz, hC] at hns2 hsb2 ⊢
  have new := new4 s.heap.objs.size
  have old := fun b (o : Obj) (x : s.heap.get? b = some o) => ne4 (Heap.lt_size x)
  have up1 : ∀ b o, h1.get? b = some o → h2.get? b = some o := fun b o x => by
    have hb : b < h1.objs.size := Heap.lt_size x
    rw [hsz] at hb
    exact hsb2.extBut b o (Nat.ne_of_lt (Nat.lt_succ_of_lt hb)) (Heap.get?_push_of_some _ (up0 b o x))
  have hacc : h2.get? (s.heap.objs.size + 2) = some (LCg.lst []) := hsb2.extBut _ _ new.2.2.2.2.2 (Heap.get?_push_of_some _ hacc0)
  have ol := old l _ (N _ hm).1
  have W := (WalksT.enumerate (prog := prog) (w := w) (A := A) hh (s.heap.objs.size + 1) s.heap.objs.size l new.1 ol.1 ol.2.1 #[.int b0 t0, .int b1 t1, .int b2 t2, .int b3 t3, .int b4 t4, .int b5 t5, .int b6 t6, .int b7 t7]).toU
  have it8 : ∀ i x, (#[.int b0 t0, .int b1 t1, .int b2 t2, .int b3 t3, .int b4 t4, .int b5 t5, .int b6 t6, .int b7 t7] : Array Value)[i]? = some x → i < 8 ∧ ∃ t, x = .int (bAt b0 b1 b2 b3 b4 b5 b6 b7 i) t ∧ 0 ≤ bAt b0 b1 b2 b3 b4 b5 b6 b7 i ∧ bAt b0 b1 b2 b3 b4 b5 b6 b7 i < 2 := by
    intro i x hx
    have hi : i < 8 := by
      obtain ⟨hi, _⟩ := Array.getElem?_eq_some_iff.mp hx
      exact hi
    refine ⟨hi, ?_⟩
    have : i = 0 ∨ i = 1 ∨ i = 2 ∨ i = 3 ∨ i = 4 ∨ i = 5 ∨ i = 6 ∨ i = 7 := by omega
    rcases this with rfl | rfl | rfl | rfl | rfl | rfl | rfl | rfl <;> exact ⟨_, (Option.some.inj hx).symm, by assumption⟩
  have hsize : (#[.int b0 t0, .int b1 t1, .int b2 t2, .int b3 t3, .int b4 t4, .int b5 t5, .int b6 t6, .int b7 t7] : Array Value).size = 8 := rfl
  have hkC : (compEnvC scope cl (s.heap.objs.size + 3) env).scope.kind = .function := hkind
  have hab : ¬ (Str.ofString "place") = (Str.ofString "one") := by decide +kernel
  have up : ∀ b o, s.heap.get? b = some o → h2.get? b = some o := fun b o x => up1 b o (hk b o x)
  have hst : (∃ old, IsEnum h2 (s.heap.objs.size + 1) s.heap.objs.size ((0 : Nat) : Int) old) ∧ h2.IsListIter s.heap.objs.size l (0 : Nat) ∧ h2.IsList l #[.int b0 t0, .int b1 t1, .int b2 t2, .int b3 t3, .int b4 t4, .int b5 t5, .int b6 t6, .int b7 t7] :=
    ⟨⟨_, up1 _ _ hE⟩, hI.at fun o x => up1 _ o x, hl.at fun o x => up _ o x⟩
  have szl : 8 ≤ sizeLine := by rw [sizeLine_eq]; decide
  generalize (#[.int b0 t0, .int b1 t1, .int b2 t2, .int b3 t3, .int b4 t4, .int b5 t5, .int b6 t6, .int b7 t7] : Array Value) = its at hl it8 W hst hsize
  have loop : ∀ s₃ : Shared, s₃ = { s with heap := h2, toks := s.toks + ([] : List (Str × Value)).length } →
      codeAny (model prog w) A (.compLoop (.ListComp (enElt p1 p2 p3 p4 p5) [⟨.Tuple [.Name (Str.ofString "place") pa, .Name (Str.ofString "one") pb] kk tp, iter, [], 0⟩] scope pos) 0 (.ref (s.heap.objs.size + 1)) (.ref (s.heap.objs.size + 2)) (compEnvC scope cl (s.heap.objs.size + 3) env))
        (compPost (model prog w) A E none Q (.ref (s.heap.objs.size + 2)) (s.heap.objs.size + 3)) s₃ := by
    rintro s₃ rfl
    refine kcp_loop
      (fun k s' => ∃ h' tk i ys m', s' = { s with heap := h', toks := tk } ∧ i ≤ its.size ∧ k = its.size + 1 - i ∧ Ys (fun j => bAt b0 b1 b2 b3 b4 b5 b6 b7 j * 2 ^ j) i ys ∧
        (((∃ old, IsEnum h' (s.heap.objs.size + 1) s.heap.objs.size i old) ∧ h'.IsListIter s.heap.objs.size l i ∧ h'.IsList l its)) ∧ h'.Ns (s.heap.objs.size + 3) m' ∧ h'.get? (s.heap.objs.size + 2) = some (LCg.lst ys) ∧
        (∀ b o, s.heap.get? b = some o → h'.get? b = some o)) ?_ (its.size + 1)
      ⟨h2, _, 0, [], _, rfl, Nat.zero_le _, rfl, ⟨rfl, fun j hj => absurd hj (Nat.not_lt_zero j)⟩, hst, hns2, hacc, up⟩
    rintro k s' ⟨h', tk, i, ys, m', rfl, hi, rfl, hys, hst', hn', hD', hup'⟩
    by_cases hlt : i < its.size
    · refine W.item i _ _ _ hlt hst' fun T vals h₃ tk₃ hP hT hMid hk₃ => ?_
      obtain ⟨t, x, hx, rfl⟩ := hP
      obtain ⟨hi8, tb, rfl, hb0, hb1⟩ := it8 i x hx
      have hTw := W.apart _ _ _ hMid
      refine W.go _ _ _ i T _ _ _ hMid fun h₄ hst₄ hk₄ => ?_
      have up₄ : ∀ b o, b ≠ s.heap.objs.size + 1 → b ≠ s.heap.objs.size → h'.get? b = some o → h₄.get? b = some o := fun b o h1 h2 e => hk₄ b o (by simp [h1, h2]) (hk₃ b o (by simp [h1, h2]) e)
      have hT₄ : h₄.IsTuple T #[.int i t, .int (bAt b0 b1 b2 b3 b4 b5 b6 b7 i) tb] := by
        obtain ⟨o, ho, r⟩ := hT
        exact ⟨o, hk₄ T o hTw ho, r⟩
      refine kcp_assign (env := compEnvC scope cl (s.heap.objs.size + 3) env) hh hT₄ (lookup_relabel_local hxa) (lookup_relabel_local hxb) (by simp [compEnvC, relabel, hkind]) (hn'.at' fun o e => up₄ _ o new.2.1 new.2.2.1 e) fun h₅ tk₅ hn₅ hs₅ => ?_
      refine en_elt (i := i) (tb := tb) (ti := t) (b := bAt b0 b1 b2 b3 b4 b5 b6 b7 i) hkC (lookup_relabel_local hxb) (lookup_relabel_local hxa) hn₅ (by simp) (by simp [hab]) hi8 hb0 hb1 fun t₆ tk₆ => ?_
      have hD₅ : h₅.get? (s.heap.objs.size + 2) = some (LCg.lst ys) := hs₅ _ _ new.2.2.2.2.2 (up₄ _ _ new.2.2.2.1 new.2.2.2.2.1 hD')
      have hl8 : ys.length ≤ 8 := by rw [hys.1]; omega
      refine append_at (hsz := by show ys.toArray.size ≤ sizeLine; rw [List.size_toArray]; exact Nat.le_trans hl8 szl) hD₅ fun h₇ hs₇ hD₇ => ?_
      have fr₇ : ∀ b ∈ [s.heap.objs.size + 1, s.heap.objs.size, l], ∀ o, h₄.get? b = some o → h₇.get? b = some o := fun b hb o e => by
        have hb3 : b ≠ s.heap.objs.size + 3 ∧ b ≠ s.heap.objs.size + 2 := by
          rcases List.mem_cons.mp hb with rfl | hb
          · exact ⟨Ne.symm new.2.1, Ne.symm new.2.2.2.1⟩
          · rcases List.mem_cons.mp hb with rfl | hb
            · exact ⟨Ne.symm new.2.2.1, Ne.symm new.2.2.2.2.1⟩
            · rw [List.mem_singleton.mp hb]; exact ⟨ol.2.2.1, ol.2.2.2⟩
        exact hs₇.extBut b o hb3.2 (hs₅ b o hb3.1 e)
      refine ⟨its.size + 1 - (i + 1), by omega, h₇, tk₆, i + 1, ys ++ [.int (bAt b0 b1 b2 b3 b4 b5 b6 b7 i * 2 ^ i) t₆], _, rfl, hlt, rfl, hys.snoc, W.frame _ _ _ hst₄ fr₇, hn₅.sameBut hs₇ (Ne.symm new.2.2.2.2.2), hD₇.trans (congrArg some (LCg.lst_snoc ys _)), fun b o e => ?_⟩
      have q := old b o e
      exact hs₇.extBut b o q.2.2.2 (hs₅ b o q.2.2.1 (up₄ b o q.1 q.2.1 (hup' b o e)))
    · obtain rfl : i = its.size := Nat.le_antisymm hi (Nat.not_lt.mp hlt)
      refine W.done _ _ _ hst' fun h₃ tk₃ hk₃ => ?_
      rw [hsize] at hys
      obtain ⟨u0, u1, u2, u3, u4, u5, u6, u7, rfl⟩ := hys.all
      have up₃ : ∀ b o, b ≠ s.heap.objs.size + 1 → b ≠ s.heap.objs.size → h'.get? b = some o → h₃.get? b = some o := fun b o h1 h2 e => hk₃ b o (by simp [h1, h2]) e
      refine ⟨_, hn'.at' fun o e => up₃ _ o new.2.1 new.2.2.1 e, fun h₄ hs₄ => ?_⟩
      have up₄ : ∀ b o, s.heap.get? b = some o → h₄.get? b = some o := fun b o e => by
        have q := old b o e
        exact hs₄.extBut b o q.2.2.1 (up₃ b o q.1 q.2.1 (hup' b o e))
      refine fin (s.heap.objs.size + 2) u0 u1 u2 u3 u4 u5 u6 u7 h₄ tk₃ (F.keeps up₄) (fun p hp => ?_) (off1_of fun p hp => (old p.1 _ (N p hp).1).2.2.2)
      rcases List.mem_cons.mp hp with rfl | hp
      · refine ⟨hs₄.extBut _ _ new.2.2.2.2.2 (up₃ _ _ new.2.2.2.1 new.2.2.2.2.1 hD'), ?_, ?_⟩
        · have := F.ns.lt; exact Ne.symm (ne4 this).2.2.2
        · cases e : h₀.get? (s.heap.objs.size + 2) with
          | none => rfl
          | some o' => exact absurd rfl (old _ _ (F.keep _ o' e)).2.2.2
      · exact ⟨up₄ _ _ (N p hp).1, (N p hp).2⟩
  exact codeAny_compStart_list (loop _ rfl) (W.self 0 _ _ _ hst (loop _ rfl))
end
end
/-! PD2 -/
section
def octI (b0 b1 b2 b3 b4 b5 b6 b7 : Int) : Int := b0 * 2 ^ 0 + (b1 * 2 ^ 1 + (b2 * 2 ^ 2 + (b3 * 2 ^ 3 + (b4 * 2 ^ 4 + (b5 * 2 ^ 5 + (b6 * 2 ^ 6 + (b7 * 2 ^ 7 + 0)))))))
end
/-! CM -/
section
def LaterT (P : Prop) : Prop := P
def LaterD (P : Prop) : Prop := P
theorem ite_ne_t {x y : Int} {P R : Prop} (h : x ≠ y) (p : P) : if (x != y) = true then P else R := by rw [if_pos (by simp [h])]; exact p
theorem ite_ne_f {x y : Int} {P R : Prop} (h : x = y) (q : R) : if (x != y) = true then P else R := by rw [if_neg (by simp [h])]; exact q
theorem ite_eq_t {x y : Int} {P R : Prop} (h : x = y) (p : P) : if (x == y) = true then P else R := by rw [if_pos (by simp [h])]; exact p
theorem ite_eq_f {x y : Int} {P R : Prop} (h : x ≠ y) (q : R) : if (x == y) = true then P else R := by rw [if_neg (by simp [h])]; exact q
theorem ite_le_split {x y : Int} {P R : Prop} (h1 : LaterT (x ≤ y → P)) (h2 : LaterD (¬ x ≤ y → R)) : if decide (x ≤ y) = true then P else R := by
  by_cases h : x ≤ y
  · rw [if_pos (decide_eq_true h)]; exact h1 h
  · rw [if_neg (by simpa using h)]; exact h2 h
section
variable {prog : Program} {w : World} {A : Around} {E : Value → Shared → Prop} {s : Shared} {a b : Int} {t u : Tok} {Q : Value → Shared → Prop}
theorem ne_int_same (e : a = b) (h : Q (.bool false) s) : wpAny (model prog w) A (compareOp .NotEq (.int a t) (.int b u)) Q E s := by
  subst e; exact ne_int (by simpa using h)
theorem eq_int_same (e : a = b) (h : Q (.bool true) s) : wpAny (model prog w) A (compareOp .Eq (.int a t) (.int b u)) Q E s := by
  subst e; exact eq_int (by simpa using h)
end
theorem loopN {prog : Program} {w : World} {A : Around} {E : Value → Shared → Prop} {s : Shared} {h₀ : Heap} {env : Env} {x : Str} {body : List Stmt} {Q : Flow → Shared → Prop} {r : Addr} {t₀ u₀ v₀ : Tok} {m₀ : Str → Option Value} {news : List (Addr × Obj)} {b : Int} (n : Nat) (stored : List Str)
    (hh : A.handled = none) (hr : IsRange s.heap r 0 b 1 t₀ u₀ v₀) (hb : b = n) (hsmall : Builtin.Range.small 0 n 1 = true) (hn : Builtin.Range.rangeSize 0 n 1 = (n : Int)) (F : Fr h₀ env.locals s.heap m₀) (N : News h₀ env.locals s.heap news)
    (turn : LaterT (∀ (k : Int) t (u : Str → Option Value) h tk own, 0 ≤ k → k < n → OwnOff own (news.map (·.1)) → Fr h₀ env.locals h (fun y => if y = x then some (.int k t) else if stored.contains y then u y else m₀ y) → News h₀ env.locals h (news ++ own) →
      wpAny (model prog w) A (execs body env) (InvPostN h₀ env.locals (KstS (σ := Unit) (fun _ => news) (fun _ => []) (fun _ => True) x stored m₀ (fun _ _ => True) [k]) own (news.map (·.1)) { s with heap := h, toks := tk } Q) E { s with heap := h, toks := tk }))
    (done : LaterD (∀ (u : Str → Option Value) h tk, Fr h₀ env.locals h (fun y => if y = x then u y else if stored.contains y then u y else m₀ y) → News h₀ env.locals h news → Q .next { s with heap := h, toks := tk })) :
    wpAny (model prog w) A (pyIter (.ref r)) (fun it s₂ => LoopAtV prog w A h₀ env x body Q E it s₂) E s := by
  subst hb
  refine kst_range (σ := Unit) (fun _ => news) (fun _ => []) (fun _ => True) stored (fun _ _ => True) () hh hr hsmall hn F N True.intro (by intro p hp; cases hp) True.intro ?_ ?_
  · intro c pre k t u h tk own ek hl off _ _ F' N'
    refine wpAny_mono (turn k t u h tk own (by omega) (by omega) off F' N') (fun f s' hp => ?_) fun _ _ e => e
    unfold InvPostN at hp ⊢
    cases f with
    | ret v => exact hp
    | brk => exact hp
    | _ =>
      obtain ⟨h', tk', m', news', nx, rfl, F₁, N₁, a1, a2, a3, hj⟩ := hp
      obtain ⟨c', e1, e2, e3, e4, e5⟩ := hj
      exact ⟨h', tk', m', news', nx, rfl, F₁, N₁, a1, a2, a3, c', e1, e2, e3, e4, e5⟩
  · intro c u h tk _ _ F' N'
    exact done u h tk F' N'
section
variable {prog : Program} {w : World} {A : Around} {E : Value → Shared → Prop} {s : Shared} {h₀ : Heap} {L : Addr} {news : List (Addr × Obj)} {a b : Addr} {x y z x' y' z' : Int} {t1 t2 t3 u1 u2 u3 : Tok} {Q : Value → Shared → Prop}
theorem eqv2 (x y : Int) : PyData.eqv (.tuple [.int x, .int y]) (.tuple [.int x, .int y]) = true := by simp [PyData.eqv, PyData.eqvAll]
theorem eqv3 (x y z : Int) : PyData.eqv (.tuple [.int x, .int y, .int z]) (.tuple [.int x, .int y, .int z]) = true := by simp [PyData.eqv, PyData.eqvAll]
theorem ne_tup2 (N : News h₀ L s.heap news) (h1 : (a, ({ cls := .type "tuple", data := .seq #[.int x t1, .int y t2] } : Obj)) ∈ news) (h2 : (b, ({ cls := .type "tuple", data := .seq #[.int x' u1, .int y' u2] } : Obj)) ∈ news) (e1 : x = x') (e2 : y = y') (hu : A.units + 64 < cLine) (h : Q (.bool false) s) :
    wpAny (model prog w) A (compareOp .NotEq (.ref a) (.ref b)) Q E s := by
  subst e1; subst e2
  refine ne_dataH (reads_tuple_at (News.get N h1) rfl rfl (.cons (.int _ _) (.cons (.int _ _) .nil))) (reads_tuple_at (News.get N h2) rfl rfl (.cons (.int _ _) (.cons (.int _ _) .nil))) rfl rfl hu ?_
  rw [eqv2]; exact h
theorem eq_tup2 (N : News h₀ L s.heap news) (h1 : (a, ({ cls := .type "tuple", data := .seq #[.int x t1, .int y t2] } : Obj)) ∈ news) (h2 : (b, ({ cls := .type "tuple", data := .seq #[.int x' u1, .int y' u2] } : Obj)) ∈ news) (e1 : x = x') (e2 : y = y') (hu : A.units + 64 < cLine) (h : Q (.bool true) s) :
    wpAny (model prog w) A (compareOp .Eq (.ref a) (.ref b)) Q E s := by
  subst e1; subst e2
  refine eq_dataH (reads_tuple_at (News.get N h1) rfl rfl (.cons (.int _ _) (.cons (.int _ _) .nil))) (reads_tuple_at (News.get N h2) rfl rfl (.cons (.int _ _) (.cons (.int _ _) .nil))) rfl rfl hu ?_
  rw [eqv2]; exact h
theorem eq_lists {xs ys : List Value} {ns ms : List Int} {n n' : Nat} (N : News h₀ L s.heap news) (h1 : (a, ({ cls := .type "list", data := .seq xs.toArray n } : Obj)) ∈ news) (h2 : (b, ({ cls := .type "list", data := .seq ys.toArray n' } : Obj)) ∈ news) (hi : IntsAre xs ns) (hj : IntsAre ys ms) (e : ns = ms) (hu : A.units + 64 < cLine) (h : Q (.bool true) s) :
    wpAny (model prog w) A (compareOp .Eq (.ref a) (.ref b)) Q E s :=
  ke_eq_ints ⟨_, (N _ h1).1, rfl, n, rfl⟩ ⟨_, (N _ h2).1, rfl, n', rfl⟩ hi hj hu (by rw [decide_eq_true e]; exact h)
theorem ne_tup3 (N : News h₀ L s.heap news) (h1 : (a, ({ cls := .type "tuple", data := .seq #[.int x t1, .int y t2, .int z t3] } : Obj)) ∈ news) (h2 : (b, ({ cls := .type "tuple", data := .seq #[.int x' u1, .int y' u2, .int z' u3] } : Obj)) ∈ news) (e1 : x = x') (e2 : y = y') (e3 : z = z') (hu : A.units + 64 < cLine) (h : Q (.bool false) s) :
    wpAny (model prog w) A (compareOp .NotEq (.ref a) (.ref b)) Q E s := by
  subst e1; subst e2; subst e3
  refine ne_dataH (reads_tuple_at (News.get N h1) rfl rfl (.cons (.int _ _) (.cons (.int _ _) (.cons (.int _ _) .nil)))) (reads_tuple_at (News.get N h2) rfl rfl (.cons (.int _ _) (.cons (.int _ _) (.cons (.int _ _) .nil)))) rfl rfl hu ?_
  rw [eqv3]; exact h
theorem eq_tup3 (N : News h₀ L s.heap news) (h1 : (a, ({ cls := .type "tuple", data := .seq #[.int x t1, .int y t2, .int z t3] } : Obj)) ∈ news) (h2 : (b, ({ cls := .type "tuple", data := .seq #[.int x' u1, .int y' u2, .int z' u3] } : Obj)) ∈ news) (e1 : x = x') (e2 : y = y') (e3 : z = z') (hu : A.units + 64 < cLine) (h : Q (.bool true) s) :
    wpAny (model prog w) A (compareOp .Eq (.ref a) (.ref b)) Q E s := by
  subst e1; subst e2; subst e3
  refine eq_dataH (reads_tuple_at (News.get N h1) rfl rfl (.cons (.int _ _) (.cons (.int _ _) (.cons (.int _ _) .nil)))) (reads_tuple_at (News.get N h2) rfl rfl (.cons (.int _ _) (.cons (.int _ _) (.cons (.int _ _) .nil)))) rfl rfl hu ?_
  rw [eqv3]; exact h
end
end
/-! PL -/
section
theorem all_nat {k : Nat} {p : Int → Bool} (h : (List.range k).all (fun n => p (n : Int)) = true) {x : Int} (h0 : 0 ≤ x) (h1 : x < (k : Int)) : p x = true := by
  have := List.all_eq_true.mp h x.toNat (List.mem_range.mpr (by omega))
  rwa [Int.toNat_of_nonneg h0] at this
theorem all_nat2 {k l : Nat} {p : Int → Int → Bool} (h : (List.range k).all (fun n => (List.range l).all fun m => p (n : Int) (m : Int)) = true) {x y : Int} (h0 : 0 ≤ x) (h1 : x < (k : Int)) (h2 : 0 ≤ y) (h3 : y < (l : Int)) : p x y = true :=
  all_nat (p := fun y => p x y) (all_nat (p := fun x => (List.range l).all fun m => p x (m : Int)) h h0 h1) h2 h3
theorem fd2 (x : Int) : x.fdiv 2 = x / 2 := Int.fdiv_eq_ediv_of_nonneg _ (by decide)
theorem fdp (x : Int) {k : Int} (h : 0 ≤ k) : x.fdiv k = x / k := Int.fdiv_eq_ediv_of_nonneg _ h
theorem fmp (x : Int) {k : Int} (h : 0 ≤ k) : x.fmod k = x % k := Int.fmod_eq_emod_of_nonneg _ h
theorem and196 {f : Int} (h0 : 0 ≤ f) (h1 : f < 256) : bitAnd f 196 = tszp f :=
  of_decide_eq_true (all_nat (k := 256) (p := fun f => decide (bitAnd f 196 = tszp f)) (by decide +kernel) h0 h1)
theorem and40 {f : Int} (h0 : 0 ≤ f) (h1 : f < 256) : bitAnd f 40 = tYX f :=
  of_decide_eq_true (all_nat (k := 256) (p := fun f => decide (bitAnd f 40 = tYX f)) (by decide +kernel) h0 h1)
theorem and240 {f : Int} (h0 : 0 ≤ f) (h1 : f < 256) : bitAnd f 240 = f.fdiv 16 * 16 :=
  of_decide_eq_true (all_nat (k := 256) (p := fun f => decide (bitAnd f 240 = f.fdiv 16 * 16)) (by decide +kernel) h0 h1)
theorem xor255 {f : Int} (h0 : 0 ≤ f) (h1 : f < 256) : bitXor f 255 = 255 - f :=
  of_decide_eq_true (all_nat (k := 256) (p := fun f => decide (bitXor f 255 = 255 - f)) (by decide +kernel) h0 h1)
theorem and1 (f : Int) : bitAnd f 1 = f.fmod 2 := by rw [fmp _ (by decide)]; exact bitAnd_m1 f
theorem and15 (f : Int) : bitAnd f 15 = f.fmod 16 := by rw [fmp _ (by decide)]; exact bitAnd_m4 f
theorem and255 (f : Int) : bitAnd f 255 = f % 256 := bitAnd_m8 f
theorem m2_range (f : Int) : 0 ≤ f.fmod 2 ∧ f.fmod 2 < 2 := by rw [fmp _ (by decide)]; omega
theorem m16_range (f : Int) : 0 ≤ f.fmod 16 ∧ f.fmod 16 < 16 := by rw [fmp _ (by decide)]; omega
theorem bit_range (v : Int) (k : Nat) : 0 ≤ bitI v k ∧ bitI v k < 2 := m2_range _
def toldA (r : Int) : Int := tS r + (tZ r + (tYX r + (tP r + 0)))
theorem szp_out {r o : Int} (h0 : 0 ≤ r) (h1 : r < 256) (h2 : 0 ≤ o) (h3 : o < 2) : bitOr (bitOr (szyxI r) (parityI r)) o = toldA r + o :=
  of_decide_eq_true (all_nat2 (k := 256) (l := 2) (p := fun r o => decide (bitOr (bitOr (szyxI r) (parityI r)) o = toldA r + o)) (by decide +kernel) h0 h1 h2 h3)
theorem spc_told {r : Int} (f : Int) (h0 : 0 ≤ r) (h1 : r < 256) : spcF r f = tS r + (tZ r + (tYX r + (tP r + (f.fmod 2 + 0)))) := by
  have := m2_range f
  rw [spcF, and1, szp_out h0 h1 (by omega) (by omega), toldA]; omega
theorem tszp_or : ∀ i < 4, ∀ j < 2, ∀ p < 2, ∀ q < 2, ∀ o < 32, bitOr (bitOr ((i : Nat) * 64 + (j : Nat) * 4) ((p : Nat) * 32 + (q : Nat) * 8)) (if o < 2 then (o : Nat) else 16) = (i * 64 + j * 4) + (p * 32 + q * 8) + (if o < 2 then (o : Nat) else 16) := by decide +kernel
theorem fyx {f r : Int} (o : Int) (h0 : 0 ≤ f) (h1 : f < 256) (h2 : 0 ≤ r) (h3 : r < 256) (ho : o = 0 ∨ o = 1 ∨ o = 16) : bitOr (bitOr (bitAnd f 196) (bitAnd r 40)) o = tszp f + (tYX r + 0) + o := by
  rw [and196 h0 h1, and40 h2 h3]
  unfold tszp tYX
  simp only [fdp _ (show (0 : Int) ≤ 64 by decide), fdp _ (show (0 : Int) ≤ 32 by decide), fdp _ (show (0 : Int) ≤ 4 by decide), fdp _ (show (0 : Int) ≤ 8 by decide), fmp _ (show (0 : Int) ≤ 2 by decide)]
  have k := tszp_or (f / 64).toNat (by omega) (f / 4 % 2).toNat (by omega) (r / 32 % 2).toNat (by omega) (r / 8 % 2).toNat (by omega)
  have e1 : ((f / 64).toNat : Int) = f / 64 := by omega
  have e2 : ((f / 4 % 2).toNat : Int) = f / 4 % 2 := by omega
  have e3 : ((r / 32 % 2).toNat : Int) = r / 32 % 2 := by omega
  have e4 : ((r / 8 % 2).toNat : Int) = r / 8 % 2 := by omega
  rw [e1, e2, e3, e4] at k
  rcases ho with rfl | rfl | rfl
  · have := k 0 (by decide); simpa using this
  · have := k 1 (by decide); simpa using this
  · have := k 16 (by decide); simpa using this
theorem cpl_told {x f : Int} (h0 : 0 ≤ x) (h1 : x < 256) (h2 : 0 ≤ f) (h3 : f < 256) : bitOr (bitOr (bitOr (bitAnd f (bitOr 196 1)) (bitAnd (bitXor x 255) 40)) 16) 2 = tszp f + 0 + (tYX (255 - x) + (16 + (2 + (f.fmod 2 + 0)))) := by
  rw [xor255 h0 h1, and40 (f := 255 - x) (by omega) (by omega)]
  have a : bitAnd f (bitOr 196 1) = tszp f + f.fmod 2 := of_decide_eq_true (all_nat (k := 256) (p := fun f => decide (bitAnd f (bitOr 196 1) = tszp f + f.fmod 2)) (by decide +kernel) h2 h3)
  rw [a]
  have b : ∀ i < 4, ∀ j < 2, ∀ p < 2, ∀ q < 2, ∀ o < 2, bitOr (bitOr (bitOr (((i : Nat) : Int) * 64 + (j : Nat) * 4 + (o : Nat)) ((p : Nat) * 32 + (q : Nat) * 8)) 16) 2 = (i * 64 + j * 4) + o + (p * 32 + q * 8) + 18 := by decide +kernel
  unfold tszp tYX
  simp only [fdp _ (show (0 : Int) ≤ 64 by decide), fdp _ (show (0 : Int) ≤ 32 by decide), fdp _ (show (0 : Int) ≤ 4 by decide), fdp _ (show (0 : Int) ≤ 8 by decide), fmp _ (show (0 : Int) ≤ 2 by decide)]
  have k := b (f / 64).toNat (by omega) (f / 4 % 2).toNat (by omega) ((255 - x) / 32 % 2).toNat (by omega) ((255 - x) / 8 % 2).toNat (by omega) (f % 2).toNat (by omega)
  have e1 : ((f / 64).toNat : Int) = f / 64 := by omega
  have e2 : ((f / 4 % 2).toNat : Int) = f / 4 % 2 := by omega
  have e3 : (((255 - x) / 32 % 2).toNat : Int) = (255 - x) / 32 % 2 := by omega
  have e4 : (((255 - x) / 8 % 2).toNat : Int) = (255 - x) / 8 % 2 := by omega
  have e5 : ((f % 2).toNat : Int) = f % 2 := by omega
  rw [e1, e2, e3, e4, e5] at k
  rw [k]; omega
theorem or_nib : ∀ i < 16, ∀ j < 16, bitOr (((i : Nat) : Int) * 16) ((j : Nat) : Int) = i * 16 + j := by decide +kernel
theorem or_nibI {i j : Int} (h0 : 0 ≤ i) (h1 : i < 16) (h2 : 0 ≤ j) (h3 : j < 16) : bitOr (i * 16) j = i * 16 + j := by
  have := or_nib i.toNat (by omega) j.toNat (by omega)
  rwa [Int.toNat_of_nonneg h0, Int.toNat_of_nonneg h2] at this
theorem rrd_told {x v : Int} (h0 : 0 ≤ x) (h1 : x < 256) : rrdR x v = x.fdiv 16 * 16 + v.fmod 16 := by
  have := m16_range v
  rw [rrdR, and240 h0 h1, and15]; exact or_nibI (by rw [fdp _ (by decide)]; omega) (by rw [fdp _ (by decide)]; omega) this.1 this.2
theorem rld_told {x v : Int} (h0 : 0 ≤ x) (h1 : x < 256) (h2 : 0 ≤ v) (h3 : v < 256) : rldR x v = x.fdiv 16 * 16 + v.fdiv 16 := by
  rw [rldR, and240 h0 h1]; exact or_nibI (by rw [fdp _ (by decide)]; omega) (by rw [fdp _ (by decide)]; omega) (by rw [show (2 : Int) ^ Int.toNat 4 = 16 from rfl, fdp _ (by decide)]; omega) (by rw [show (2 : Int) ^ Int.toNat 4 = 16 from rfl, fdp _ (by decide)]; omega)
theorem rrd2_told {x v : Int} (h2 : 0 ≤ v) (h3 : v < 256) : bitOr (bitAnd x 15 * 2 ^ Int.toNat 4) (v.fdiv (2 ^ Int.toNat 4)) = x.fmod 16 * 16 + v.fdiv 16 := by
  have := m16_range x
  rw [and15]; exact or_nibI this.1 this.2 (by rw [show (2 : Int) ^ Int.toNat 4 = 16 from rfl, fdp _ (by decide)]; omega) (by rw [show (2 : Int) ^ Int.toNat 4 = 16 from rfl, fdp _ (by decide)]; omega)
theorem rld2_told {x v : Int} : bitOr (bitAnd v 15 * 2 ^ Int.toNat 4) (bitAnd x 15) = v.fmod 16 * 16 + x.fmod 16 := by
  have := m16_range x
  have := m16_range v
  rw [and15, and15]; exact or_nibI (by omega) (by omega) (by omega) (by omega)
theorem nib_range {x : Int} {j : Int} (h0 : 0 ≤ x) (h1 : x < 256) (h2 : 0 ≤ j) (h3 : j < 16) : 0 ≤ x.fdiv 16 * 16 + j ∧ x.fdiv 16 * 16 + j < 256 := by
  rw [fdp _ (by decide)]; omega

def comeI (k v c : Int) : Int := if k = 0 then bitI v 7 else if k = 1 then bitI v 0 else if k = 2 then c else if k = 3 then c else if k = 4 then 0 else if k = 5 then bitI v 7 else if k = 6 then 1 else 0
def lturnR (k v c : Int) : Int := if k % 2 = 0 then octI (comeI k v c) (bitI v 0) (bitI v 1) (bitI v 2) (bitI v 3) (bitI v 4) (bitI v 5) (bitI v 6) else octI (bitI v 1) (bitI v 2) (bitI v 3) (bitI v 4) (bitI v 5) (bitI v 6) (bitI v 7) (comeI k v c)
def lturnOut (k v : Int) : Int := if k % 2 = 0 then bitI v 7 else bitI v 0
theorem turn_all {k v c : Int} (hk0 : 0 ≤ k) (hk1 : k < 8) (hv0 : 0 ≤ v) (hv1 : v < 256) (hc0 : 0 ≤ c) (hc1 : c < 2) : lturnR k v c = turnR k v c ∧ lturnOut k v = turnOut k v ∧ 0 ≤ turnR k v c ∧ turnR k v c < 256 ∧ 0 ≤ turnOut k v ∧ turnOut k v < 2 :=
  of_decide_eq_true (all_nat2 (k := 8) (l := 2) (p := fun k c => decide (lturnR k v c = turnR k v c ∧ lturnOut k v = turnOut k v ∧ 0 ≤ turnR k v c ∧ turnR k v c < 256 ∧ 0 ≤ turnOut k v ∧ turnOut k v < 2))
    (all_nat (k := 256) (p := fun v => (List.range 8).all fun k => (List.range 2).all fun c => decide (lturnR k v c = turnR k v c ∧ lturnOut k v = turnOut k v ∧ 0 ≤ turnR k v c ∧ turnR k v c < 256 ∧ 0 ≤ turnOut k v ∧ turnOut k v < 2)) (by decide +kernel) hv0 hv1) hk0 hk1 hc0 hc1)
theorem turnR_mod (k v f : Int) : turnR k v f = turnR k v (f.fmod 2) := by
  have e : bitAnd (f.fmod 2) 1 = bitAnd f 1 := by rw [and1, and1, fmp _ (by decide), fmp _ (by decide)]; omega
  unfold turnR turnCome
  rw [e]
theorem lturn {k v : Int} (f : Int) (hk0 : 0 ≤ k) (hk1 : k < 8) (hv0 : 0 ≤ v) (hv1 : v < 256) : lturnR k v (f.fmod 2) = turnR k v f ∧ lturnOut k v = turnOut k v ∧ 0 ≤ turnR k v f ∧ turnR k v f < 256 ∧ 0 ≤ turnOut k v ∧ turnOut k v < 2 := by
  have := m2_range f
  rw [turnR_mod k v f]
  exact turn_all hk0 hk1 hv0 hv1 this.1 this.2
theorem rot_told {k v : Int} (f : Int) (hk0 : 0 ≤ k) (hk1 : k < 8) (hv0 : 0 ≤ v) (hv1 : v < 256) : bitOr (bitOr (szyxI (turnR k v f)) (parityI (turnR k v f))) (turnOut k v) = toldA (turnR k v f) + turnOut k v := by
  have := lturn f hk0 hk1 hv0 hv1
  exact szp_out (by omega) (by omega) (by omega) (by omega)
theorem rota_told {k v f : Int} (hk0 : 0 ≤ k) (hk1 : k < 8) (hv0 : 0 ≤ v) (hv1 : v < 256) (hf0 : 0 ≤ f) (hf1 : f < 256) : bitOr (bitOr (bitAnd f 196) (bitAnd (turnR k v f) 40)) (turnOut k v) = tszp f + (tYX (turnR k v f) + 0) + turnOut k v := by
  have := lturn f hk0 hk1 hv0 hv1
  exact fyx _ hf0 hf1 (by omega) (by omega) (by omega)
def ltbF (k v c : Int) : Int := 16 + c + (tYX v + 0) + (if bitI v k.toNat = 0 then 68 else 0) + (if bitI v k.toNat = 0 then 0 else if k = 7 then 128 else 0)
theorem tb_mod (k v f : Int) : tbF k v f = tbF k v (f.fmod 2) := by
  have e : bitAnd (f.fmod 2) 1 = bitAnd f 1 := by rw [and1, and1, fmp _ (by decide), fmp _ (by decide)]; omega
  unfold tbF
  rw [e]
theorem tb_all {k v c : Int} (hk0 : 0 ≤ k) (hk1 : k < 8) (hv0 : 0 ≤ v) (hv1 : v < 256) (hc0 : 0 ≤ c) (hc1 : c < 2) : tbF k v c = ltbF k v c :=
  of_decide_eq_true (all_nat2 (k := 8) (l := 2) (p := fun k c => decide (tbF k v c = ltbF k v c))
    (all_nat (k := 256) (p := fun v => (List.range 8).all fun k => (List.range 2).all fun c => decide (tbF k v c = ltbF k v c)) (by decide +kernel) hv0 hv1) hk0 hk1 hc0 hc1)
theorem tb_told {k v : Int} (f : Int) (hk0 : 0 ≤ k) (hk1 : k < 8) (hv0 : 0 ≤ v) (hv1 : v < 256) : tbF k v f = ltbF k v (f.fmod 2) := by
  have := m2_range f
  rw [tb_mod]; exact tb_all hk0 hk1 hv0 hv1 this.1 this.2
end
/-! PL2 -/
section
theorem and2 (z : Int) : bitAnd z 2 = (z / 2 % 2) * 2 := kbt_bit z 1
theorem and8 (z : Int) : bitAnd z 8 = (z / 8 % 2) * 8 := kbt_bit z 3
theorem and16 (z : Int) : bitAnd z 16 = (z / 16 % 2) * 16 := kbt_bit z 4
theorem xor_halves (x y : Int) : bitXor x y = 2 * bitXor (x / 2) (y / 2) + (x + y) % 2 := by
  rw [bitXor_and, bitXor_and, kbt_halves x y]
  split <;> omega
theorem xor_bit (k : Nat) : ∀ x y : Int, bitXor x y / 2 ^ k % 2 = (x / 2 ^ k + y / 2 ^ k) % 2 := by
  induction k with
  | zero => intro x y; rw [xor_halves, Int.pow_zero]; omega
  | succ k ih =>
    intro x y
    have e : ∀ z : Int, z / 2 ^ (k + 1) = z / 2 / 2 ^ k := fun z => by rw [Int.pow_succ, Int.mul_comm, Int.ediv_ediv_of_nonneg (by decide)]
    rw [e, e, e, xor_halves x y, show (2 * bitXor (x / 2) (y / 2) + (x + y) % 2) / 2 = bitXor (x / 2) (y / 2) by omega]
    exact ih _ _
theorem xor3_16 (x y r : Int) : bitAnd (bitXor (bitXor x y) r) 16 = ((x / 16 + y / 16 + r / 16) % 2) * 16 := by
  rw [and16]
  have h1 : bitXor (bitXor x y) r / 16 % 2 = (bitXor x y / 16 + r / 16) % 2 := xor_bit 4 _ _
  have h2 : bitXor x y / 16 % 2 = (x / 16 + y / 16) % 2 := xor_bit 4 _ _
  omega
theorem fd (x : Int) : x.fdiv 2 = x / 2 ∧ x.fdiv 4 = x / 4 ∧ x.fdiv 8 = x / 8 ∧ x.fdiv 16 = x / 16 ∧ x.fdiv 32 = x / 32 ∧ x.fdiv 64 = x / 64 ∧ x.fdiv 128 = x / 128 ∧ x.fmod 2 = x % 2 ∧ x.fmod 16 = x % 16 ∧ x.fmod 256 = x % 256 :=
  ⟨fdp _ (by decide), fdp _ (by decide), fdp _ (by decide), fdp _ (by decide), fdp _ (by decide), fdp _ (by decide), fdp _ (by decide), fmp _ (by decide), fmp _ (by decide), fmp _ (by decide)⟩
theorem and193 {f : Int} (h0 : 0 ≤ f) (h1 : f < 256) : bitAnd f (bitOr (bitOr 128 64) 1) = f.fdiv 64 * 64 + f.fmod 2 :=
  of_decide_eq_true (all_nat (k := 256) (p := fun f => decide (bitAnd f (bitOr (bitOr 128 64) 1) = f.fdiv 64 * 64 + f.fmod 2)) (by decide +kernel) h0 h1)
theorem move_or : ∀ i < 4, ∀ o < 2, ∀ p < 2, ∀ q < 2, ∀ l < 2, bitOr (bitOr (bitOr (((i : Nat) : Int) * 64 + (o : Nat)) (if (p : Nat) = 0 then 0 else 32)) (((q : Nat) : Int) * 8)) (if (l : Nat) = 0 then 0 else 4) = (i : Int) * 64 + (o : Int) + (if l = 0 then 0 else 4) + (p : Int) * 32 + (q : Int) * 8 := by decide +kernel
theorem move_told {f : Int} (x v l : Int) (h0 : 0 ≤ f) (h1 : f < 256) : moveF x v l f = f.fdiv 64 * 64 + f.fmod 2 + (if l = 0 then 0 else 4) + ((x + v).fdiv 2).fmod 2 * 32 + ((x + v).fdiv 8).fmod 2 * 8 := by
  rw [moveF, and193 h0 h1, and2, and8]
  simp only [(fd (x + v)).1, (fd (x + v)).2.2.1, (fd f).2.2.2.2.2.1, (fd f).2.2.2.2.2.2.2.1, fmp _ (show (0 : Int) ≤ 2 by decide)]
  have k := move_or (f / 64).toNat (by omega) (f % 2).toNat (by omega) ((x + v) / 2 % 2).toNat (by omega) ((x + v) / 8 % 2).toNat (by omega) (if l = 0 then 0 else 1) (by split <;> decide)
  have e1 : ((f / 64).toNat : Int) = f / 64 := by omega
  have e2 : ((f % 2).toNat : Int) = f % 2 := by omega
  have e3 : (((x + v) / 2 % 2).toNat : Int) = (x + v) / 2 % 2 := by omega
  have e4 : (((x + v) / 8 % 2).toNat : Int) = (x + v) / 8 % 2 := by omega
  rw [e1, e2, e3, e4] at k
  have e5 : (((x + v) / 2 % 2).toNat = 0) = ((x + v) / 2 % 2 * 2 = 0) := propext (by omega)
  have e6 : ((if l = 0 then 0 else 1) = 0) = (l = 0) := propext (by split <;> simp_all)
  simp only [e5, e6] at k
  exact k
/-- the flags of a sum or a difference: r, half, over, what is left -/
theorem flags_all : (List.range 256).all (fun r => [0, 16].all fun h => [0, 4].all fun p => [0, 1].all fun c => decide (
    let F : Int := bitOr (bitOr (bitOr (szyxI (r : Nat)) h) p) c
    let G : Int := bitOr (bitOr (bitOr (bitOr (szyxI (r : Nat)) h) p) 2) c
    bitAnd F 16 = h ∧ bitAnd F 1 = c ∧ bitAnd F 2 = 0 ∧ bitAnd G 16 = h ∧ bitAnd G 1 = c ∧ bitAnd G 2 = 2 ∧ bitAnd G (bitOr (bitOr 128 64) 16) = tS (r : Nat) + tZ (r : Nat) + h)) = true := by decide +kernel
theorem flags_of {r h p c : Int} (h0 : 0 ≤ r) (h1 : r < 256) (hh : h = 0 ∨ h = 16) (hp : p = 0 ∨ p = 4) (hc : c = 0 ∨ c = 1) :
    bitAnd (bitOr (bitOr (bitOr (szyxI r) h) p) c) 16 = h ∧ bitAnd (bitOr (bitOr (bitOr (szyxI r) h) p) c) 1 = c ∧ bitAnd (bitOr (bitOr (bitOr (szyxI r) h) p) c) 2 = 0 ∧
    bitAnd (bitOr (bitOr (bitOr (bitOr (szyxI r) h) p) 2) c) 16 = h ∧ bitAnd (bitOr (bitOr (bitOr (bitOr (szyxI r) h) p) 2) c) 1 = c ∧ bitAnd (bitOr (bitOr (bitOr (bitOr (szyxI r) h) p) 2) c) 2 = 2 ∧
    bitAnd (bitOr (bitOr (bitOr (bitOr (szyxI r) h) p) 2) c) (bitOr (bitOr 128 64) 16) = tS r + tZ r + h := by
  have k := all_nat (k := 256) (p := fun r => [0, 16].all fun h => [0, 4].all fun p => [0, 1].all fun c => decide (
    let F : Int := bitOr (bitOr (bitOr (szyxI r) h) p) c
    let G : Int := bitOr (bitOr (bitOr (bitOr (szyxI r) h) p) 2) c
    bitAnd F 16 = h ∧ bitAnd F 1 = c ∧ bitAnd F 2 = 0 ∧ bitAnd G 16 = h ∧ bitAnd G 1 = c ∧ bitAnd G 2 = 2 ∧ bitAnd G (bitOr (bitOr 128 64) 16) = tS r + tZ r + h)) flags_all h0 h1
  have k1 := List.all_eq_true.mp k h (by rcases hh with rfl | rfl <;> simp)
  have k2 := List.all_eq_true.mp k1 p (by rcases hp with rfl | rfl <;> simp)
  have k3 := List.all_eq_true.mp k2 c (by rcases hc with rfl | rfl <;> simp)
  exact of_decide_eq_true k3
def halfS (x y c : Int) : Int := if x % 16 - y % 16 - c < 0 then 1 else 0
def halfA (x y c : Int) : Int := if x % 16 + y % 16 + c < 16 then 0 else 1
theorem subF_bits {x y c : Int} (hx0 : 0 ≤ x) (hx1 : x < 256) (hy0 : 0 ≤ y) (hy1 : y < 256) (hc0 : 0 ≤ c) (hc1 : c < 2) :
    subR x y c = (x - y - c) % 256 ∧ bitAnd (subF x y c) 16 = 16 * halfS x y c ∧ bitAnd (subF x y c) 1 = (if x - y - c < 0 then 1 else 0) ∧ bitAnd (subF x y c) 2 = 2 ∧ bitAnd (subF x y c) (bitOr (bitOr 128 64) 16) = tS (subR x y c) + tZ (subR x y c) + 16 * halfS x y c := by
  have hr : subR x y c = (x - y - c) % 256 := and255 _
  have hh : bitAnd (bitXor (bitXor x y) (subR x y c)) 16 = 16 * halfS x y c := by
    rw [xor3_16, hr, halfS]
    split <;> omega
  have k := flags_of (r := subR x y c) (h := bitAnd (bitXor (bitXor x y) (subR x y c)) 16) (p := if bitAnd (bitAnd (bitXor x y) (bitXor x (subR x y c))) 128 = 0 then 0 else 4) (c := if x - y - c < 0 then 1 else 0)
    (by rw [hr]; omega) (by rw [hr]; omega) (by rw [hh, halfS]; split <;> omega) (by split <;> omega) (by split <;> omega)
  refine ⟨hr, ?_, k.2.2.2.2.1, k.2.2.2.2.2.1, ?_⟩
  · rw [← hh]; exact k.2.2.2.1
  · rw [← hh]; exact k.2.2.2.2.2.2
theorem addF_bits {x y c : Int} (hx0 : 0 ≤ x) (hx1 : x < 256) (hy0 : 0 ≤ y) (hy1 : y < 256) (hc0 : 0 ≤ c) (hc1 : c < 2) :
    addR x y c = (x + y + c) % 256 ∧ bitAnd (addF x y c) 16 = 16 * halfA x y c ∧ bitAnd (addF x y c) 1 = (x + y + c) / 256 ∧ bitAnd (addF x y c) 2 = 0 := by
  have hr : addR x y c = (x + y + c) % 256 := and255 _
  have hh : bitAnd (bitXor (bitXor x y) (addR x y c)) 16 = 16 * halfA x y c := by
    rw [xor3_16, hr, halfA]
    split <;> omega
  have hw : (x + y + c).fdiv (2 ^ Int.toNat 8) = (x + y + c) / 256 := fdp _ (by decide)
  have k := flags_of (r := addR x y c) (h := bitAnd (bitXor (bitXor x y) (addR x y c)) 16) (p := if bitAnd (bitAnd (bitXor x (addR x y c)) (bitXor y (addR x y c))) 128 = 0 then 0 else 4) (c := (x + y + c).fdiv (2 ^ Int.toNat 8))
    (by rw [hr]; omega) (by rw [hr]; omega) (by rw [hh, halfA]; split <;> omega) (by split <;> omega) (by rw [hw]; omega)
  refine ⟨hr, ?_, ?_, k.2.2.1⟩
  · rw [← hh]; exact k.1
  · rw [← hw]; exact k.2.1
set_option synthInstance.maxSize 2000 in
set_option synthInstance.maxHeartbeats 400000 in
theorem seek_or : ∀ a < 4, ∀ h < 2, ∀ y < 2, ∀ x < 2, ∀ l < 2, ∀ c < 2, bitOr (bitOr (bitOr (bitOr (bitOr (64 * ((a : Nat) : Int) + 16 * ((h : Nat) : Int)) (if (y : Nat) = 0 then 0 else 32)) (((x : Nat) : Int) * 8)) (if (l : Nat) = 0 then 0 else 4)) 2) ((c : Nat) : Int) = 64 * (a : Int) + 16 * (h : Int) + (y : Int) * 32 + (x : Int) * 8 + (if l = 0 then 0 else 4) + 2 + (c : Int) := by decide +kernel
theorem seek_told {x v : Int} (l f : Int) (hx0 : 0 ≤ x) (hx1 : x < 256) (hv0 : 0 ≤ v) (hv1 : v < 256) : seekF x v l f = tS ((x - v) % 256) + (tZ ((x - v) % 256) + (f.fmod 2 + 0)) + halfS x v 0 * 16 + 2 + (if l = 0 then 0 else 4) + ((x - v - halfS x v 0) % 256 / 2) % 2 * 32 + ((x - v - halfS x v 0) % 256 / 8) % 2 * 8 := by
  have k := subF_bits hx0 hx1 hv0 hv1 (Int.le_refl 0) (by decide)
  have hr : subR x v 0 = (x - v) % 256 := by rw [k.1]; omega
  have hH : halfS x v 0 = 0 ∨ halfS x v 0 = 1 := by unfold halfS; split <;> omega
  have hT : seekT x v = (x - v) % 256 - halfS x v 0 := by
    rw [seekT, k.2.1, hr]
    split <;> omega
  rw [seekF, k.2.2.2.2, hT, hr, and2, and8, and1]
  generalize halfS x v 0 = H at hH
  have h2 : (x - v - H) % 256 / 2 % 2 = ((x - v) % 256 - H) / 2 % 2 := by omega
  have h8 : (x - v - H) % 256 / 8 % 2 = ((x - v) % 256 - H) / 8 % 2 := by omega
  rw [h2, h8]
  have hb : 0 ≤ (x - v) % 256 ∧ (x - v) % 256 < 256 := by omega
  clear h2 h8 hT hr k hx0 hx1 hv0 hv1
  generalize (x - v) % 256 = T at *
  have eZ : tZ (T) = 0 ∨ tZ (T) = 64 := by
    unfold tZ
    split <;> omega
  have eS : tS (T) = T / 128 * 128 := by unfold tS; rw [(fd (T)).2.2.2.2.2.2.1]
  generalize tZ (T) = Z at eZ
  generalize tS (T) = S at eS
  have hS : S = 0 ∨ S = 128 := by omega
  clear eS
  have hs : ((S / 64 + Z / 64).toNat : Int) = S / 64 + Z / 64 := by omega
  have hs2 : (H.toNat : Int) = H := by omega
  have q := seek_or (S / 64 + Z / 64).toNat (by omega) H.toNat (by omega) ((T - H) / 2 % 2).toNat (by omega) ((T - H) / 8 % 2).toNat (by omega) (if l = 0 then 0 else 1) (by split <;> decide) (f % 2).toNat (by omega)
  have e4 : (((T - H) / 2 % 2).toNat : Int) = (T - H) / 2 % 2 := by omega
  have e5 : (((T - H) / 8 % 2).toNat : Int) = (T - H) / 8 % 2 := by omega
  have e6 : ((f % 2).toNat : Int) = f % 2 := by omega
  have e7 : (((T - H) / 2 % 2).toNat = 0) = ((T - H) / 2 % 2 * 2 = 0) := propext (by omega)
  have e8 : ((if l = 0 then 0 else 1) = 0) = (l = 0) := propext (by split <;> simp_all)
  rw [hs, hs2, e4, e5, e6] at q
  simp only [e7, e8] at q
  have e9 : 64 * (S / 64 + Z / 64) + 16 * H = S + Z + 16 * H := by omega
  rw [e9] at q
  rw [(fd f).2.2.2.2.2.2.2.1, q]
  omega
theorem load_all : (List.range 256).all (fun v => [0, 1].all fun i => [0, 1].all fun c => decide (bitOr (bitOr (szyxI (v : Nat)) (if (i : Int) = 0 then 0 else 4)) c = tS (v : Nat) + (tZ (v : Nat) + (tYX (v : Nat) + (c + 0))) + 4 * i)) = true := by decide +kernel
theorem load_told {v i : Int} (f : Int) (h0 : 0 ≤ v) (h1 : v < 256) (hi0 : 0 ≤ i) (hi1 : i < 2) : bitOr (bitOr (szyxI v) (if i = 0 then 0 else 4)) (bitAnd f 1) = tS v + (tZ v + (tYX v + (f.fmod 2 + 0))) + 4 * i := by
  have k := all_nat (k := 256) (p := fun v => [0, 1].all fun i => [0, 1].all fun c => decide (bitOr (bitOr (szyxI v) (if (i : Int) = 0 then 0 else 4)) c = tS v + (tZ v + (tYX v + (c + 0))) + 4 * i)) load_all h0 h1
  have m := m2_range f
  have k1 := List.all_eq_true.mp k i (by have : i = 0 ∨ i = 1 := by omega
                                         rcases this with rfl | rfl <;> simp)
  have k2 := List.all_eq_true.mp k1 (f.fmod 2) (by have : f.fmod 2 = 0 ∨ f.fmod 2 = 1 := by omega
                                                   rcases this with e | e <;> simp [e])
  rw [and1]
  exact of_decide_eq_true k2
end
/-! PL3 -/
section
theorem daa_all : (List.range 256).all (fun r => [0, 16].all fun h => [0, 2].all fun n => [0, 1].all fun c => decide (
    let F : Int := bitOr (bitOr (bitOr (bitOr (szyxI (r : Nat)) (parityI (r : Nat))) h) n) c
    F.fmod 2 = c ∧ (F.fdiv 2).fmod 2 * 2 = n ∧ (F.fdiv 64).fmod 2 = (if (((r : Nat) : Int) == 0) = true then 1 else 0) ∧ F.fdiv 128 = ((r : Nat) : Int).fdiv 128)) = true := by decide +kernel
theorem daa_flags {r h n c : Int} (h0 : 0 ≤ r) (h1 : r < 256) (hh : h = 0 ∨ h = 16) (hn : n = 0 ∨ n = 2) (hc : c = 0 ∨ c = 1) :
    let F : Int := bitOr (bitOr (bitOr (bitOr (szyxI r) (parityI r)) h) n) c
    F.fmod 2 = c ∧ (F.fdiv 2).fmod 2 * 2 = n ∧ (F.fdiv 64).fmod 2 = (if (r == 0) = true then 1 else 0) ∧ F.fdiv 128 = r.fdiv 128 := by
  have k := all_nat (k := 256) (p := fun r => [0, 16].all fun h => [0, 2].all fun n => [0, 1].all fun c => decide (
    let F : Int := bitOr (bitOr (bitOr (bitOr (szyxI r) (parityI r)) h) n) c
    F.fmod 2 = c ∧ (F.fdiv 2).fmod 2 * 2 = n ∧ (F.fdiv 64).fmod 2 = (if (r == 0) = true then 1 else 0) ∧ F.fdiv 128 = r.fdiv 128)) daa_all h0 h1
  have k1 := List.all_eq_true.mp k h (by rcases hh with rfl | rfl <;> simp)
  have k2 := List.all_eq_true.mp k1 n (by rcases hn with rfl | rfl <;> simp)
  have k3 := List.all_eq_true.mp k2 c (by rcases hc with rfl | rfl <;> simp)
  exact of_decide_eq_true k3
def wayI (a H K : Int) : Int := (if H = 1 ∨ a % 16 > 9 then 6 else 0) + (if K = 1 ∨ a > 153 then 96 else 0)
theorem way_told {a f H K : Int} (h16 : bitAnd f 16 = 16 * H) (hH : H = 0 ∨ H = 1) (h1 : bitAnd f 1 = K) (hK : K = 0 ∨ K = 1) : daaWay a f = wayI a H K := by
  unfold daaWay wayI
  rw [h16, h1, and15, fmp _ (show (0 : Int) ≤ 16 by decide)]
  rcases hH with rfl | rfl <;> rcases hK with rfl | rfl <;> by_cases hl : a % 16 > 9 <;> by_cases ha : a > 153 <;> simp [hl, ha]
def keepI (a K : Int) : Int := if K = 1 ∨ a > 153 then 1 else 0
theorem keep_told {a f K : Int} (h1 : bitAnd f 1 = K) (hK : K = 0 ∨ K = 1) : (if bitAnd f 1 = 0 then (if a > 153 then 1 else bitAnd f 1) else 1) = keepI a K := by
  unfold keepI
  rw [h1]
  rcases hK with rfl | rfl <;> by_cases ha : a > 153 <;> simp [ha]
def Dg (x : Int) : Prop := 0 ≤ x ∧ x % 16 ≤ 9 ∧ x < 160
def StepA (x y c r f : Int) : Prop := 0 ≤ r ∧ r % 16 ≤ 9 ∧ r < 160 ∧ 0 ≤ f.fmod 2 ∧ f.fmod 2 < 2 ∧ r / 16 * 10 + r % 16 + 100 * f.fmod 2 = (x / 16 * 10 + x % 16) + (y / 16 * 10 + y % 16) + c ∧ (f.fdiv 2).fmod 2 = 0 ∧ (f.fdiv 64).fmod 2 = (if (r == 0) = true then 1 else 0) ∧ f.fdiv 128 = r.fdiv 128
def StepS (x y c r f : Int) : Prop := 0 ≤ r ∧ r % 16 ≤ 9 ∧ r < 160 ∧ 0 ≤ f.fmod 2 ∧ f.fmod 2 < 2 ∧ r / 16 * 10 + r % 16 - 100 * f.fmod 2 = (x / 16 * 10 + x % 16) - (y / 16 * 10 + y % 16) - c ∧ (f.fdiv 2).fmod 2 = 1 ∧ (f.fdiv 64).fmod 2 = (if (r == 0) = true then 1 else 0) ∧ f.fdiv 128 = r.fdiv 128
def BcdA (r k v : Int) : Bool := decide (r % 16 ≤ 9) && (decide (r < 160) && (decide (0 ≤ k) && (decide (k < 2) && decide (r / 16 * 10 + r % 16 + 100 * k = v))))
def BcdS (r k v : Int) : Bool := decide (r % 16 ≤ 9) && (decide (r < 160) && (decide (0 ≤ k) && (decide (k < 2) && decide (r / 16 * 10 + r % 16 - 100 * k = v))))
theorem addCore : ∀ l < 20, ∀ t < 19, (0 : Int) ≤ ((16 * ((t : Nat) : Int) + ((l : Nat) : Int)) % 256 + wayI ((16 * ((t : Nat) : Int) + ((l : Nat) : Int)) % 256) (if ((l : Nat) : Int) < 16 then 0 else 1) ((16 * ((t : Nat) : Int) + ((l : Nat) : Int)) / 256)) % 256 ∧
    BcdA (((16 * ((t : Nat) : Int) + ((l : Nat) : Int)) % 256 + wayI ((16 * ((t : Nat) : Int) + ((l : Nat) : Int)) % 256) (if ((l : Nat) : Int) < 16 then 0 else 1) ((16 * ((t : Nat) : Int) + ((l : Nat) : Int)) / 256)) % 256) (keepI ((16 * ((t : Nat) : Int) + ((l : Nat) : Int)) % 256) ((16 * ((t : Nat) : Int) + ((l : Nat) : Int)) / 256)) (10 * ((t : Nat) : Int) + ((l : Nat) : Int)) = true := by decide +kernel
theorem subCore : ∀ l < 20, ∀ t < 19, (0 : Int) ≤ ((16 * (((t : Nat) : Int) - 9) + (((l : Nat) : Int) - 10)) % 256 - wayI ((16 * (((t : Nat) : Int) - 9) + (((l : Nat) : Int) - 10)) % 256) (if ((l : Nat) : Int) - 10 < 0 then 1 else 0) (if 16 * (((t : Nat) : Int) - 9) + (((l : Nat) : Int) - 10) < 0 then 1 else 0)) % 256 ∧
    BcdS (((16 * (((t : Nat) : Int) - 9) + (((l : Nat) : Int) - 10)) % 256 - wayI ((16 * (((t : Nat) : Int) - 9) + (((l : Nat) : Int) - 10)) % 256) (if ((l : Nat) : Int) - 10 < 0 then 1 else 0) (if 16 * (((t : Nat) : Int) - 9) + (((l : Nat) : Int) - 10) < 0 then 1 else 0)) % 256) (keepI ((16 * (((t : Nat) : Int) - 9) + (((l : Nat) : Int) - 10)) % 256) (if 16 * (((t : Nat) : Int) - 9) + (((l : Nat) : Int) - 10) < 0 then 1 else 0)) (10 * (((t : Nat) : Int) - 9) + (((l : Nat) : Int) - 10)) = true := by decide +kernel
theorem add_step {x y c : Int} (hx0 : 0 ≤ x) (hx1 : x % 16 ≤ 9) (hx2 : x < 160) (hy0 : 0 ≤ y) (hy1 : y % 16 ≤ 9) (hy2 : y < 160) (hc0 : 0 ≤ c) (hc1 : c < 2) :
    StepA x y c (daaR (addR x y c) (addF x y c)) (daaF (addR x y c) (addF x y c)) := by
  have k := addF_bits hx0 (by omega) hy0 (by omega) hc0 hc1
  have hH : halfA x y c = 0 ∨ halfA x y c = 1 := by unfold halfA; split <;> omega
  have hK : (x + y + c) / 256 = 0 ∨ (x + y + c) / 256 = 1 := by omega
  have hR : daaR (addR x y c) (addF x y c) = ((x + y + c) % 256 + wayI ((x + y + c) % 256) (halfA x y c) ((x + y + c) / 256)) % 256 := by
    unfold daaR
    rw [k.2.2.2, if_pos rfl, and255, way_told k.2.1 hH k.2.2.1 hK, k.1]
  have hF := daa_flags (r := daaR (addR x y c) (addF x y c)) (h := if bitAnd (addF x y c) 2 = 0 then (if bitAnd (addR x y c) 15 > 9 then 16 else 0) else (if bitAnd (addF x y c) 16 = 0 then 0 else (if bitAnd (addR x y c) 15 < 6 then 16 else 0))) (n := bitAnd (addF x y c) 2) (c := keepI (addR x y c) ((x + y + c) / 256))
    (by rw [hR]; omega) (by rw [hR]; omega) (by rw [k.2.2.2, if_pos rfl]; split <;> omega) (by rw [k.2.2.2]; omega) (by unfold keepI; split <;> omega)
  rw [← keep_told k.2.2.1 hK] at hF
  have e : daaF (addR x y c) (addF x y c) = bitOr (bitOr (bitOr (bitOr (szyxI (daaR (addR x y c) (addF x y c))) (parityI (daaR (addR x y c) (addF x y c)))) (if bitAnd (addF x y c) 2 = 0 then (if bitAnd (addR x y c) 15 > 9 then 16 else 0) else (if bitAnd (addF x y c) 16 = 0 then 0 else (if bitAnd (addR x y c) 15 < 6 then 16 else 0)))) (bitAnd (addF x y c) 2)) (if bitAnd (addF x y c) 1 = 0 then (if addR x y c > 153 then 1 else bitAnd (addF x y c) 1) else 1) := rfl
  rw [← e] at hF
  obtain ⟨f1, f2, f3, f4⟩ := hF
  have kk : keepI (addR x y c) ((x + y + c) / 256) = keepI ((x + y + c) % 256) ((x + y + c) / 256) := by rw [k.1]
  rw [keep_told k.2.2.1 hK, kk] at f1
  rw [k.2.2.2] at f2
  unfold StepA
  have f2' : ((daaF (addR x y c) (addF x y c)).fdiv 2).fmod 2 = 0 := by omega
  have q := addCore (x % 16 + y % 16 + c).toNat (by omega) (x / 16 + y / 16).toNat (by omega)
  have e1 : ((x % 16 + y % 16 + c).toNat : Int) = x % 16 + y % 16 + c := by omega
  have e2 : ((x / 16 + y / 16).toNat : Int) = x / 16 + y / 16 := by omega
  have e3 : 16 * (x / 16 + y / 16) + (x % 16 + y % 16 + c) = x + y + c := by omega
  have e4 : 10 * (x / 16 + y / 16) + (x % 16 + y % 16 + c) = (x / 16 * 10 + x % 16) + (y / 16 * 10 + y % 16) + c := by omega
  rw [e1, e2, e3, e4] at q
  have q2 := q.2
  unfold BcdA at q2
  simp only [Bool.and_eq_true, decide_eq_true_eq] at q2
  change daaR (addR x y c) (addF x y c) = _ at hR
  rw [hR, f1]
  exact ⟨q.1, q2.1, q2.2.1, q2.2.2.1, q2.2.2.2.1, q2.2.2.2.2, f2', by rw [← hR]; exact f3, by rw [← hR]; exact f4⟩
theorem sub_step {x y c : Int} (hx0 : 0 ≤ x) (hx1 : x % 16 ≤ 9) (hx2 : x < 160) (hy0 : 0 ≤ y) (hy1 : y % 16 ≤ 9) (hy2 : y < 160) (hc0 : 0 ≤ c) (hc1 : c < 2) :
    StepS x y c (daaR (subR x y c) (subF x y c)) (daaF (subR x y c) (subF x y c)) := by
  have k := subF_bits hx0 (by omega) hy0 (by omega) hc0 hc1
  have hH : halfS x y c = 0 ∨ halfS x y c = 1 := by unfold halfS; split <;> omega
  have hK : (if x - y - c < 0 then 1 else 0 : Int) = 0 ∨ (if x - y - c < 0 then 1 else 0 : Int) = 1 := by split <;> omega
  have hR : daaR (subR x y c) (subF x y c) = ((x - y - c) % 256 - wayI ((x - y - c) % 256) (halfS x y c) (if x - y - c < 0 then 1 else 0)) % 256 := by
    unfold daaR
    rw [k.2.2.2.1, if_neg (by decide), and255, way_told k.2.1 hH k.2.2.1 hK, k.1]
  have hF := daa_flags (r := daaR (subR x y c) (subF x y c)) (h := if bitAnd (subF x y c) 2 = 0 then (if bitAnd (subR x y c) 15 > 9 then 16 else 0) else (if bitAnd (subF x y c) 16 = 0 then 0 else (if bitAnd (subR x y c) 15 < 6 then 16 else 0))) (n := bitAnd (subF x y c) 2) (c := keepI (subR x y c) (if x - y - c < 0 then 1 else 0))
    (by rw [hR]; omega) (by rw [hR]; omega) (by rw [k.2.2.2.1, if_neg (by decide)]; (repeat' split) <;> omega) (by rw [k.2.2.2.1]; omega) (by unfold keepI; (repeat' split) <;> omega)
  rw [← keep_told k.2.2.1 hK] at hF
  have e : daaF (subR x y c) (subF x y c) = bitOr (bitOr (bitOr (bitOr (szyxI (daaR (subR x y c) (subF x y c))) (parityI (daaR (subR x y c) (subF x y c)))) (if bitAnd (subF x y c) 2 = 0 then (if bitAnd (subR x y c) 15 > 9 then 16 else 0) else (if bitAnd (subF x y c) 16 = 0 then 0 else (if bitAnd (subR x y c) 15 < 6 then 16 else 0)))) (bitAnd (subF x y c) 2)) (if bitAnd (subF x y c) 1 = 0 then (if subR x y c > 153 then 1 else bitAnd (subF x y c) 1) else 1) := rfl
  rw [← e] at hF
  obtain ⟨f1, f2, f3, f4⟩ := hF
  have kk : keepI (subR x y c) (if x - y - c < 0 then 1 else 0) = keepI ((x - y - c) % 256) (if x - y - c < 0 then 1 else 0) := by rw [k.1]
  rw [keep_told k.2.2.1 hK, kk] at f1
  rw [k.2.2.2.1] at f2
  unfold StepS
  have f2' : ((daaF (subR x y c) (subF x y c)).fdiv 2).fmod 2 = 1 := by omega
  have q := subCore (x % 16 - y % 16 - c + 10).toNat (by omega) (x / 16 - y / 16 + 9).toNat (by omega)
  have e1 : ((x % 16 - y % 16 - c + 10).toNat : Int) - 10 = x % 16 - y % 16 - c := by omega
  have e2 : ((x / 16 - y / 16 + 9).toNat : Int) - 9 = x / 16 - y / 16 := by omega
  have e3 : 16 * (x / 16 - y / 16) + (x % 16 - y % 16 - c) = x - y - c := by omega
  have e4 : 10 * (x / 16 - y / 16) + (x % 16 - y % 16 - c) = (x / 16 * 10 + x % 16) - (y / 16 * 10 + y % 16) - c := by omega
  rw [e1, e2, e3, e4] at q
  have q2 := q.2
  unfold BcdS at q2
  simp only [Bool.and_eq_true, decide_eq_true_eq] at q2
  change daaR (subR x y c) (subF x y c) = _ at hR
  rw [hR, f1]
  exact ⟨q.1, q2.1, q2.2.1, q2.2.2.1, q2.2.2.2.1, q2.2.2.2.2, f2', by rw [← hR]; exact f3, by rw [← hR]; exact f4⟩
end
/-! PL5 -/
section
theorem bcd_inj {r z : Int} (r0 : 0 ≤ r) (r1 : r % 16 ≤ 9) (r2 : r < 160) (z0 : 0 ≤ z) (z1 : z % 16 ≤ 9) (z2 : z < 160) (e : r / 16 * 10 + r % 16 = z / 16 * 10 + z % 16) : r = z := by omega
theorem bcd_rng {r : Int} (h : Dg r) : 0 ≤ r / 16 * 10 + r % 16 ∧ r / 16 * 10 + r % 16 < 100 := by
  obtain ⟨a, b, c⟩ := h
  omega
def rowI (n : Int) (p : Nat) : Int := (n.fdiv (100 ^ p)).fmod 10 + ((n.fdiv (100 ^ p)).fdiv 10).fmod 10 * 16
theorem row_facts (n : Int) (p : Nat) : Dg (rowI n p) ∧ rowI n p / 16 * 10 + rowI n p % 16 = n / 100 ^ p % 100 := by
  unfold rowI Dg
  rw [fdp n (Int.pow_nonneg (by decide)), fmp _ (show (0 : Int) ≤ 10 by decide), fdp _ (show (0 : Int) ≤ 10 by decide), fmp _ (show (0 : Int) ≤ 10 by decide)]
  generalize n / 100 ^ p = z
  omega
def valL : List Int → Int
  | [] => 0
  | x :: r => (x / 16 * 10 + x % 16) + 100 * valL r
def rowL (n : Int) (k : Nat) : List Int := List.map (fun k : Int => rowI n k.toNat) (rangeKs 0 k)
theorem pow_s (k : Nat) : (100 : Int) ^ (k + 1) = 100 * 100 ^ k := by rw [Int.pow_succ]; omega
theorem pow_p (k : Nat) : (0 : Int) < 100 ^ k := Int.pow_pos (by decide)
theorem rowI_s (n : Int) (p : Nat) : rowI n (p + 1) = rowI (n / 100) p := by
  unfold rowI
  rw [fdp n (Int.pow_nonneg (by decide)), fdp (n / 100) (Int.pow_nonneg (by decide)), pow_s, Int.ediv_ediv_of_nonneg (by decide)]
theorem rowL_s (n : Int) (k : Nat) : rowL n (k + 1) = rowI n 0 :: rowL (n / 100) k := by
  unfold rowL rangeKs
  rw [List.range_succ_eq_map]
  simp only [List.map_cons, List.map_map]
  congr 1
  refine List.map_congr_left fun i _ => ?_
  simp only [Function.comp]
  have e1 : ((0 : Int) + ((i.succ : Nat) : Int)).toNat = i + 1 := by omega
  have e2 : ((0 : Int) + (i : Int)).toNat = i := by omega
  rw [e1, e2, rowI_s]
theorem rowL_len (n : Int) (k : Nat) : (rowL n k).length = k := by
  unfold rowL
  rw [List.length_map, rangeKs_length]
theorem rowL_dg (n : Int) (k : Nat) : ∀ x ∈ rowL n k, Dg x := by
  intro x hx
  unfold rowL at hx
  obtain ⟨i, _, rfl⟩ := List.mem_map.mp hx
  exact (row_facts n _).1
theorem valL_row : ∀ (k : Nat) (a : Int), 0 ≤ a → a < 100 ^ k → valL (rowL a k) = a
  | 0, a, h0, h1 => by
    have : a = 0 := by simp at h1; omega
    subst this
    rfl
  | k + 1, a, h0, h1 => by
    rw [pow_s] at h1
    rw [rowL_s]
    show (rowI a 0 / 16 * 10 + rowI a 0 % 16) + 100 * valL (rowL (a / 100) k) = a
    rw [(row_facts a 0).2, valL_row k (a / 100) (by omega) (by omega), Int.pow_zero]
    omega
theorem valL_rng : ∀ (l : List Int), (∀ x ∈ l, Dg x) → 0 ≤ valL l ∧ valL l < 100 ^ l.length
  | [], _ => by simp [valL]
  | x :: r, h => by
    have k := valL_rng r fun y hy => h y (.tail _ hy)
    have d := bcd_rng (h x (.head _))
    rw [List.length_cons, pow_s]
    show 0 ≤ (x / 16 * 10 + x % 16) + 100 * valL r ∧ (x / 16 * 10 + x % 16) + 100 * valL r < 100 * 100 ^ r.length
    omega
theorem row_val : ∀ (l : List Int), (∀ x ∈ l, Dg x) → rowL (valL l) l.length = l
  | [], _ => rfl
  | x :: r, h => by
    have k := row_val r fun y hy => h y (.tail _ hy)
    have hx := h x (.head _)
    have d := bcd_rng hx
    rw [List.length_cons, rowL_s]
    have e1 : valL (x :: r) / 100 = valL r := by
      show ((x / 16 * 10 + x % 16) + 100 * valL r) / 100 = valL r
      omega
    have f := row_facts (valL (x :: r)) 0
    rw [Int.pow_zero] at f
    have e2 : valL (x :: r) / 1 % 100 = x / 16 * 10 + x % 16 := by
      show ((x / 16 * 10 + x % 16) + 100 * valL r) / 1 % 100 = x / 16 * 10 + x % 16
      omega
    have e3 : rowI (valL (x :: r)) 0 = x := bcd_inj f.1.1 f.1.2.1 f.1.2.2 hx.1 hx.2.1 hx.2.2 (f.2.trans e2)
    rw [e1, e3, k]
theorem valL_snoc : ∀ (l : List Int) (x : Int), valL (l ++ [x]) = valL l + 100 ^ l.length * (x / 16 * 10 + x % 16)
  | [], x => by
    show (x / 16 * 10 + x % 16) + 100 * 0 = 0 + 100 ^ 0 * (x / 16 * 10 + x % 16)
    rw [Int.pow_zero]; omega
  | y :: l, x => by
    show (y / 16 * 10 + y % 16) + 100 * valL (l ++ [x]) = ((y / 16 * 10 + y % 16) + 100 * valL l) + 100 ^ (l.length + 1) * (x / 16 * 10 + x % 16)
    rw [valL_snoc l x, pow_s, Int.mul_assoc]
    omega
def DecA (c0 : Int) (pa pb : List Int) (us : List Value) (c : Int) : Prop :=
  ∃ rs, IntsAre us rs ∧ rs.length = pa.length ∧ pb.length = pa.length ∧ (∀ r ∈ rs, Dg r) ∧ 0 ≤ c ∧ c < 2 ∧ valL rs + 100 ^ pa.length * c = valL pa + valL pb + c0
def DecS (c0 : Int) (pa pb : List Int) (us : List Value) (c : Int) : Prop :=
  ∃ rs, IntsAre us rs ∧ rs.length = pa.length ∧ pb.length = pa.length ∧ (∀ r ∈ rs, Dg r) ∧ 0 ≤ c ∧ c < 2 ∧ valL rs - 100 ^ pa.length * c = valL pa - valL pb - c0
theorem ints_len {us : List Value} {ns : List Int} (h : IntsAre us ns) : us.length = ns.length := by
  induction h with
  | nil => rfl
  | cons n t _ ih => rw [List.length_cons, List.length_cons, ih]
theorem ints_snoc {us : List Value} {ns : List Int} (h : IntsAre us ns) (r : Int) (t : Tok) : IntsAre (us ++ [.int r t]) (ns ++ [r]) := by
  induction h with
  | nil => exact .cons _ _ .nil
  | cons n t _ ih => exact .cons _ _ ih
theorem decA_nil {c : Int} (h0 : 0 ≤ c) (h1 : c < 2) : DecA c [] [] [] c := ⟨[], .nil, rfl, rfl, (fun _ h => nomatch h), h0, h1, by show (0 : Int) + 100 ^ 0 * c = 0 + 0 + c; rw [Int.pow_zero]; omega⟩
theorem decS_nil {c : Int} (h0 : 0 ≤ c) (h1 : c < 2) : DecS c [] [] [] c := ⟨[], .nil, rfl, rfl, (fun _ h => nomatch h), h0, h1, by show (0 : Int) - 100 ^ 0 * c = 0 - 0 - c; rw [Int.pow_zero]; omega⟩
theorem dg_snoc {rs : List Int} {r : Int} (h : ∀ r ∈ rs, Dg r) (h' : Dg r) : ∀ x ∈ rs ++ [r], Dg x := fun x hx => by
  rcases List.mem_append.mp hx with hx | hx
  · exact h x hx
  · rw [List.mem_singleton.mp hx]; exact h'
theorem decA_snoc {c0 c x y r k : Int} {t : Tok} {pa pb : List Int} {us : List Value} (h : DecA c0 pa pb us c) (r0 : 0 ≤ r) (r1 : r % 16 ≤ 9) (r2 : r < 160) (k0 : 0 ≤ k) (k1 : k < 2)
    (e : r / 16 * 10 + r % 16 + 100 * k = (x / 16 * 10 + x % 16) + (y / 16 * 10 + y % 16) + c) : DecA c0 (pa ++ [x]) (pb ++ [y]) (us ++ [.int r t]) k := by
  obtain ⟨rs, hi, hl, hm, hd, c0', c1', hv⟩ := h
  refine ⟨rs ++ [r], ints_snoc hi r t, by simp [hl], by simp [hm], dg_snoc hd ⟨r0, r1, r2⟩, k0, k1, ?_⟩
  rw [valL_snoc, valL_snoc, valL_snoc, hl, hm, List.length_append, List.length_singleton, pow_s, Int.mul_comm 100, Int.mul_assoc]
  have e' := congrArg (fun z => (100 : Int) ^ pa.length * z) e
  simp only [Int.mul_add] at e' ⊢
  omega
theorem decS_snoc {c0 c x y r k : Int} {t : Tok} {pa pb : List Int} {us : List Value} (h : DecS c0 pa pb us c) (r0 : 0 ≤ r) (r1 : r % 16 ≤ 9) (r2 : r < 160) (k0 : 0 ≤ k) (k1 : k < 2)
    (e : r / 16 * 10 + r % 16 - 100 * k = (x / 16 * 10 + x % 16) - (y / 16 * 10 + y % 16) - c) : DecS c0 (pa ++ [x]) (pb ++ [y]) (us ++ [.int r t]) k := by
  obtain ⟨rs, hi, hl, hm, hd, c0', c1', hv⟩ := h
  refine ⟨rs ++ [r], ints_snoc hi r t, by simp [hl], by simp [hm], dg_snoc hd ⟨r0, r1, r2⟩, k0, k1, ?_⟩
  rw [valL_snoc, valL_snoc, valL_snoc, hl, hm, List.length_append, List.length_singleton, pow_s, Int.mul_comm 100, Int.mul_assoc]
  have e' := congrArg (fun z => (100 : Int) ^ pa.length * z) e
  simp only [Int.mul_add, Int.mul_sub] at e' ⊢
  omega
theorem dec_fin {T S M : Int} (k : Int) (h : T = S + M * k) (h0 : 0 ≤ S) (h1 : S < M) : T % M = S := by
  rw [h, Int.add_mul_emod_self_left]
  exact Int.emod_eq_of_lt h0 h1
theorem decA_done {a b c0 c m : Int} {us : List Value} (h : DecA c0 (List.map (fun k : Int => rowI a k.toNat) (rangeKs 0 (m - 0).toNat)) (List.map (fun k : Int => rowI b k.toNat) (rangeKs 0 (m - 0).toNat)) us c)
    (a0 : 0 ≤ a) (a1 : a < 100 ^ m.toNat) (b0 : 0 ≤ b) (b1 : b < 100 ^ m.toNat) :
    ∃ rs, IntsAre us rs ∧ rs = List.map (fun k : Int => rowI ((a + b + c0).fmod (100 ^ m.toNat)) k.toNat) (rangeKs 0 (m - 0).toNat) ∧ c = (if 0 ≤ a + b + c0 ∧ a + b + c0 < 100 ^ m.toNat then 0 else 1) := by
  rw [Int.sub_zero] at *
  obtain ⟨rs, hi, hl, _, hd, k0, k1, hv⟩ := h
  change rs.length = (rowL a m.toNat).length at hl
  change valL rs + 100 ^ (rowL a m.toNat).length * c = valL (rowL a m.toNat) + valL (rowL b m.toNat) + c0 at hv
  rw [rowL_len] at hl hv
  rw [valL_row _ a a0 a1, valL_row _ b b0 b1] at hv
  have w := valL_rng rs hd
  rw [hl] at w
  have e := row_val rs hd
  rw [hl] at e
  rw [fmp _ (Int.le_of_lt (pow_p _)), dec_fin c hv.symm w.1 w.2]
  refine ⟨rs, hi, e.symm, ?_⟩
  have hc : c = 0 ∨ c = 1 := by omega
  generalize (100 : Int) ^ m.toNat = M at *
  rcases hc with rfl | rfl
  · rw [if_pos]; omega
  · rw [if_neg]; omega
theorem decS_done {a b c0 c m : Int} {us : List Value} (h : DecS c0 (List.map (fun k : Int => rowI a k.toNat) (rangeKs 0 (m - 0).toNat)) (List.map (fun k : Int => rowI b k.toNat) (rangeKs 0 (m - 0).toNat)) us c)
    (a0 : 0 ≤ a) (a1 : a < 100 ^ m.toNat) (b0 : 0 ≤ b) (b1 : b < 100 ^ m.toNat) :
    ∃ rs, IntsAre us rs ∧ rs = List.map (fun k : Int => rowI ((a - b - c0).fmod (100 ^ m.toNat)) k.toNat) (rangeKs 0 (m - 0).toNat) ∧ c = (if 0 ≤ a - b - c0 ∧ a - b - c0 < 100 ^ m.toNat then 0 else 1) := by
  rw [Int.sub_zero] at *
  obtain ⟨rs, hi, hl, _, hd, k0, k1, hv⟩ := h
  change rs.length = (rowL a m.toNat).length at hl
  change valL rs - 100 ^ (rowL a m.toNat).length * c = valL (rowL a m.toNat) - valL (rowL b m.toNat) - c0 at hv
  rw [rowL_len] at hl hv
  rw [valL_row _ a a0 a1, valL_row _ b b0 b1] at hv
  have w := valL_rng rs hd
  rw [hl] at w
  have e := row_val rs hd
  rw [hl] at e
  have hv' : a - b - c0 = valL rs + 100 ^ m.toNat * (-c) := by rw [Int.mul_neg]; omega
  rw [fmp _ (Int.le_of_lt (pow_p _)), dec_fin (-c) hv' w.1 w.2]
  refine ⟨rs, hi, e.symm, ?_⟩
  have hc : c = 0 ∨ c = 1 := by omega
  generalize (100 : Int) ^ m.toNat = M at *
  rcases hc with rfl | rfl
  · rw [if_pos]; omega
  · rw [if_neg]; omega
theorem finA {k T M : Int} (h0 : 0 ≤ T) (h : k = if 0 ≤ T ∧ T < M then 0 else 1) : (k == if (!decide (T < M)) = true then 1 else 0) = true := by
  subst h; by_cases h1 : T < M <;> simp [h0, h1]
theorem finN {k T M : Int} (h0 : ¬ 0 ≤ T) (h : k = if 0 ≤ T ∧ T < M then 0 else 1) : (k == if (!decide (0 ≤ T)) = true then 1 else 0) = true := by
  subst h; simp [h0]
theorem nonneg3 {a b c : Int} (h0 : 0 ≤ a) (h1 : 0 ≤ b) (h2 : 0 ≤ c) : 0 ≤ a + b + c := Int.add_nonneg (Int.add_nonneg h0 h1) h2
end
/-! ZP -/
section
abbrev ledZ (D : Addr) (rest : List (Addr × Obj)) (us : List Value) (n : Nat) : List (Addr × Obj) := (D, listOf us.toArray n) :: rest
/-- what a turn's end must bring -/
def ZFin (cn : Str) (stored : List Str) (m₀ : Str → Option Value) (h₀ : Heap) (L : Addr) (led : List Value → Nat → List (Addr × Obj)) (P : List Value → Int → Prop) (its : List (Addr × Obj)) (s₁ : Shared) (R : (Str → Option Value) → List (Addr × Obj) → Prop) : Prop :=
  ∀ us n c tc m' h' tk all, Fr h₀ L h' m' → News h₀ L h' all → (∀ p ∈ its, p ∈ all) → (∀ p ∈ led us n, p ∈ all) → m' cn = some (.int c tc) → (∀ z, z ≠ cn → stored.contains z = false → m' z = m₀ z) → P us c →
    UnrEndW h₀ L s₁ its R { s₁ with heap := h', toks := tk }
theorem ZFin.use {cn : Str} {stored : List Str} {m₀ : Str → Option Value} {h₀ : Heap} {L D : Addr} {rest : List (Addr × Obj)} {P : List Value → Int → Prop} {its : List (Addr × Obj)} {s₁ : Shared} {R : (Str → Option Value) → List (Addr × Obj) → Prop}
    {us : List Value} {n : Nat} {c : Int} {tc : Tok} {m' : Str → Option Value} {h' : Heap} {tk : Nat} {all : List (Addr × Obj)} (z : ZFin cn stored m₀ h₀ L (ledZ D rest) P its s₁ R) (F : Fr h₀ L h' m') (N : News h₀ L h' all) (hD : (D, listOf us.toArray n) ∈ all) (hi : ∀ p ∈ its, p ∈ all) (hl : ∀ p ∈ rest, p ∈ all) (hc : m' cn = some (.int c tc)) (hs : ∀ z, z ≠ cn → stored.contains z = false → m' z = m₀ z) (hp : P us c) :
    UnrEndW h₀ L s₁ its R { s₁ with heap := h', toks := tk } := z us n c tc m' h' tk all F N hi (fun p hp => by
  rcases List.mem_cons.mp hp with rfl | hp
  · exact hD
  · exact hl p hp) hc hs hp
section
variable {prog : Program} {w : World} {A : Around} {E : Value → Shared → Prop} {s : Shared} {env : Env} {h₀ : Heap} {body : List Stmt} {Q : Flow → Shared → Prop}
theorem fr_map {L : Addr} {h : Heap} {cn : Str} {stored : List Str} {m₀ m' : Str → Option Value} {c : Int} {tc : Tok} (F : Fr h₀ L h m') (hc : m' cn = some (.int c tc)) (hs : ∀ z, z ≠ cn → stored.contains z = false → m' z = m₀ z) :
    Fr h₀ L h (fun y => if y = cn then some (.int c tc) else if stored.contains y then m' y else m₀ y) := by
  have e : (fun y => if y = cn then some (.int c tc) else if stored.contains y then m' y else m₀ y) = m' := by
    funext y
    by_cases hy : y = cn
    · rw [if_pos hy, hy, hc]
    · rw [if_neg hy]
      cases h3 : stored.contains y with
      | true => simp
      | false => simp only [Bool.false_eq_true, if_false]; exact (hs y hy h3).symm
  rw [e]; exact F
theorem zip_dec {elts : List Expr} {k : Nat} {pos : Pos} {l1 l2 D : Addr} {xs ys : List Value} {as bs : List Int} {m₀ : Str → Option Value} {news : List (Addr × Obj)} (rest : List (Addr × Obj)) {c0 : Int} {tc0 : Tok} {n0 : Nat} (cn : Str) (stored : List Str) (P : List Int → List Int → List Value → Int → Prop)
    (hh : A.handled = none) (F : Fr h₀ env.locals s.heap m₀) (N : News h₀ env.locals s.heap news) (h1 : (l1, LCg.lst xs) ∈ rest) (h2 : (l2, LCg.lst ys) ∈ rest) (hD : (D, listOf #[] n0) ∈ news) (hrest : ∀ p ∈ rest, p ∈ news)
    (hx : IntsAre xs as) (hy : IntsAre ys bs) (hlen : as.length = bs.length) (hK : as.length ≤ 4) (hdx : ∀ x ∈ as, Dg x) (hdy : ∀ y ∈ bs, Dg y) (hc : m₀ cn = some (.int c0 tc0)) (h0 : P [] [] [] c0)
    (hP : ∀ pa pb us c, P pa pb us c → us.length = pa.length ∧ 0 ≤ c ∧ c < 2)
    (turn : LaterT (∀ (I : Addr) (pa pb : List Int) (x y : Int) (us : List Value) (n : Nat) (c : Int) (tc : Tok) (u : Str → Option Value) (T : Addr) (tx ty : Tok) (h : Heap) (tk : Nat) (R : (Str → Option Value) → List (Addr × Obj) → Prop),
      AllLt I ((D, listOf #[] n0) :: rest) → us.length ≤ 4 → 0 ≤ c → c < 2 → 0 ≤ x → x % 16 ≤ 9 → x < 160 → 0 ≤ y → y % 16 ≤ 9 → y < 160 → P pa pb us c →
      IsTup h T #[.int x tx, .int y ty] → Fr h₀ env.locals h (fun z => if z = cn then some (.int c tc) else if stored.contains z then u z else m₀ z) →
      AllObj [(I + 4, "zip"), (I + 2, "tuple"), (I + 3, "tuple"), (I, "list_iterator"), (I + 1, "list_iterator")] (fun its =>
        ZFin cn stored m₀ h₀ env.locals (ledZ D rest) (P (pa ++ [x]) (pb ++ [y])) its { s with heap := h, toks := tk } R → News h₀ env.locals h (its ++ ledZ D rest us n) →
        wpAny (model prog w) A (assign (.Tuple elts k pos) env (.ref T)) (fun _ s₂ => wpAny (model prog w) A (execs body env) (UnrPostW h₀ env.locals { s with heap := h, toks := tk } its R Q) E s₂) E { s with heap := h, toks := tk })))
    (done : LaterD (∀ (us : List Value) (n : Nat) (c : Int) (tc : Tok) (u : Str → Option Value) (h : Heap) (tk : Nat), P as bs us c → Fr h₀ env.locals h (fun z => if z = cn then some (.int c tc) else if stored.contains z then u z else m₀ z) → News h₀ env.locals h (ledZ D rest us n) → Q .next { s with heap := h, toks := tk })) :
    wpAny (model prog w) A (call (.type "zip") [.ref l1, .ref l2]) (fun xv s₁ => wpAny (model prog w) A (pyIter xv) (fun it s₂ => TurnsAt prog w A h₀ env (.Tuple elts k pos) body Q E it s₂) E s₁) E s := by
  have hsub : ∀ p ∈ ledZ D rest [] n0, p ∈ news := by
    intro p hp
    rcases List.mem_cons.mp hp with rfl | hp
    · exact hD
    · exact hrest p hp
  have N' : News h₀ env.locals s.heap (ledZ D rest [] n0) := N.perm hsub
  refine ktu_zip (xs := xs) (ys := ys) (lo1 := LCg.lst xs) (lo2 := LCg.lst ys) (n1 := xs.length) (n2 := ys.length) hh F N' (.tail _ h1) rfl rfl (.tail _ h2) rfl rfl ?_
  intro I hI
  have hAll : AllLt I ((D, listOf #[] n0) :: rest) := allLt_of hI
  have hne : ∀ us n, ∀ p ∈ ledZ D rest us n, @LT.lt Nat _ p.1 I := by
    intro us n p hp
    rcases List.mem_cons.mp hp with rfl | hp
    · exact hI (D, listOf #[] n0) (.head _)
    · exact hI p (.tail _ hp)
  have go : ∀ (qx qy : List Value) (qa qb pa pb : List Int) (us : List Value) (n : Nat) (c : Int) (tc : Tok) (m : Str → Option Value), IntsAre qx qa → IntsAre qy qb → as = pa ++ qa → bs = pb ++ qb → qa.length = qb.length → P pa pb us c → m cn = some (.int c tc) → (∀ z, z ≠ cn → stored.contains z = false → m z = m₀ z) →
      ItemsRest prog w A E h₀ env (.Tuple elts k pos) body Q s [(I + 4, "zip"), (I + 2, "tuple"), (I + 3, "tuple"), (I, "list_iterator"), (I + 1, "list_iterator")] [(l1, LCg.lst xs), (l2, LCg.lst ys)] (zipItems qx qy) m (ledZ D rest us n) := by
    intro qx
    induction qx with
    | nil =>
      intro qy qa qb pa pb us n c tc m ha hb ea eb el hp hm hs
      cases ha
      cases hb with
      | cons => simp at el
      | nil =>
        rw [List.append_nil] at ea eb
        subst ea; subst eb
        exact ItemsRest.zero fun h tk F N => done us n c tc m h tk hp (fr_map F hm hs) N
    | cons v qx ih =>
      intro qy qa qb pa pb us n c tc m ha hb ea eb el hp hm hs
      cases ha with
      | cons x tx ha =>
        cases hb with
        | nil => simp at el
        | cons y ty hb =>
          rename_i qa' qy' qb'
          refine ItemsRest.pair fun T t h tk hT F => ?_
          have b := hP _ _ _ _ hp
          have hl : us.length ≤ 4 := by
            rw [b.1]; rw [ea, List.length_append] at hK; omega
          have dx := hdx x (by rw [ea]; simp)
          have dy := hdy y (by rw [eb]; simp)
          have t0 := fun R => turn I pa pb x y us n c tc m T tx ty h tk R hAll hl b.2.1 b.2.2 dx.1 dx.2.1 dx.2.2 dy.1 dy.2.1 dy.2.2 hp hT (fr_map F hm hs)
          refine AllObj.cons fun o1 k1 => AllObj.cons fun o2 k2 => AllObj.cons fun o3 k3 => AllObj.cons fun o4 k4 => AllObj.cons fun o5 k5 => AllObj.nil fun N => ?_
          refine t0 _ o1 k1 o2 k2 o3 k3 o4 k4 o5 k5 ?_ N
          intro us' n' c' tc' m' h' tk' all F' N' hi hl' hm' hs' hp'
          refine ⟨h', tk', m', ledZ D rest us' n', rfl, F', N'.perm fun p hp => ?_, fun p hp q hq => ?_, ⟨?_, ?_⟩⟩
          · rcases List.mem_append.mp hp with hp | hp
            · exact hi p hp
            · exact hl' p hp
          · have hp' := hne us' n' p hp
            have hq' : @LE.le Nat _ I q.1 := by
              simp only [List.mem_cons, List.not_mem_nil, or_false] at hq
              rcases hq with rfl | rfl | rfl | rfl | rfl
              · exact Nat.le_add_right _ _
              · exact Nat.le_add_right _ _
              · exact Nat.le_add_right _ _
              · exact Nat.le_refl _
              · exact Nat.le_add_right _ _
            exact Nat.ne_of_lt (Nat.lt_of_lt_of_le hp' hq')
          · exact ⟨.tail _ h1, .tail _ h2, trivial⟩
          · exact ih qy' qa' qb' (pa ++ [x]) (pb ++ [y]) us' n' c' tc' m' ha hb (by rw [ea]; simp) (by rw [eb]; simp) (by simpa using el) hp' hm' hs'
  exact go xs ys as bs [] [] [] n0 c0 tc0 m₀ hx hy rfl rfl hlen h0 hc fun _ _ _ => rfl
end
theorem decA_inv {c0 : Int} : ∀ pa pb us c, DecA c0 pa pb us c → us.length = pa.length ∧ 0 ≤ c ∧ c < 2 := by
  rintro pa pb us c ⟨rs, hi, hl, _, _, k0, k1, _⟩
  exact ⟨(ints_len hi).trans hl, k0, k1⟩
theorem decS_inv {c0 : Int} : ∀ pa pb us c, DecS c0 pa pb us c → us.length = pa.length ∧ 0 ≤ c ∧ c < 2 := by
  rintro pa pb us c ⟨rs, hi, hl, _, _, k0, k1, _⟩
  exact ⟨(ints_len hi).trans hl, k0, k1⟩
theorem row_dg (n : Int) (k : Nat) : ∀ x ∈ List.map (fun k : Int => rowI n k.toNat) (rangeKs 0 k), Dg x := rowL_dg n k
inductive OffK (D : Addr) : List (Addr × Obj) → List (Addr × Obj) → Prop
  | nil : OffK D [] []
  | keep {p r k} : p.1 ≠ D → OffK D r k → OffK D (p :: r) (p :: k)
  | skip {p r k} : OffK D r k → OffK D (p :: r) k
theorem OffK.all {D : Addr} {l k : List (Addr × Obj)} (h : OffK D l k) : (∀ p ∈ k, p ∈ l) ∧ ∀ p ∈ k, p.1 ≠ D := by
  induction h with
  | nil => exact ⟨fun p hp => hp, fun p hp => nomatch hp⟩
  | keep hne _ ih =>
    refine ⟨fun p hp => ?_, fun p hp => ?_⟩
    · rcases List.mem_cons.mp hp with rfl | hp
      · exact .head _
      · exact .tail _ (ih.1 p hp)
    · rcases List.mem_cons.mp hp with rfl | hp
      · exact hne
      · exact ih.2 p hp
  | skip _ ih => exact ⟨fun p hp => .tail _ (ih.1 p hp), ih.2⟩
def AppGo (D : Addr) (l : List (Addr × Obj)) (P : List (Addr × Obj) → Prop) : Prop := ∃ k, OffK D l k ∧ P k
theorem AppGo.nil {D : Addr} {P : List (Addr × Obj) → Prop} (h : P []) : AppGo D [] P := ⟨[], .nil, h⟩
theorem AppGo.skip {D : Addr} {p : Addr × Obj} {r : List (Addr × Obj)} {P : List (Addr × Obj) → Prop} (h : AppGo D r P) : AppGo D (p :: r) P := let ⟨k, a, b⟩ := h; ⟨k, .skip a, b⟩
theorem AppGo.keep {D : Addr} {p : Addr × Obj} {r : List (Addr × Obj)} {P : List (Addr × Obj) → Prop} (hp : p.1 ≠ D) (h : AppGo D r (fun k => P (p :: k))) : AppGo D (p :: r) P := let ⟨k, a, b⟩ := h; ⟨p :: k, .keep hp a, b⟩
theorem AppGo.skipT {D X : Addr} {dt : Data} {r : List (Addr × Obj)} {P : List (Addr × Obj) → Prop} (h : AppGo D r P) : AppGo D ((X, ({ cls := .type "tuple", data := dt } : Obj)) :: r) P := .skip h
theorem AppGo.skipD {D : Addr} {o : Obj} {r : List (Addr × Obj)} {P : List (Addr × Obj) → Prop} (h : AppGo D r P) : AppGo D ((D, o) :: r) P := .skip h
theorem AppGo.keepI {D i : Addr} {j : Nat} {o : Obj} {r : List (Addr × Obj)} {P : List (Addr × Obj) → Prop} (hi : @LT.lt Nat _ D i) (h : AppGo D r (fun k => P ((i + j, o) :: k))) : AppGo D ((i + j, o) :: r) P := .keep (Nat.ne_of_gt (Nat.lt_of_lt_of_le hi (Nat.le_add_right _ _))) h
theorem AppGo.keepI0 {D i : Addr} {o : Obj} {r : List (Addr × Obj)} {P : List (Addr × Obj) → Prop} (hi : @LT.lt Nat _ D i) (h : AppGo D r (fun k => P ((i, o) :: k))) : AppGo D ((i, o) :: r) P := .keep (Nat.ne_of_gt hi) h
theorem AppGo.keepB {D i : Addr} {o : Obj} {r : List (Addr × Obj)} {P : List (Addr × Obj) → Prop} (hi : @LT.lt Nat _ i D) (h : AppGo D r (fun k => P ((i, o) :: k))) : AppGo D ((i, o) :: r) P := .keep (Nat.ne_of_lt hi) h
theorem AppGo.keepN {D i : Addr} {o : Obj} {r : List (Addr × Obj)} {P : List (Addr × Obj) → Prop} (hi : @Ne Nat D i) (h : AppGo D r (fun k => P ((i, o) :: k))) : AppGo D ((i, o) :: r) P := .keep (Ne.symm hi) h
theorem app_led {prog : Program} {w : World} {A : Around} {E : Value → Shared → Prop} {s : Shared} {h₀ : Heap} {L D : Addr} {m : Str → Option Value} {its : Array Value} {n : Nat} {x : Value} {news : List (Addr × Obj)} {Q : Value → Shared → Prop} (F : Fr h₀ L s.heap m) (N : News h₀ L s.heap news) (hm : (D, listOf its n) ∈ news) (hsz : its.size ≤ sizeLine)
    (h : AppGo D news (fun keep => ∀ h', Fr h₀ L h' m → News h₀ L h' ((D, listOf (its.push x) (n + 1)) :: keep) → Q .none { s with heap := h' })) : wpAny (model prog w) A (call (.builtin "list.append") [.ref D, x]) Q E s := by
  obtain ⟨keep, ho, h⟩ := h
  have z := N _ hm
  refine append_at (hsz := hsz) z.1 fun h' hs' hD' => h h' (F.change hs' z.2.1 z.2.2) fun p hp => ?_
  rcases List.mem_cons.mp hp with rfl | hp
  · exact ⟨hD', z.2⟩
  · have q := N p (ho.all.1 p hp)
    exact ⟨hs'.extBut _ _ (ho.all.2 p hp) q.1, q.2⟩
theorem zip_goA {prog : Program} {w : World} {A : Around} {E : Value → Shared → Prop} {s : Shared} {env : Env} {h₀ : Heap} {body : List Stmt} {Q : Flow → Shared → Prop} {elts : List Expr} {k : Nat} {pos : Pos} {l1 l2 D : Addr} {xs ys : List Value} {a b many : Int} {m₀ : Str → Option Value} {news : List (Addr × Obj)} {c0 : Int} {tc0 : Tok} {n0 : Nat}
    (F : Fr h₀ env.locals s.heap m₀) (N : News h₀ env.locals s.heap news) (hs : m₀ (Str.ofString "is_sum") = some (.bool true)) (hf : m₀ (Str.ofString "found") = some (.ref D)) (hc : m₀ (Str.ofString "carry") = some (.int c0 tc0)) (hh : A.handled = none)
    (h1 : (l1, LCg.lst xs) ∈ news) (h2 : (l2, LCg.lst ys) ∈ news) (hD : (D, listOf #[] n0) ∈ news)
    (hx : IntsAre xs (List.map (fun k : Int => rowI a k.toNat) (rangeKs 0 (many - 0).toNat))) (hy : IntsAre ys (List.map (fun k : Int => rowI b k.toNat) (rangeKs 0 (many - 0).toNat))) (hm : many ≤ 4) (hc0 : 0 ≤ c0) (hc1 : c0 < 2)
    (a0 : 0 ≤ a) (a1 : a < 100 ^ many.toNat) (b0 : 0 ≤ b) (b1 : b < 100 ^ many.toNat)
    (go : AppGo D news (fun rest => ((l1, LCg.lst xs) ∈ rest ∧ (l2, LCg.lst ys) ∈ rest) ∧
      LaterT (∀ (I : Addr) (pa pb : List Int) (x y : Int) (us : List Value) (n : Nat) (c : Int) (tc : Tok) (u : Str → Option Value) (T : Addr) (tx ty : Tok) (h : Heap) (tk : Nat) (R : (Str → Option Value) → List (Addr × Obj) → Prop),
      AllLt I ((D, listOf #[] n0) :: rest) → us.length ≤ 4 → 0 ≤ c → c < 2 → 0 ≤ x → x % 16 ≤ 9 → x < 160 → 0 ≤ y → y % 16 ≤ 9 → y < 160 → DecA c0 pa pb us c →
      IsTup h T #[.int x tx, .int y ty] → Fr h₀ env.locals h (fun z => if z = Str.ofString "carry" then some (.int c tc) else if [Str.ofString "one", Str.ofString "other", Str.ofString "r", Str.ofString "f"].contains z then u z else m₀ z) →
      AllObj [(I + 4, "zip"), (I + 2, "tuple"), (I + 3, "tuple"), (I, "list_iterator"), (I + 1, "list_iterator")] (fun its =>
        ZFin (Str.ofString "carry") [Str.ofString "one", Str.ofString "other", Str.ofString "r", Str.ofString "f"] m₀ h₀ env.locals (ledZ D rest) (DecA c0 (pa ++ [x]) (pb ++ [y])) its { s with heap := h, toks := tk } R → News h₀ env.locals h (its ++ ledZ D rest us n) →
        wpAny (model prog w) A (assign (.Tuple elts k pos) env (.ref T)) (fun _ s₂ => wpAny (model prog w) A (execs body env) (UnrPostW h₀ env.locals { s with heap := h, toks := tk } its R Q) E s₂) E { s with heap := h, toks := tk })) ∧
      LaterD (∀ (us : List Value) (rs : List Int) (n : Nat) (c : Int) (tc : Tok) (u : Str → Option Value) (h : Heap) (tk : Nat), IntsAre us rs → rs = List.map (fun k : Int => rowI ((a + b + c0).fmod (100 ^ many.toNat)) k.toNat) (rangeKs 0 (many - 0).toNat) → c = (if 0 ≤ a + b + c0 ∧ a + b + c0 < 100 ^ many.toNat then 0 else 1) →
        Fr h₀ env.locals h (fun z => if z = Str.ofString "carry" then some (.int c tc) else if [Str.ofString "one", Str.ofString "other", Str.ofString "r", Str.ofString "f"].contains z then u z else m₀ z) → News h₀ env.locals h (ledZ D rest us n) → Q .next { s with heap := h, toks := tk }))) :
    wpAny (model prog w) A (call (.type "zip") [.ref l1, .ref l2]) (fun xv s₁ => wpAny (model prog w) A (pyIter xv) (fun it s₂ => TurnsAt prog w A h₀ env (.Tuple elts k pos) body Q E it s₂) E s₁) E s := by
  obtain ⟨rest, ho, ⟨r1, r2⟩, turn, done⟩ := go
  refine zip_dec rest (Str.ofString "carry") [Str.ofString "one", Str.ofString "other", Str.ofString "r", Str.ofString "f"] (DecA c0) hh F N r1 r2 hD ho.all.1 hx hy (by rw [List.length_map, List.length_map]) (by rw [List.length_map, rangeKs_length]; omega) (row_dg _ _) (row_dg _ _) hc (decA_nil hc0 hc1) decA_inv turn ?_
  intro us n c tc u h tk hp F' N'
  obtain ⟨rs, e1, e2, e3⟩ := decA_done hp a0 a1 b0 b1
  exact done us rs n c tc u h tk e1 e2 e3 F' N'
theorem zip_goS {prog : Program} {w : World} {A : Around} {E : Value → Shared → Prop} {s : Shared} {env : Env} {h₀ : Heap} {body : List Stmt} {Q : Flow → Shared → Prop} {elts : List Expr} {k : Nat} {pos : Pos} {l1 l2 D : Addr} {xs ys : List Value} {a b many : Int} {m₀ : Str → Option Value} {news : List (Addr × Obj)} {c0 : Int} {tc0 : Tok} {n0 : Nat}
    (F : Fr h₀ env.locals s.heap m₀) (N : News h₀ env.locals s.heap news) (hs : m₀ (Str.ofString "is_sum") = some (.bool false)) (hf : m₀ (Str.ofString "found") = some (.ref D)) (hc : m₀ (Str.ofString "carry") = some (.int c0 tc0)) (hh : A.handled = none)
    (h1 : (l1, LCg.lst xs) ∈ news) (h2 : (l2, LCg.lst ys) ∈ news) (hD : (D, listOf #[] n0) ∈ news)
    (hx : IntsAre xs (List.map (fun k : Int => rowI a k.toNat) (rangeKs 0 (many - 0).toNat))) (hy : IntsAre ys (List.map (fun k : Int => rowI b k.toNat) (rangeKs 0 (many - 0).toNat))) (hm : many ≤ 4) (hc0 : 0 ≤ c0) (hc1 : c0 < 2)
    (a0 : 0 ≤ a) (a1 : a < 100 ^ many.toNat) (b0 : 0 ≤ b) (b1 : b < 100 ^ many.toNat)
    (go : AppGo D news (fun rest => ((l1, LCg.lst xs) ∈ rest ∧ (l2, LCg.lst ys) ∈ rest) ∧
      LaterT (∀ (I : Addr) (pa pb : List Int) (x y : Int) (us : List Value) (n : Nat) (c : Int) (tc : Tok) (u : Str → Option Value) (T : Addr) (tx ty : Tok) (h : Heap) (tk : Nat) (R : (Str → Option Value) → List (Addr × Obj) → Prop),
      AllLt I ((D, listOf #[] n0) :: rest) → us.length ≤ 4 → 0 ≤ c → c < 2 → 0 ≤ x → x % 16 ≤ 9 → x < 160 → 0 ≤ y → y % 16 ≤ 9 → y < 160 → DecS c0 pa pb us c →
      IsTup h T #[.int x tx, .int y ty] → Fr h₀ env.locals h (fun z => if z = Str.ofString "carry" then some (.int c tc) else if [Str.ofString "one", Str.ofString "other", Str.ofString "r", Str.ofString "f"].contains z then u z else m₀ z) →
      AllObj [(I + 4, "zip"), (I + 2, "tuple"), (I + 3, "tuple"), (I, "list_iterator"), (I + 1, "list_iterator")] (fun its =>
        ZFin (Str.ofString "carry") [Str.ofString "one", Str.ofString "other", Str.ofString "r", Str.ofString "f"] m₀ h₀ env.locals (ledZ D rest) (DecS c0 (pa ++ [x]) (pb ++ [y])) its { s with heap := h, toks := tk } R → News h₀ env.locals h (its ++ ledZ D rest us n) →
        wpAny (model prog w) A (assign (.Tuple elts k pos) env (.ref T)) (fun _ s₂ => wpAny (model prog w) A (execs body env) (UnrPostW h₀ env.locals { s with heap := h, toks := tk } its R Q) E s₂) E { s with heap := h, toks := tk })) ∧
      LaterD (∀ (us : List Value) (rs : List Int) (n : Nat) (c : Int) (tc : Tok) (u : Str → Option Value) (h : Heap) (tk : Nat), IntsAre us rs → rs = List.map (fun k : Int => rowI ((a - b - c0).fmod (100 ^ many.toNat)) k.toNat) (rangeKs 0 (many - 0).toNat) → c = (if 0 ≤ a - b - c0 ∧ a - b - c0 < 100 ^ many.toNat then 0 else 1) →
        Fr h₀ env.locals h (fun z => if z = Str.ofString "carry" then some (.int c tc) else if [Str.ofString "one", Str.ofString "other", Str.ofString "r", Str.ofString "f"].contains z then u z else m₀ z) → News h₀ env.locals h (ledZ D rest us n) → Q .next { s with heap := h, toks := tk }))) :
    wpAny (model prog w) A (call (.type "zip") [.ref l1, .ref l2]) (fun xv s₁ => wpAny (model prog w) A (pyIter xv) (fun it s₂ => TurnsAt prog w A h₀ env (.Tuple elts k pos) body Q E it s₂) E s₁) E s := by
  obtain ⟨rest, ho, ⟨r1, r2⟩, turn, done⟩ := go
  refine zip_dec rest (Str.ofString "carry") [Str.ofString "one", Str.ofString "other", Str.ofString "r", Str.ofString "f"] (DecS c0) hh F N r1 r2 hD ho.all.1 hx hy (by rw [List.length_map, List.length_map]) (by rw [List.length_map, rangeKs_length]; omega) (row_dg _ _) (row_dg _ _) hc (decS_nil hc0 hc1) decS_inv turn ?_
  intro us n c tc u h tk hp F' N'
  obtain ⟨rs, e1, e2, e3⟩ := decS_done hp a0 a1 b0 b1
  exact done us rs n c tc u h tk e1 e2 e3 F' N'
theorem zfin_sub {us : List Value} (h : us.length ≤ 4) : us.toArray.size ≤ sizeLine := by
  rw [List.size_toArray]
  exact Nat.le_trans h (by decide)
end
/-! base -/

abbrev Led := List (Addr × Obj)
abbrev RetT := Heap → Addr → (Str → Option Value) → Shared → (Value → Shared → Prop) → Prop

/-- what a call of f on vs gives, said by Ret, from the ledger news, k frames deep at most -/
def Gives (w : World) (f : Addr) (k : Nat) (news : Led) (vs : List Value) (Ret : RetT) : Prop :=
  ∀ (mean : ExcName → Option Value) (mg mb : Str → Option Value) (dp un : Nat) (gd : Option (List Code)) (cn : Str) (cs : Scope) (a : Addr) (ccd : Value) (cl : List (Str × Addr)) (outer : List Env) (A₀ : Around) (base h₀ : Heap) (L : Addr) (m : Str → Option Value) (s : Shared)
    (Q E : Value → Shared → Prop),
    Below A₀ base outer h₀ → Fr h₀ L s.heap m → (kv w.params).In h₀ → News h₀ L s.heap news → Top qv (looseW qv [Str.ofString "KEPT"]) mean mg mb h₀ → cs.kind = .function → dp + k < recursionLimit → un + 8 * k < cLine →
    Ret h₀ L m s Q → wpAny (model PySem.Challenge.rw_nz0562_01.row.prog w) (ktrTop dp un gd cn cs L a ccd cl outer) (call (.ref f) vs) Q E s

theorem gives_use {w : World} {f : Addr} {k : Nat} {news : Led} {vs : List Value} {Ret : RetT} {mean : ExcName → Option Value} {mg mb : Str → Option Value} {dp un : Nat} {gd : Option (List Code)} {cn : Str} {cs : Scope} {a : Addr} {ccd : Value} {cl : List (Str × Addr)} {outer : List Env} {A₀ : Around} {base h₀ : Heap} {L : Addr} {m : Str → Option Value} {s : Shared}
    {Q E : Value → Shared → Prop} (B : Below A₀ base outer h₀) (F : Fr h₀ L s.heap m) (X : (kv w.params).In h₀) (N : News h₀ L s.heap news) (T : Top qv (looseW qv [Str.ofString "KEPT"]) mean mg mb h₀) (hk : cs.kind = .function)
    (C : Gives w f k news vs Ret) (hd : dp + k < recursionLimit) (hu : un + 8 * k < cLine) (ret : Ret h₀ L m s Q) :
    wpAny (model PySem.Challenge.rw_nz0562_01.row.prog w) (ktrTop dp un gd cn cs L a ccd cl outer) (call (.ref f) vs) Q E s :=
  C _ _ _ _ _ _ _ _ _ _ _ _ _ _ _ _ _ _ _ _ B F X N T hk hd hu ret

theorem gives_use2 {w : World} {f : Addr} {k : Nat} {news : Led} {vs : List Value} {Ret : RetT} {mean : ExcName → Option Value} {mg mb : Str → Option Value} {dp un : Nat} {gd : Option (List Code)} {cn : Str} {cs : Scope} {a : Addr} {ccd : Value} {cl : List (Str × Addr)} {outer : List Env} {A₀ : Around} {base h₀ : Heap} {L : Addr} {m : Str → Option Value} {s : Shared}
    {Q E : Value → Shared → Prop} (S : Below A₀ base outer h₀ ∧ Fr h₀ L s.heap m ∧ (kv w.params).In h₀ ∧ News h₀ L s.heap news ∧ Top qv (looseW qv [Str.ofString "KEPT"]) mean mg mb h₀ ∧ cs.kind = .function)
    (C : Gives w f k news vs Ret) (hd : dp + k < recursionLimit) (hu : un + 8 * k < cLine) (ret : Ret h₀ L m s Q) :
    wpAny (model PySem.Challenge.rw_nz0562_01.row.prog w) (ktrTop dp un gd cn cs L a ccd cl outer) (call (.ref f) vs) Q E s :=
  gives_use S.1 S.2.1 S.2.2.1 S.2.2.2.1 S.2.2.2.2.1 S.2.2.2.2.2 C hd hu ret
theorem nameKK {M : Model} {A : Around} {E : Value → Shared → Prop} {s : Shared} {K : Frag} {h₀ : Heap} {L a : Addr} {m mg mb : Str → Option Value} {cn : Str} {cs : Scope} {ccd : Value} {p : Program} {loose : List Str}
    {x : Str} {pos : Pos} {v : Value} {Q : Value → Shared → Prop} (F : Fr h₀ L s.heap m) (X : K.In h₀) (T : TopRead p loose mg mb h₀) (e : nsIn K mainGlobals x = some (some v)) (h : Q v s)
    (hl : (cs.names.lookup x == some NameKind.globalImplicit) = true) (hk : cs.kind = .function) (hd : (x == ("__debug__" : Str)) = false) :
    wpAny M A (eval (.Name x pos) (envOf cn cs L a ccd)) Q E s := name_K F X T e h hk (kindOf_of_beq hl) hd
/-- an int comes back, the ledger as it was -/
def RInt (news : Led) (x : Int) : RetT := fun h₀ L m s Q =>
  ∀ (t : Tok) (h' : Heap) (tk' : Nat), Fr h₀ L h' m → News h₀ L h' news → Q (.int x t) { s with heap := h', toks := tk' }
/-- a bool -/
def RBool (news : Led) (x : Bool) : RetT := fun h₀ L m s Q =>
  ∀ (h' : Heap) (tk' : Nat), Fr h₀ L h' m → News h₀ L h' news → Q (.bool x) { s with heap := h', toks := tk' }
/-- a new tuple of two ints -/
def RTup (news : Led) (x y : Int) : RetT := fun h₀ L m s Q =>
  ∀ (D : Addr) (t1 t2 : Tok) (h' : Heap) (tk' : Nat), Fr h₀ L h' m → News h₀ L h' ((D, ({ cls := .type "tuple", data := .seq #[.int x t1, .int y t2] } : Obj)) :: news) → AllLt D news → Q (.ref D) { s with heap := h', toks := tk' }

theorem ri_end {h₀ h' : Heap} {L : Addr} {m : Str → Option Value} {news news' : Led} {s : Shared} {Q : Value → Shared → Prop} {x y : Int} {t : Tok} {tk' : Nat}
    (hret : RInt news x h₀ L m s Q) (F : Fr h₀ L h' m) (N : News h₀ L h' news') (hs : ∀ p ∈ news, p ∈ news') (e : y = x) : Q (.int y t) { s with heap := h', toks := tk' } := by
  subst e
  exact hret t h' tk' F fun p hp => N p (hs p hp)
theorem rb_end {h₀ h' : Heap} {L : Addr} {m : Str → Option Value} {news news' : Led} {s : Shared} {Q : Value → Shared → Prop} {x y : Bool} {tk' : Nat}
    (hret : RBool news x h₀ L m s Q) (F : Fr h₀ L h' m) (N : News h₀ L h' news') (hs : ∀ p ∈ news, p ∈ news') (e : y = x) : Q (.bool y) { s with heap := h', toks := tk' } := by
  subst e
  exact hret h' tk' F fun p hp => N p (hs p hp)
theorem rt_end {h₀ h' : Heap} {L D : Addr} {m : Str → Option Value} {news news' : Led} {s : Shared} {Q : Value → Shared → Prop} {x y x' y' : Int} {t1 t2 : Tok} {tk' : Nat}
    (hret : RTup news x y h₀ L m s Q) (F : Fr h₀ L h' m) (N : News h₀ L h' news') (hm : (D, ({ cls := .type "tuple", data := .seq #[.int x' t1, .int y' t2] } : Obj)) ∈ news') (hs : ∀ p ∈ news, p ∈ news') (hl : AllLt D news) (e1 : x' = x) (e2 : y' = y) : Q (.ref D) { s with heap := h', toks := tk' } := by
  subst e1; subst e2
  refine hret D t1 t2 h' tk' F (fun p hp => ?_) hl
  rcases List.mem_cons.mp hp with rfl | hp
  · exact N _ hm
  · exact N p (hs p hp)

/-- a new tuple of three ints -/
def RTri (news : Led) (x y z : Int) : RetT := fun h₀ L m s Q =>
  ∀ (D : Addr) (t1 t2 t3 : Tok) (h' : Heap) (tk' : Nat), Fr h₀ L h' m → News h₀ L h' ((D, ({ cls := .type "tuple", data := .seq #[.int x t1, .int y t2, .int z t3] } : Obj)) :: news) → AllLt D news → Q (.ref D) { s with heap := h', toks := tk' }
theorem r3_end {h₀ h' : Heap} {L D : Addr} {m : Str → Option Value} {news news' : Led} {s : Shared} {Q : Value → Shared → Prop} {x y z x' y' z' : Int} {t1 t2 t3 : Tok} {tk' : Nat}
    (hret : RTri news x y z h₀ L m s Q) (F : Fr h₀ L h' m) (N : News h₀ L h' news') (hm : (D, ({ cls := .type "tuple", data := .seq #[.int x' t1, .int y' t2, .int z' t3] } : Obj)) ∈ news') (hs : ∀ p ∈ news, p ∈ news') (hl : AllLt D news) (e1 : x' = x) (e2 : y' = y) (e3 : z' = z) : Q (.ref D) { s with heap := h', toks := tk' } := by
  subst e1; subst e2; subst e3
  refine hret D t1 t2 t3 h' tk' F (fun p hp => ?_) hl
  rcases List.mem_cons.mp hp with rfl | hp
  · exact N _ hm
  · exact N p (hs p hp)
theorem all_lt {Y : Nat} {l : Led} (h : AllLt Y l) (p : Addr × Obj) (hp : p ∈ l) : @LT.lt Nat _ p.1 Y := by
  induction l with
  | nil => exact absurd hp List.not_mem_nil
  | cons q r ih =>
    rcases List.mem_cons.mp hp with e | e
    · rw [e]; exact h.1
    · exact ih h.2 e
theorem all_ne0 {Y : Addr} {l : Led} (h : AllLt Y l) : ∀ p ∈ l, p.1 ≠ Y := fun p hp => Nat.ne_of_lt (all_lt h p hp)
theorem all_ne1 {Y : Nat} {l : Led} (h : AllLt Y l) : ∀ p ∈ l, p.1 ≠ Y + 1 := fun p hp => Nat.ne_of_lt (Nat.lt_succ_of_lt (all_lt h p hp))
section
variable {prog : Program} {w : World} {s : Shared} {h₀ : Heap} {L d : Addr} {m : Str → Option Value} {news : List (Addr × Obj)} {g : Obj → List (Addr × Obj)} {o : Obj} {Q : Value → Shared → Prop} {vs : List (Value × Value)}
theorem made_str (F : Fr h₀ L s.heap m) (N : News h₀ L s.heap news) (U : UpdF d o news g) (hd : o.IsDictOf (PySem.strKind prog w) []) (hk : allStrKeys vs = true) (hn : ((strPairs vs).map (·.1)).Nodup)
    (h : ∀ h' o' tk, Fr h₀ L h' m → News h₀ L h' (g o') → o'.IsDictOf (PySem.strKind prog w) (strPairs vs) → Q (.ref d) { s with heap := h', toks := tk }) : KdnMade prog w (PySem.strKind prog w) d Q vs s :=
  kdn_made_str F N U hd hk hn fun h' o' F' N' x => h h' o' _ F' N' x
theorem made_int (F : Fr h₀ L s.heap m) (N : News h₀ L s.heap news) (U : UpdF d o news g) (hd : o.IsDictOf (PySem.intKind prog w) []) (hk : allIntKeys vs = true) (hn : ((intKeyPairs vs).map (·.1)).Nodup)
    (h : ∀ h' o' tk, Fr h₀ L h' m → News h₀ L h' (g o') → o'.IsDictOf (PySem.intKind prog w) (intKeyPairs vs) → Q (.ref d) { s with heap := h', toks := tk }) : KdnMade prog w (PySem.intKind prog w) d Q vs s :=
  kdn_made_int F N U hd hk hn fun h' o' F' N' x => h h' o' _ F' N' x
end
abbrev bitsObj (v : Int) (t0 t1 t2 t3 t4 t5 t6 t7 : Tok) : Obj := { cls := .type "list", data := .seq #[.int (bitI v 0) t0, .int (bitI v 1) t1, .int (bitI v 2) t2, .int (bitI v 3) t3, .int (bitI v 4) t4, .int (bitI v 5) t5, .int (bitI v 6) t6, .int (bitI v 7) t7] 8 }
/-- a new list of the eight bits -/
def RBits (news : Led) (v : Int) : RetT := fun h₀ L m s Q =>
  ∀ (D : Addr) (t0 t1 t2 t3 t4 t5 t6 t7 : Tok) (h' : Heap) (tk' : Nat), Fr h₀ L h' m → News h₀ L h' ((D, bitsObj v t0 t1 t2 t3 t4 t5 t6 t7) :: news) → LCg.Off1 D news → Q (.ref D) { s with heap := h', toks := tk' }
theorem bits_end {h₀ h' : Heap} {L D : Addr} {m : Str → Option Value} {news news' : Led} {s : Shared} {Q : Value → Shared → Prop} {v : Int} {ys : List Value} {tk' : Nat}
    (hret : RBits news v h₀ L m s Q) (F : Fr h₀ L h' m) (N : News h₀ L h' ((D, LCg.lst ys) :: news')) (hi : IntsAre ys (List.map (fun k' : Int => (v.fdiv (2 ^ k'.toNat)).fmod 2) (rangeKs 0 (8 - 0 : Int).toNat))) (hs : ∀ p ∈ news, p ∈ news') (ho : LCg.Off1 D news) : Q (.ref D) { s with heap := h', toks := tk' } := by
  have e : rangeKs 0 (8 - 0 : Int).toNat = [0, 1, 2, 3, 4, 5, 6, 7] := by decide +kernel
  rw [e] at hi
  simp only [List.map_cons, List.map_nil] at hi
  cases hi with | cons _ t0 hi => ?_
  cases hi with | cons _ t1 hi => ?_
  cases hi with | cons _ t2 hi => ?_
  cases hi with | cons _ t3 hi => ?_
  cases hi with | cons _ t4 hi => ?_
  cases hi with | cons _ t5 hi => ?_
  cases hi with | cons _ t6 hi => ?_
  cases hi with | cons _ t7 hi => ?_
  cases hi
  refine hret D t0 t1 t2 t3 t4 t5 t6 t7 h' tk' F (fun p hp => ?_) ho
  rcases List.mem_cons.mp hp with rfl | hp
  · exact N _ (.head _)
  · exact N p (.tail _ (hs p hp))

theorem off_gen1 : True ∧ True := by
  w_top off
  walk1
  all_goals trivial
/-! gen1 -/
theorem wd1 : True := by
  k_with "w1" => (refine' ⟨(by k_asm), (by k_asm), (by k_asm), (by k_asm), (by k_asm), (by first | exact rfl | assumption)⟩)
  trivial
local macro_rules | `(tactic| walk_at "site") => `(tactic| k_extra "w1")
theorem wd2 : True := by
  k_with "w2" => ((try dsimp only); (try k_fold))
  trivial
local macro_rules | `(tactic| walk_at "fold9") => `(tactic| k_extra "w2")
theorem wd3 : True := by
  k_with "w3" => (k_here; (try k_fold); (with_reducible refine wpAny_BinOp ?_))
  trivial
local macro_rules | `(tactic| walk_at "eval BinOp") => `(tactic| k_extra "w3")
theorem wd4 : True := by
  k_with "w4" => (k_here; name_kind "globalImplicit"; (with_reducible rename Fr _ _ _ _ => kF); (with_reducible refine' nameKK kF (by k_dflt k_asm) (by k_dflt k_asm) (by k_dflt k_is) ?_ (by decide +kernel) (by with_unfolding_all rfl) (by decide +kernel)); k_whole)
  trivial
local macro_rules | `(tactic| walk_at "eval Name") => `(tactic| k_extra "w4")
theorem wd5 : True := by
  k_with "w5" => (k_here; name_kind "local"; (with_reducible rename Fr _ _ _ _ => kF); (with_reducible refine PyProof.Rows.ldK kF (by with_unfolding_all exact Eq.refl (some _)) ?_ (by decide +kernel) (by with_unfolding_all rfl) (by decide +kernel)))
  trivial
local macro_rules | `(tactic| walk_at "eval Name") => `(tactic| k_extra "w5")
theorem wd6 : True := by
  k_with "w6" => (k_here; (with_reducible refine wpAny_execs_nil ?_))
  trivial
local macro_rules | `(tactic| walk_at "execs nil") => `(tactic| k_extra "w6")
theorem g_parity (w : World) (news : Led) (v : Int) (tv : Tok)  : Gives w 21 1 news [.int v tv] (RInt news (parityI v)) := by
  unfold Gives
  k_fill
  intro mean mg mb dp un gd cn cs a ccd cl outer A₀ base h₀ L m s Q E B F X N T hk hd hu hret
  refine wpAny_call ?_
  k_dflt cell_enter
  k_steps
  all_goals (refine' ri_end hret ?eF ?eN ?eS ?eE; (case eF => k_asm); (case eN => k_asm); (case eS => (intro p hp; repeat (first | exact hp | refine List.Mem.tail _ ?_ | exact List.mem_append_left _ hp))); (case eE => (first | with_reducible rfl | (delta parityI; first | (dsimp only; done) | ((try dsimp only); with_reducible rfl) | ((try dsimp only); (simp (disch := assumption) only [if_pos, if_neg]); done) | (exfalso; omega)))))

theorem wd7 : True := by
  k_with "w7" => (k_here; (with_reducible show wpAny _ _ (call (Value.ref 21) _) _ _ _); k_dflt (refine' gives_use2 (by walk_at "site") (g_parity _ _ _ _) (by ktr_room) (by ktr_units) ?_; intro t9 h9 tk9 F9 N9; walk_at "fold9"))
  trivial
local macro_rules | `(tactic| walk_at "call ref") => `(tactic| k_extra "w7")
theorem g_szyx (w : World) (news : Led) (v : Int) (tv : Tok)  : Gives w 28 1 news [.int v tv] (RInt news (szyxI v)) := by
  unfold Gives
  k_fill
  intro mean mg mb dp un gd cn cs a ccd cl outer A₀ base h₀ L m s Q E B F X N T hk hd hu hret
  refine wpAny_call ?_
  k_dflt cell_enter
  k_steps
  all_goals (refine' ri_end hret ?eF ?eN ?eS ?eE; (case eF => k_asm); (case eN => k_asm); (case eS => (intro p hp; repeat (first | exact hp | refine List.Mem.tail _ ?_ | exact List.mem_append_left _ hp))); (case eE => (first | with_reducible rfl | (delta szyxI; first | (dsimp only; done) | ((try dsimp only); with_reducible rfl) | ((try dsimp only); (simp (disch := assumption) only [if_pos, if_neg]); done) | (exfalso; omega)))))

theorem wd8 : True := by
  k_with "w8" => (k_here; (with_reducible show wpAny _ _ (call (Value.ref 28) _) _ _ _); k_dflt (refine' gives_use2 (by walk_at "site") (g_szyx _ _ _ _) (by ktr_room) (by ktr_units) ?_; intro t9 h9 tk9 F9 N9; walk_at "fold9"))
  trivial
local macro_rules | `(tactic| walk_at "call ref") => `(tactic| k_extra "w8")
theorem g_add8 (w : World) (news : Led) (x : Int) (tx : Tok) (y : Int) (ty : Tok) (c : Int) (tc : Tok)  : Gives w 35 2 news [.int x tx, .int y ty, .int c tc] (RTup news (addR x y c) (addF x y c)) := by
  unfold Gives
  k_fill
  intro mean mg mb dp un gd cn cs a ccd cl outer A₀ base h₀ L m s Q E B F X N T hk hd hu hret
  refine wpAny_call ?_
  k_dflt cell_enter
  k_steps
  all_goals (refine' rt_end hret ?eF ?eN ?eM ?eS ?eL ?eA ?eB; (case eF => k_asm); (case eN => k_asm); (case eM => k_mem); (case eS => (intro p hp; repeat (first | exact hp | refine List.Mem.tail _ ?_ | exact List.mem_append_left _ hp))); (case eL => (first | assumption | exact allLt_of (by assumption) | (apply And.right; assumption) | (apply And.right; apply And.right; assumption) | (apply And.right; apply And.right; apply And.right; assumption) | (apply And.right; apply And.right; apply And.right; apply And.right; assumption) | (apply And.right; apply And.right; apply And.right; apply And.right; apply And.right; assumption) | (apply And.right; apply And.right; apply And.right; apply And.right; apply And.right; apply And.right; assumption) | (apply And.right; apply And.right; apply And.right; apply And.right; apply And.right; apply And.right; apply And.right; assumption) | (apply And.right; apply And.right; apply And.right; apply And.right; apply And.right; apply And.right; apply And.right; apply And.right; assumption) | (apply And.right; apply And.right; apply And.right; apply And.right; apply And.right; apply And.right; apply And.right; apply And.right; apply And.right; assumption) | (apply And.right; apply And.right; apply And.right; apply And.right; apply And.right; apply And.right; apply And.right; apply And.right; apply And.right; apply And.right; assumption) | (apply And.right; apply And.right; apply And.right; apply And.right; apply And.right; apply And.right; apply And.right; apply And.right; apply And.right; apply And.right; apply And.right; assumption) | (apply And.right; apply And.right; apply And.right; apply And.right; apply And.right; apply And.right; apply And.right; apply And.right; apply And.right; apply And.right; apply And.right; apply And.right; assumption))); (case eA => (first | with_reducible rfl | (delta addR; first | (dsimp only; done) | ((try dsimp only); with_reducible rfl) | ((try dsimp only); (simp (disch := assumption) only [if_pos, if_neg]); done) | (exfalso; omega)))); (case eB => (first | with_reducible rfl | (delta addF addR; first | (dsimp only; done) | ((try dsimp only); with_reducible rfl) | ((try dsimp only); (simp (disch := assumption) only [if_pos, if_neg]); done) | (exfalso; omega)))))

theorem wd9 : True := by
  k_with "w9" => (k_here; (with_reducible show wpAny _ _ (call (Value.ref 35) _) _ _ _); k_dflt (refine' gives_use2 (by walk_at "site") (g_add8 _ _ _ _ _ _ _ _) (by ktr_room) (by ktr_units) ?_; intro D9 t9 u9 h9 tk9 F9 N9 l1; (try k_lt l1); walk_at "fold9"))
  trivial
local macro_rules | `(tactic| walk_at "call ref") => `(tactic| k_extra "w9")
theorem g_sub8 (w : World) (news : Led) (x : Int) (tx : Tok) (y : Int) (ty : Tok) (c : Int) (tc : Tok)  : Gives w 42 2 news [.int x tx, .int y ty, .int c tc] (RTup news (subR x y c) (subF x y c)) := by
  unfold Gives
  k_fill
  intro mean mg mb dp un gd cn cs a ccd cl outer A₀ base h₀ L m s Q E B F X N T hk hd hu hret
  refine wpAny_call ?_
  k_dflt cell_enter
  k_steps
  all_goals (refine' rt_end hret ?eF ?eN ?eM ?eS ?eL ?eA ?eB; (case eF => k_asm); (case eN => k_asm); (case eM => k_mem); (case eS => (intro p hp; repeat (first | exact hp | refine List.Mem.tail _ ?_ | exact List.mem_append_left _ hp))); (case eL => (first | assumption | exact allLt_of (by assumption) | (apply And.right; assumption) | (apply And.right; apply And.right; assumption) | (apply And.right; apply And.right; apply And.right; assumption) | (apply And.right; apply And.right; apply And.right; apply And.right; assumption) | (apply And.right; apply And.right; apply And.right; apply And.right; apply And.right; assumption) | (apply And.right; apply And.right; apply And.right; apply And.right; apply And.right; apply And.right; assumption) | (apply And.right; apply And.right; apply And.right; apply And.right; apply And.right; apply And.right; apply And.right; assumption) | (apply And.right; apply And.right; apply And.right; apply And.right; apply And.right; apply And.right; apply And.right; apply And.right; assumption) | (apply And.right; apply And.right; apply And.right; apply And.right; apply And.right; apply And.right; apply And.right; apply And.right; apply And.right; assumption) | (apply And.right; apply And.right; apply And.right; apply And.right; apply And.right; apply And.right; apply And.right; apply And.right; apply And.right; apply And.right; assumption) | (apply And.right; apply And.right; apply And.right; apply And.right; apply And.right; apply And.right; apply And.right; apply And.right; apply And.right; apply And.right; apply And.right; assumption) | (apply And.right; apply And.right; apply And.right; apply And.right; apply And.right; apply And.right; apply And.right; apply And.right; apply And.right; apply And.right; apply And.right; apply And.right; assumption))); (case eA => (first | with_reducible rfl | (delta subR; first | (dsimp only; done) | ((try dsimp only); with_reducible rfl) | ((try dsimp only); (simp (disch := assumption) only [if_pos, if_neg]); done) | (exfalso; omega)))); (case eB => (first | with_reducible rfl | (delta subF subR; first | (dsimp only; done) | ((try dsimp only); with_reducible rfl) | ((try dsimp only); (simp (disch := assumption) only [if_pos, if_neg]); done) | (exfalso; omega)))))

theorem wd10 : True := by
  k_with "w10" => (k_here; (with_reducible show wpAny _ _ (call (Value.ref 42) _) _ _ _); k_dflt (refine' gives_use2 (by walk_at "site") (g_sub8 _ _ _ _ _ _ _ _) (by ktr_room) (by ktr_units) ?_; intro D9 t9 u9 h9 tk9 F9 N9 l1; (try k_lt l1); walk_at "fold9"))
  trivial
local macro_rules | `(tactic| walk_at "call ref") => `(tactic| k_extra "w10")
theorem g_cpl (w : World) (news : Led) (x : Int) (tx : Tok) (f : Int) (tf : Tok)  : Gives w 56 1 news [.int x tx, .int f tf] (RTup news (bitXor x 255) (bitOr (bitOr (bitOr (bitAnd f (bitOr 196 1)) (bitAnd (bitXor x 255) 40)) 16) 2)) := by
  unfold Gives
  k_fill
  intro mean mg mb dp un gd cn cs a ccd cl outer A₀ base h₀ L m s Q E B F X N T hk hd hu hret
  refine wpAny_call ?_
  k_dflt cell_enter
  k_steps
  all_goals (refine' rt_end hret ?eF ?eN ?eM ?eS ?eL ?eA ?eB; (case eF => k_asm); (case eN => k_asm); (case eM => k_mem); (case eS => (intro p hp; repeat (first | exact hp | refine List.Mem.tail _ ?_ | exact List.mem_append_left _ hp))); (case eL => (first | assumption | exact allLt_of (by assumption) | (apply And.right; assumption) | (apply And.right; apply And.right; assumption) | (apply And.right; apply And.right; apply And.right; assumption) | (apply And.right; apply And.right; apply And.right; apply And.right; assumption) | (apply And.right; apply And.right; apply And.right; apply And.right; apply And.right; assumption) | (apply And.right; apply And.right; apply And.right; apply And.right; apply And.right; apply And.right; assumption) | (apply And.right; apply And.right; apply And.right; apply And.right; apply And.right; apply And.right; apply And.right; assumption) | (apply And.right; apply And.right; apply And.right; apply And.right; apply And.right; apply And.right; apply And.right; apply And.right; assumption) | (apply And.right; apply And.right; apply And.right; apply And.right; apply And.right; apply And.right; apply And.right; apply And.right; apply And.right; assumption) | (apply And.right; apply And.right; apply And.right; apply And.right; apply And.right; apply And.right; apply And.right; apply And.right; apply And.right; apply And.right; assumption) | (apply And.right; apply And.right; apply And.right; apply And.right; apply And.right; apply And.right; apply And.right; apply And.right; apply And.right; apply And.right; apply And.right; assumption) | (apply And.right; apply And.right; apply And.right; apply And.right; apply And.right; apply And.right; apply And.right; apply And.right; apply And.right; apply And.right; apply And.right; apply And.right; assumption))); (case eA => rfl); (case eB => rfl))

theorem wd11 : True := by
  k_with "w11" => (k_here; (with_reducible show wpAny _ _ (call (Value.ref 56) _) _ _ _); k_dflt (refine' gives_use2 (by walk_at "site") (g_cpl _ _ _ _ _ _) (by ktr_room) (by ktr_units) ?_; intro D9 t9 u9 h9 tk9 F9 N9 l1; (try k_lt l1); walk_at "fold9"))
  trivial
local macro_rules | `(tactic| walk_at "call ref") => `(tactic| k_extra "w11")
theorem g_scf (w : World) (news : Led) (x : Int) (tx : Tok) (f : Int) (tf : Tok)  : Gives w 63 1 news [.int x tx, .int f tf] (RTup news x (bitOr (bitOr (bitAnd f 196) (bitAnd x 40)) 1)) := by
  unfold Gives
  k_fill
  intro mean mg mb dp un gd cn cs a ccd cl outer A₀ base h₀ L m s Q E B F X N T hk hd hu hret
  refine wpAny_call ?_
  k_dflt cell_enter
  k_steps
  all_goals (refine' rt_end hret ?eF ?eN ?eM ?eS ?eL ?eA ?eB; (case eF => k_asm); (case eN => k_asm); (case eM => k_mem); (case eS => (intro p hp; repeat (first | exact hp | refine List.Mem.tail _ ?_ | exact List.mem_append_left _ hp))); (case eL => (first | assumption | exact allLt_of (by assumption) | (apply And.right; assumption) | (apply And.right; apply And.right; assumption) | (apply And.right; apply And.right; apply And.right; assumption) | (apply And.right; apply And.right; apply And.right; apply And.right; assumption) | (apply And.right; apply And.right; apply And.right; apply And.right; apply And.right; assumption) | (apply And.right; apply And.right; apply And.right; apply And.right; apply And.right; apply And.right; assumption) | (apply And.right; apply And.right; apply And.right; apply And.right; apply And.right; apply And.right; apply And.right; assumption) | (apply And.right; apply And.right; apply And.right; apply And.right; apply And.right; apply And.right; apply And.right; apply And.right; assumption) | (apply And.right; apply And.right; apply And.right; apply And.right; apply And.right; apply And.right; apply And.right; apply And.right; apply And.right; assumption) | (apply And.right; apply And.right; apply And.right; apply And.right; apply And.right; apply And.right; apply And.right; apply And.right; apply And.right; apply And.right; assumption) | (apply And.right; apply And.right; apply And.right; apply And.right; apply And.right; apply And.right; apply And.right; apply And.right; apply And.right; apply And.right; apply And.right; assumption) | (apply And.right; apply And.right; apply And.right; apply And.right; apply And.right; apply And.right; apply And.right; apply And.right; apply And.right; apply And.right; apply And.right; apply And.right; assumption))); (case eA => rfl); (case eB => rfl))

theorem wd12 : True := by
  k_with "w12" => (k_here; (with_reducible show wpAny _ _ (call (Value.ref 63) _) _ _ _); k_dflt (refine' gives_use2 (by walk_at "site") (g_scf _ _ _ _ _ _) (by ktr_room) (by ktr_units) ?_; intro D9 t9 u9 h9 tk9 F9 N9 l1; (try k_lt l1); walk_at "fold9"))
  trivial
local macro_rules | `(tactic| walk_at "call ref") => `(tactic| k_extra "w12")
theorem g_ccf (w : World) (news : Led) (x : Int) (tx : Tok) (f : Int) (tf : Tok)  : Gives w 70 1 news [.int x tx, .int f tf] (RTup news x (bitOr (bitOr (bitAnd f 196) (bitAnd x 40)) (if bitAnd f 1 = 0 then 1 else 16))) := by
  unfold Gives
  k_fill
  intro mean mg mb dp un gd cn cs a ccd cl outer A₀ base h₀ L m s Q E B F X N T hk hd hu hret
  refine wpAny_call ?_
  k_dflt cell_enter
  k_steps
  all_goals (refine' rt_end hret ?eF ?eN ?eM ?eS ?eL ?eA ?eB; (case eF => k_asm); (case eN => k_asm); (case eM => k_mem); (case eS => (intro p hp; repeat (first | exact hp | refine List.Mem.tail _ ?_ | exact List.mem_append_left _ hp))); (case eL => (first | assumption | exact allLt_of (by assumption) | (apply And.right; assumption) | (apply And.right; apply And.right; assumption) | (apply And.right; apply And.right; apply And.right; assumption) | (apply And.right; apply And.right; apply And.right; apply And.right; assumption) | (apply And.right; apply And.right; apply And.right; apply And.right; apply And.right; assumption) | (apply And.right; apply And.right; apply And.right; apply And.right; apply And.right; apply And.right; assumption) | (apply And.right; apply And.right; apply And.right; apply And.right; apply And.right; apply And.right; apply And.right; assumption) | (apply And.right; apply And.right; apply And.right; apply And.right; apply And.right; apply And.right; apply And.right; apply And.right; assumption) | (apply And.right; apply And.right; apply And.right; apply And.right; apply And.right; apply And.right; apply And.right; apply And.right; apply And.right; assumption) | (apply And.right; apply And.right; apply And.right; apply And.right; apply And.right; apply And.right; apply And.right; apply And.right; apply And.right; apply And.right; assumption) | (apply And.right; apply And.right; apply And.right; apply And.right; apply And.right; apply And.right; apply And.right; apply And.right; apply And.right; apply And.right; apply And.right; assumption) | (apply And.right; apply And.right; apply And.right; apply And.right; apply And.right; apply And.right; apply And.right; apply And.right; apply And.right; apply And.right; apply And.right; apply And.right; assumption))); (case eA => rfl); (case eB => (first | with_reducible rfl | (first | (dsimp only; done) | ((try dsimp only); with_reducible rfl) | ((try dsimp only); (simp (disch := assumption) only [if_pos, if_neg]); done) | (exfalso; omega)))))

theorem wd13 : True := by
  k_with "w13" => (k_here; (with_reducible show wpAny _ _ (call (Value.ref 70) _) _ _ _); k_dflt (refine' gives_use2 (by walk_at "site") (g_ccf _ _ _ _ _ _) (by ktr_room) (by ktr_units) ?_; intro D9 t9 u9 h9 tk9 F9 N9 l1; (try k_lt l1); walk_at "fold9"))
  trivial
local macro_rules | `(tactic| walk_at "call ref") => `(tactic| k_extra "w13")
theorem off_gen2 : True ∧ True := by
  w_top off
  walk1
  all_goals trivial
/-! gen2 -/
def daaW1 (x f : Int) : Int := if bitAnd f 16 = 0 then (if bitAnd x 15 > 9 then 6 else 0) else 6
def daaK (x f : Int) : Int := if bitAnd f 1 = 0 then (if x > 153 then 1 else bitAnd f 1) else 1
theorem daaWay_1 (x f : Int) : daaWay x f = if bitAnd f 1 = 0 then (if x > 153 then daaW1 x f + 96 else daaW1 x f) else daaW1 x f + 96 := by
  unfold daaWay daaW1
  (repeat' split) <;> first | rfl | omega
abbrev strWay : Str := Str.ofString "way"
abbrev strCarry : Str := Str.ofString "carry"
/-- the ways of an if meet: what the rest may count on -/
def CutTo (h₀ : Heap) (L : Addr) (m : Str → Option Value) (news : Led) (s : Shared) (Q' : Flow → Shared → Prop) : Prop := ∀ h tk, Fr h₀ L h m → News h₀ L h news → Q' .next { s with heap := h, toks := tk }
def way1 (m : Str → Option Value) (W : Int) (t : Tok) : Str → Option Value := fun y => if y = Str.ofString "way" then some (.int W t) else m y
def way2 (m : Str → Option Value) (W K : Int) (t u : Tok) : Str → Option Value := fun y => if y = Str.ofString "carry" then some (.int K u) else if y = Str.ofString "way" then some (.int W t) else m y
section
variable {prog : Program} {w : World} {A : Around} {E : Value → Shared → Prop} {s : Shared} {env : Env} {h₀ : Heap} {L : Addr} {m m' : Str → Option Value} {news news' : Led} {st : Stmt} {rest : List Stmt} {Q Q' : Flow → Shared → Prop} {x f W K W' K' : Int} {tx tf t0 t u : Tok} {h' : Heap} {tk : Nat}
theorem way1_end (C : ∀ t, CutTo h₀ L (way1 m W t) news s Q') (F : Fr h₀ L h' m') (N : News h₀ L h' news') (hs : ∀ p ∈ news, p ∈ news') (hw : m' (Str.ofString "way") = some (.int W' t)) (hm : ∀ y, y ≠ Str.ofString "way" → m' y = m y) (e : W' = W) : Q' .next { s with heap := h', toks := tk } := by
  subst e
  have e : m' = way1 m W' t := by
    funext y
    unfold way1
    by_cases hy : y = Str.ofString "way"
    · rw [if_pos hy, hy, hw]
    · rw [if_neg hy, hm y hy]
  rw [e] at F
  exact C t h' tk F fun p hp => N p (hs p hp)
theorem way2_end (C : ∀ t u, CutTo h₀ L (way2 m W K t u) news s Q') (F : Fr h₀ L h' m') (N : News h₀ L h' news') (hs : ∀ p ∈ news, p ∈ news') (hw : m' (Str.ofString "way") = some (.int W' t)) (hk : m' (Str.ofString "carry") = some (.int K' u)) (hm : ∀ y, y ≠ Str.ofString "carry" → y ≠ Str.ofString "way" → m' y = m y) (e : W' = W) (e2 : K' = K) : Q' .next { s with heap := h', toks := tk } := by
  subst e; subst e2
  have e : m' = way2 m W' K' t u := by
    funext y
    unfold way2
    by_cases hc : y = Str.ofString "carry"
    · rw [if_pos hc, hc, hk]
    · by_cases hy : y = Str.ofString "way"
      · rw [if_neg hc, if_pos hy, hy, hw]
      · rw [if_neg hc, if_neg hy, hm y hc hy]
  rw [e] at F
  exact C t u h' tk F fun p hp => N p (hs p hp)
theorem way1_cut (F : Fr h₀ env.locals s.heap m) (N : News h₀ env.locals s.heap news) (_ : m (Str.ofString "a") = some (.int x tx)) (_ : m (Str.ofString "f") = some (.int f tf)) (_ : m (Str.ofString "way") = some (.int 0 t0))
    (walk : LaterT (∀ Q' : Flow → Shared → Prop, (∀ t, CutTo h₀ env.locals (way1 m (daaW1 x f) t) news s Q') → wpAny (model prog w) A (exec st env) Q' E s))
    (cont : LaterD (∀ (t u : Tok) h tk, Fr h₀ env.locals h (fun y => if y = Str.ofString "way" then some (.int (daaW1 x f) t) else m y) → News h₀ env.locals h news → wpAny (model prog w) A (execs rest env) Q E { s with heap := h, toks := tk })) :
    wpAny (model prog w) A (execs (st :: rest) env) Q E s :=
  wpAny_execs_cons (walk _ fun t h tk F' N' => cont t t h tk F' N')
theorem way2_cut (F : Fr h₀ env.locals s.heap m) (N : News h₀ env.locals s.heap news) (_ : m (Str.ofString "way") = some (.int (daaW1 x f) t0))
    (walk : LaterT (∀ Q' : Flow → Shared → Prop, (∀ t u, CutTo h₀ env.locals (way2 m (daaWay x f) (daaK x f) t u) news s Q') → wpAny (model prog w) A (exec st env) Q' E s))
    (cont : LaterD (∀ (t u : Tok) h tk, Fr h₀ env.locals h (fun y => if y = Str.ofString "carry" then some (.int (daaK x f) u) else if y = Str.ofString "way" then some (.int (daaWay x f) t) else m y) → News h₀ env.locals h news → wpAny (model prog w) A (execs rest env) Q E { s with heap := h, toks := tk })) :
    wpAny (model prog w) A (execs (st :: rest) env) Q E s :=
  wpAny_execs_cons (walk _ fun t u h tk F' N' => cont t u h tk F' N')
end
theorem off_in1 : True ∧ True := by
  w_top off
  walk1
  all_goals trivial
section
theorem wd14 : True := by
  k_with "w14" => (k_here; (try dsimp only); k_dflt (refine' way1_cut (by k_asm) (by k_asm) (by exact rfl) (by exact rfl) (by exact rfl) ?_ ?_))
  trivial
local macro_rules | `(tactic| walk_at "execs cons If cons") => `(tactic| k_extra "w14")
theorem wd15 : True := by
  k_with "w15" => (k_here; (try dsimp only); k_dflt (refine' way2_cut (by k_asm) (by k_asm) (by exact rfl) ?_ ?_))
  trivial
local macro_rules | `(tactic| walk_at "execs cons If cons") => `(tactic| k_extra "w15")
theorem wd16 : True := by
  k_with "w16" => (k_here; (unfold LaterT); intro Q9 C9)
  trivial
local macro_rules | `(tactic| walk_at "LaterT") => `(tactic| k_extra "w16")
theorem wd17 : True := by
  k_with "w17" => (k_here; (unfold LaterD); intro t9 u9 h9 tk9 F9 N9; (try dsimp only at F9 N9); (try k_fold))
  trivial
local macro_rules | `(tactic| walk_at "LaterD") => `(tactic| k_extra "w17")
theorem g_daa (w : World) (news : Led) (x : Int) (tx : Tok) (f : Int) (tf : Tok)  : Gives w 49 2 news [.int x tx, .int f tf] (RTup news (daaR x f) (daaF x f)) := by
  unfold Gives
  k_fill
  intro mean mg mb dp un gd cn cs a ccd cl outer A₀ base h₀ L m s Q E B F X N T hk hd hu hret
  refine wpAny_call ?_
  k_dflt cell_enter
  k_steps
  all_goals (first
    | (refine' way1_end (by assumption) ?eF ?eN ?eS ?ew ?em ?ee; (case eF => k_asm); (case eN => k_asm); (case eS => (intro p hp; repeat (first | exact hp | refine List.Mem.tail _ ?_ | exact List.mem_append_left _ hp))); (case ew => exact rfl); (case em => (intro y h1; first | rfl | (simp [h1]; done))); (case ee => (first | with_reducible rfl | (delta daaW1; simp (disch := assumption) only [if_pos, if_neg]; done))))
    | (refine' way2_end (by assumption) ?eF ?eN ?eS ?ew ?ek ?em ?ee ?e2; (case eF => k_asm); (case eN => k_asm); (case eS => (intro p hp; repeat (first | exact hp | refine List.Mem.tail _ ?_ | exact List.mem_append_left _ hp))); (case ew => exact rfl); (case ek => exact rfl); (case em => (intro y h1 h2; first | rfl | (simp [h1, h2]; done))); (case ee => (first | with_reducible rfl | (rw [daaWay_1]; simp (disch := assumption) only [if_pos, if_neg]; done))); (case e2 => (first | with_reducible rfl | (delta daaK; simp (disch := assumption) only [if_pos, if_neg]; done))))
    | (refine' rt_end hret ?eF ?eN ?eM ?eS ?eL ?eA ?eB; (case eF => k_asm); (case eN => k_asm); (case eM => k_mem); (case eS => (intro p hp; repeat (first | exact hp | refine List.Mem.tail _ ?_ | exact List.mem_append_left _ hp))); (case eL => (first | assumption | exact allLt_of (by assumption) | (apply And.right; assumption) | (apply And.right; apply And.right; assumption) | (apply And.right; apply And.right; apply And.right; assumption) | (apply And.right; apply And.right; apply And.right; apply And.right; assumption) | (apply And.right; apply And.right; apply And.right; apply And.right; apply And.right; assumption) | (apply And.right; apply And.right; apply And.right; apply And.right; apply And.right; apply And.right; assumption) | (apply And.right; apply And.right; apply And.right; apply And.right; apply And.right; apply And.right; apply And.right; assumption) | (apply And.right; apply And.right; apply And.right; apply And.right; apply And.right; apply And.right; apply And.right; apply And.right; assumption) | (apply And.right; apply And.right; apply And.right; apply And.right; apply And.right; apply And.right; apply And.right; apply And.right; apply And.right; assumption) | (apply And.right; apply And.right; apply And.right; apply And.right; apply And.right; apply And.right; apply And.right; apply And.right; apply And.right; apply And.right; assumption) | (apply And.right; apply And.right; apply And.right; apply And.right; apply And.right; apply And.right; apply And.right; apply And.right; apply And.right; apply And.right; apply And.right; assumption) | (apply And.right; apply And.right; apply And.right; apply And.right; apply And.right; apply And.right; apply And.right; apply And.right; apply And.right; apply And.right; apply And.right; apply And.right; assumption))); (case eA => (first | with_reducible rfl | (delta daaR; first | (dsimp only; done) | ((try dsimp only); with_reducible rfl) | ((try dsimp only); (simp (disch := assumption) only [if_pos, if_neg]); done) | (exfalso; omega)))); (case eB => (first | with_reducible rfl | (delta daaF daaR daaK; first | (dsimp only; done) | ((try dsimp only); with_reducible rfl) | ((try dsimp only); (simp (disch := assumption) only [if_pos, if_neg]); done) | (exfalso; omega))))))

end
theorem off_in2 : True ∧ True := by
  w_top off
  walk1
  all_goals trivial
theorem off_gen3 : True ∧ True := by
  w_top off
  walk1
  all_goals trivial
/-! gen3 -/
theorem bita_small (x : Int) {y : Int} (h0 : 0 ≤ y) (h1 : y < 2 ^ 63) : (bitAnd x y).natAbs < 2 ^ 64 := by
  have h := bitAnd_range x h0
  omega
theorem wd18 : True := by
  k_with "w18" => (k_here; (with_reducible show wpAny _ _ (binaryOp _ (Value.int (PySem.Builtin.bitAnd _ _) _) _) _ _ _); k_dflt (refine' lshift_int_small (by decide) (by decide) (by exact bita_small _ (by decide) (by decide)) ?_))
  trivial
local macro_rules | `(tactic| walk_at "binaryOp LShift int int") => `(tactic| k_extra "w18")

section
theorem wd19 : True := by
  k_with "w19" => (k_here; k_dflt (refine' kdn_eval (knd := PySem.intKind _ _) (by k_asm) (by k_asm) (by exact Top.nolimit (by k_asm)) (by rfl) (by rfl) (by exact List.cons_ne_nil _ _) (by exact Nat.le_of_ble_eq_true rfl) ?_); intro d' h' o' F' N' l1 lo' hd'; (try k_lt l1))
  trivial
local macro_rules | `(tactic| walk_at "eval Dict") => `(tactic| k_extra "w19")
theorem g_turned (w : World) (news : Led) (k : Int) (tk : Tok) (v : Int) (tv : Tok) (f : Int) (tf : Tok) (hk0 : 0 ≤ k) (hk1 : k < 8) (hv0 : 0 ≤ v) (hv1 : v < 256) : Gives w 77 1 news [.int k tk, .int v tv, .int f tf] (RTup news (turnR k v f) (turnOut k v)) := by
  obtain rfl | rfl | rfl | rfl | rfl | rfl | rfl | rfl : k = 0 ∨ k = 1 ∨ k = 2 ∨ k = 3 ∨ k = 4 ∨ k = 5 ∨ k = 6 ∨ k = 7 := by omega
  all_goals unfold Gives
  all_goals k_fill
  all_goals intro mean mg mb dp un gd cn cs a ccd cl outer A₀ base h₀ L m s Q E B F X N T hk hd hu hret
  all_goals refine wpAny_call ?_
  all_goals k_dflt cell_enter
  k_steps
  all_goals (refine' rt_end hret ?eF ?eN ?eM ?eS ?eL ?eA ?eB; (case eF => k_asm); (case eN => k_asm); (case eM => k_mem); (case eS => (intro p hp; repeat (first | exact hp | refine List.Mem.tail _ ?_ | exact List.mem_append_left _ hp))); (case eL => (first | assumption | exact allLt_of (by assumption) | (apply And.right; assumption) | (apply And.right; apply And.right; assumption) | (apply And.right; apply And.right; apply And.right; assumption) | (apply And.right; apply And.right; apply And.right; apply And.right; assumption) | (apply And.right; apply And.right; apply And.right; apply And.right; apply And.right; assumption) | (apply And.right; apply And.right; apply And.right; apply And.right; apply And.right; apply And.right; assumption) | (apply And.right; apply And.right; apply And.right; apply And.right; apply And.right; apply And.right; apply And.right; assumption) | (apply And.right; apply And.right; apply And.right; apply And.right; apply And.right; apply And.right; apply And.right; apply And.right; assumption) | (apply And.right; apply And.right; apply And.right; apply And.right; apply And.right; apply And.right; apply And.right; apply And.right; apply And.right; assumption) | (apply And.right; apply And.right; apply And.right; apply And.right; apply And.right; apply And.right; apply And.right; apply And.right; apply And.right; apply And.right; assumption) | (apply And.right; apply And.right; apply And.right; apply And.right; apply And.right; apply And.right; apply And.right; apply And.right; apply And.right; apply And.right; apply And.right; assumption) | (apply And.right; apply And.right; apply And.right; apply And.right; apply And.right; apply And.right; apply And.right; apply And.right; apply And.right; apply And.right; apply And.right; apply And.right; assumption))); (case eA => (first | rfl | simp [turnR, turnCome, turnOut])); (case eB => (first | rfl | simp [turnR, turnCome, turnOut])))

end
theorem off_in3 : True ∧ True := by
  w_top off
  walk1
  all_goals trivial
theorem wd20 : True := by
  k_with "w20" => (k_here; (with_reducible show wpAny _ _ (call (Value.ref 77) _) _ _ _); k_dflt (refine' gives_use2 (by walk_at "site") (g_turned _ _ _ _ _ _ _ _ (by first | assumption | omega) (by first | assumption | omega) (by first | assumption | omega) (by first | assumption | omega)) (by ktr_room) (by ktr_units) ?_; intro D9 t9 u9 h9 tk9 F9 N9 l1; (try k_lt l1); walk_at "fold9"))
  trivial
local macro_rules | `(tactic| walk_at "call ref") => `(tactic| k_extra "w20")
theorem g_rotate (w : World) (news : Led) (k : Int) (tk : Tok) (v : Int) (tv : Tok) (f : Int) (tf : Tok) (hk0 : 0 ≤ k) (hk1 : k < 8) (hv0 : 0 ≤ v) (hv1 : v < 256) : Gives w 84 2 news [.int k tk, .int v tv, .int f tf] (RTup news (turnR k v f) (bitOr (bitOr (szyxI (turnR k v f)) (parityI (turnR k v f))) (turnOut k v))) := by
  unfold Gives
  k_fill
  intro mean mg mb dp un gd cn cs a ccd cl outer A₀ base h₀ L m s Q E B F X N T hk hd hu hret
  refine wpAny_call ?_
  k_dflt cell_enter
  k_steps
  all_goals (refine' rt_end hret ?eF ?eN ?eM ?eS ?eL ?eA ?eB; (case eF => k_asm); (case eN => k_asm); (case eM => k_mem); (case eS => (intro p hp; repeat (first | exact hp | refine List.Mem.tail _ ?_ | exact List.mem_append_left _ hp))); (case eL => (first | assumption | exact allLt_of (by assumption) | (apply And.right; assumption) | (apply And.right; apply And.right; assumption) | (apply And.right; apply And.right; apply And.right; assumption) | (apply And.right; apply And.right; apply And.right; apply And.right; assumption) | (apply And.right; apply And.right; apply And.right; apply And.right; apply And.right; assumption) | (apply And.right; apply And.right; apply And.right; apply And.right; apply And.right; apply And.right; assumption) | (apply And.right; apply And.right; apply And.right; apply And.right; apply And.right; apply And.right; apply And.right; assumption) | (apply And.right; apply And.right; apply And.right; apply And.right; apply And.right; apply And.right; apply And.right; apply And.right; assumption) | (apply And.right; apply And.right; apply And.right; apply And.right; apply And.right; apply And.right; apply And.right; apply And.right; apply And.right; assumption) | (apply And.right; apply And.right; apply And.right; apply And.right; apply And.right; apply And.right; apply And.right; apply And.right; apply And.right; apply And.right; assumption) | (apply And.right; apply And.right; apply And.right; apply And.right; apply And.right; apply And.right; apply And.right; apply And.right; apply And.right; apply And.right; apply And.right; assumption) | (apply And.right; apply And.right; apply And.right; apply And.right; apply And.right; apply And.right; apply And.right; apply And.right; apply And.right; apply And.right; apply And.right; apply And.right; assumption))); (case eA => rfl); (case eB => rfl))

theorem wd21 : True := by
  k_with "w21" => (k_here; (with_reducible show wpAny _ _ (call (Value.ref 84) _) _ _ _); k_dflt (refine' gives_use2 (by walk_at "site") (g_rotate _ _ _ _ _ _ _ _ (by first | assumption | omega) (by first | assumption | omega) (by first | assumption | omega) (by first | assumption | omega)) (by ktr_room) (by ktr_units) ?_; intro D9 t9 u9 h9 tk9 F9 N9 l1; (try k_lt l1); walk_at "fold9"))
  trivial
local macro_rules | `(tactic| walk_at "call ref") => `(tactic| k_extra "w21")
theorem g_rotate_a (w : World) (news : Led) (k : Int) (tk : Tok) (v : Int) (tv : Tok) (f : Int) (tf : Tok) (hk0 : 0 ≤ k) (hk1 : k < 8) (hv0 : 0 ≤ v) (hv1 : v < 256) : Gives w 91 2 news [.int k tk, .int v tv, .int f tf] (RTup news (turnR k v f) (bitOr (bitOr (bitAnd f 196) (bitAnd (turnR k v f) 40)) (turnOut k v))) := by
  unfold Gives
  k_fill
  intro mean mg mb dp un gd cn cs a ccd cl outer A₀ base h₀ L m s Q E B F X N T hk hd hu hret
  refine wpAny_call ?_
  k_dflt cell_enter
  k_steps
  all_goals (refine' rt_end hret ?eF ?eN ?eM ?eS ?eL ?eA ?eB; (case eF => k_asm); (case eN => k_asm); (case eM => k_mem); (case eS => (intro p hp; repeat (first | exact hp | refine List.Mem.tail _ ?_ | exact List.mem_append_left _ hp))); (case eL => (first | assumption | exact allLt_of (by assumption) | (apply And.right; assumption) | (apply And.right; apply And.right; assumption) | (apply And.right; apply And.right; apply And.right; assumption) | (apply And.right; apply And.right; apply And.right; apply And.right; assumption) | (apply And.right; apply And.right; apply And.right; apply And.right; apply And.right; assumption) | (apply And.right; apply And.right; apply And.right; apply And.right; apply And.right; apply And.right; assumption) | (apply And.right; apply And.right; apply And.right; apply And.right; apply And.right; apply And.right; apply And.right; assumption) | (apply And.right; apply And.right; apply And.right; apply And.right; apply And.right; apply And.right; apply And.right; apply And.right; assumption) | (apply And.right; apply And.right; apply And.right; apply And.right; apply And.right; apply And.right; apply And.right; apply And.right; apply And.right; assumption) | (apply And.right; apply And.right; apply And.right; apply And.right; apply And.right; apply And.right; apply And.right; apply And.right; apply And.right; apply And.right; assumption) | (apply And.right; apply And.right; apply And.right; apply And.right; apply And.right; apply And.right; apply And.right; apply And.right; apply And.right; apply And.right; apply And.right; assumption) | (apply And.right; apply And.right; apply And.right; apply And.right; apply And.right; apply And.right; apply And.right; apply And.right; apply And.right; apply And.right; apply And.right; apply And.right; assumption))); (case eA => rfl); (case eB => rfl))

theorem wd22 : True := by
  k_with "w22" => (k_here; (with_reducible show wpAny _ _ (call (Value.ref 91) _) _ _ _); k_dflt (refine' gives_use2 (by walk_at "site") (g_rotate_a _ _ _ _ _ _ _ _ (by first | assumption | omega) (by first | assumption | omega) (by first | assumption | omega) (by first | assumption | omega)) (by ktr_room) (by ktr_units) ?_; intro D9 t9 u9 h9 tk9 F9 N9 l1; (try k_lt l1); walk_at "fold9"))
  trivial
local macro_rules | `(tactic| walk_at "call ref") => `(tactic| k_extra "w22")
theorem g_test_bit (w : World) (news : Led) (k : Int) (tk : Tok) (v : Int) (tv : Tok) (f : Int) (tf : Tok) (hk0 : 0 ≤ k) (hk1 : k < 8) (hv0 : 0 ≤ v) (hv1 : v < 256) : Gives w 98 1 news [.int k tk, .int v tv, .int f tf] (RTup news v (tbF k v f)) := by
  unfold Gives
  k_fill
  intro mean mg mb dp un gd cn cs a ccd cl outer A₀ base h₀ L m s Q E B F X N T hk hd hu hret
  refine wpAny_call ?_
  k_dflt cell_enter
  k_steps
  all_goals (refine' rt_end hret ?eF ?eN ?eM ?eS ?eL ?eA ?eB; (case eF => k_asm); (case eN => k_asm); (case eM => k_mem); (case eS => (intro p hp; repeat (first | exact hp | refine List.Mem.tail _ ?_ | exact List.mem_append_left _ hp))); (case eL => (first | assumption | exact allLt_of (by assumption) | (apply And.right; assumption) | (apply And.right; apply And.right; assumption) | (apply And.right; apply And.right; apply And.right; assumption) | (apply And.right; apply And.right; apply And.right; apply And.right; assumption) | (apply And.right; apply And.right; apply And.right; apply And.right; apply And.right; assumption) | (apply And.right; apply And.right; apply And.right; apply And.right; apply And.right; apply And.right; assumption) | (apply And.right; apply And.right; apply And.right; apply And.right; apply And.right; apply And.right; apply And.right; assumption) | (apply And.right; apply And.right; apply And.right; apply And.right; apply And.right; apply And.right; apply And.right; apply And.right; assumption) | (apply And.right; apply And.right; apply And.right; apply And.right; apply And.right; apply And.right; apply And.right; apply And.right; apply And.right; assumption) | (apply And.right; apply And.right; apply And.right; apply And.right; apply And.right; apply And.right; apply And.right; apply And.right; apply And.right; apply And.right; assumption) | (apply And.right; apply And.right; apply And.right; apply And.right; apply And.right; apply And.right; apply And.right; apply And.right; apply And.right; apply And.right; apply And.right; assumption) | (apply And.right; apply And.right; apply And.right; apply And.right; apply And.right; apply And.right; apply And.right; apply And.right; apply And.right; apply And.right; apply And.right; apply And.right; assumption))); (case eA => rfl); (case eB => (first | with_reducible rfl | (delta tbF; first | (dsimp only; done) | ((try dsimp only); with_reducible rfl) | ((try dsimp only); (simp (disch := assumption) only [if_pos, if_neg]); done) | (exfalso; omega)))))

theorem wd23 : True := by
  k_with "w23" => (k_here; (with_reducible show wpAny _ _ (call (Value.ref 98) _) _ _ _); k_dflt (refine' gives_use2 (by walk_at "site") (g_test_bit _ _ _ _ _ _ _ _ (by first | assumption | omega) (by first | assumption | omega) (by first | assumption | omega) (by first | assumption | omega)) (by ktr_room) (by ktr_units) ?_; intro D9 t9 u9 h9 tk9 F9 N9 l1; (try k_lt l1); walk_at "fold9"))
  trivial
local macro_rules | `(tactic| walk_at "call ref") => `(tactic| k_extra "w23")
theorem g_rrd (w : World) (news : Led) (x : Int) (tx : Tok) (v : Int) (tv : Tok) (f : Int) (tf : Tok)  : Gives w 105 2 news [.int x tx, .int v tv, .int f tf] (RTri news (rrdR x v) (bitOr (bitAnd x 15 * 2 ^ Int.toNat 4) (v.fdiv (2 ^ Int.toNat 4))) (spcF (rrdR x v) f)) := by
  unfold Gives
  k_fill
  intro mean mg mb dp un gd cn cs a ccd cl outer A₀ base h₀ L m s Q E B F X N T hk hd hu hret
  refine wpAny_call ?_
  k_dflt cell_enter
  k_steps
  all_goals (refine' r3_end hret ?eF ?eN ?eM ?eS ?eL ?eA ?eB ?eC; (case eF => k_asm); (case eN => k_asm); (case eM => k_mem); (case eS => (intro p hp; repeat (first | exact hp | refine List.Mem.tail _ ?_ | exact List.mem_append_left _ hp))); (case eL => (first | assumption | exact allLt_of (by assumption) | (apply And.right; assumption) | (apply And.right; apply And.right; assumption) | (apply And.right; apply And.right; apply And.right; assumption) | (apply And.right; apply And.right; apply And.right; apply And.right; assumption) | (apply And.right; apply And.right; apply And.right; apply And.right; apply And.right; assumption) | (apply And.right; apply And.right; apply And.right; apply And.right; apply And.right; apply And.right; assumption) | (apply And.right; apply And.right; apply And.right; apply And.right; apply And.right; apply And.right; apply And.right; assumption) | (apply And.right; apply And.right; apply And.right; apply And.right; apply And.right; apply And.right; apply And.right; apply And.right; assumption) | (apply And.right; apply And.right; apply And.right; apply And.right; apply And.right; apply And.right; apply And.right; apply And.right; apply And.right; assumption) | (apply And.right; apply And.right; apply And.right; apply And.right; apply And.right; apply And.right; apply And.right; apply And.right; apply And.right; apply And.right; assumption) | (apply And.right; apply And.right; apply And.right; apply And.right; apply And.right; apply And.right; apply And.right; apply And.right; apply And.right; apply And.right; apply And.right; assumption) | (apply And.right; apply And.right; apply And.right; apply And.right; apply And.right; apply And.right; apply And.right; apply And.right; apply And.right; apply And.right; apply And.right; apply And.right; assumption))); (case eA => rfl); (case eB => rfl); (case eC => rfl))

theorem wd24 : True := by
  k_with "w24" => (k_here; (with_reducible show wpAny _ _ (call (Value.ref 105) _) _ _ _); k_dflt (refine' gives_use2 (by walk_at "site") (g_rrd _ _ _ _ _ _ _ _) (by ktr_room) (by ktr_units) ?_; intro D9 t9 u9 v9 h9 tk9 F9 N9 l1; (try k_lt l1); walk_at "fold9"))
  trivial
local macro_rules | `(tactic| walk_at "call ref") => `(tactic| k_extra "w24")
theorem g_rld (w : World) (news : Led) (x : Int) (tx : Tok) (v : Int) (tv : Tok) (f : Int) (tf : Tok)  : Gives w 112 2 news [.int x tx, .int v tv, .int f tf] (RTri news (rldR x v) (bitOr (bitAnd v 15 * 2 ^ Int.toNat 4) (bitAnd x 15)) (spcF (rldR x v) f)) := by
  unfold Gives
  k_fill
  intro mean mg mb dp un gd cn cs a ccd cl outer A₀ base h₀ L m s Q E B F X N T hk hd hu hret
  refine wpAny_call ?_
  k_dflt cell_enter
  k_steps
  all_goals (refine' r3_end hret ?eF ?eN ?eM ?eS ?eL ?eA ?eB ?eC; (case eF => k_asm); (case eN => k_asm); (case eM => k_mem); (case eS => (intro p hp; repeat (first | exact hp | refine List.Mem.tail _ ?_ | exact List.mem_append_left _ hp))); (case eL => (first | assumption | exact allLt_of (by assumption) | (apply And.right; assumption) | (apply And.right; apply And.right; assumption) | (apply And.right; apply And.right; apply And.right; assumption) | (apply And.right; apply And.right; apply And.right; apply And.right; assumption) | (apply And.right; apply And.right; apply And.right; apply And.right; apply And.right; assumption) | (apply And.right; apply And.right; apply And.right; apply And.right; apply And.right; apply And.right; assumption) | (apply And.right; apply And.right; apply And.right; apply And.right; apply And.right; apply And.right; apply And.right; assumption) | (apply And.right; apply And.right; apply And.right; apply And.right; apply And.right; apply And.right; apply And.right; apply And.right; assumption) | (apply And.right; apply And.right; apply And.right; apply And.right; apply And.right; apply And.right; apply And.right; apply And.right; apply And.right; assumption) | (apply And.right; apply And.right; apply And.right; apply And.right; apply And.right; apply And.right; apply And.right; apply And.right; apply And.right; apply And.right; assumption) | (apply And.right; apply And.right; apply And.right; apply And.right; apply And.right; apply And.right; apply And.right; apply And.right; apply And.right; apply And.right; apply And.right; assumption) | (apply And.right; apply And.right; apply And.right; apply And.right; apply And.right; apply And.right; apply And.right; apply And.right; apply And.right; apply And.right; apply And.right; apply And.right; assumption))); (case eA => rfl); (case eB => rfl); (case eC => rfl))

theorem wd25 : True := by
  k_with "w25" => (k_here; (with_reducible show wpAny _ _ (call (Value.ref 112) _) _ _ _); k_dflt (refine' gives_use2 (by walk_at "site") (g_rld _ _ _ _ _ _ _ _) (by ktr_room) (by ktr_units) ?_; intro D9 t9 u9 v9 h9 tk9 F9 N9 l1; (try k_lt l1); walk_at "fold9"))
  trivial
local macro_rules | `(tactic| walk_at "call ref") => `(tactic| k_extra "w25")
theorem g_load_flags (w : World) (news : Led) (v : Int) (tv : Tok) (i : Int) (ti : Tok) (f : Int) (tf : Tok)  : Gives w 119 2 news [.int v tv, .int i ti, .int f tf] (RInt news (bitOr (bitOr (szyxI v) (if i = 0 then 0 else 4)) (bitAnd f 1))) := by
  unfold Gives
  k_fill
  intro mean mg mb dp un gd cn cs a ccd cl outer A₀ base h₀ L m s Q E B F X N T hk hd hu hret
  refine wpAny_call ?_
  k_dflt cell_enter
  k_steps
  all_goals (refine' ri_end hret ?eF ?eN ?eS ?eE; (case eF => k_asm); (case eN => k_asm); (case eS => (intro p hp; repeat (first | exact hp | refine List.Mem.tail _ ?_ | exact List.mem_append_left _ hp))); (case eE => (first | with_reducible rfl | (first | (dsimp only; done) | ((try dsimp only); with_reducible rfl) | ((try dsimp only); (simp (disch := assumption) only [if_pos, if_neg]); done) | (exfalso; omega)))))

theorem wd26 : True := by
  k_with "w26" => (k_here; (with_reducible show wpAny _ _ (call (Value.ref 119) _) _ _ _); k_dflt (refine' gives_use2 (by walk_at "site") (g_load_flags _ _ _ _ _ _ _ _) (by ktr_room) (by ktr_units) ?_; intro t9 h9 tk9 F9 N9; walk_at "fold9"))
  trivial
local macro_rules | `(tactic| walk_at "call ref") => `(tactic| k_extra "w26")
theorem g_in_flags (w : World) (news : Led) (v : Int) (tv : Tok) (f : Int) (tf : Tok)  : Gives w 126 2 news [.int v tv, .int f tf] (RInt news (spcF v f)) := by
  unfold Gives
  k_fill
  intro mean mg mb dp un gd cn cs a ccd cl outer A₀ base h₀ L m s Q E B F X N T hk hd hu hret
  refine wpAny_call ?_
  k_dflt cell_enter
  k_steps
  all_goals (refine' ri_end hret ?eF ?eN ?eS ?eE; (case eF => k_asm); (case eN => k_asm); (case eS => (intro p hp; repeat (first | exact hp | refine List.Mem.tail _ ?_ | exact List.mem_append_left _ hp))); (case eE => (first | with_reducible rfl | (delta spcF; first | (dsimp only; done) | ((try dsimp only); with_reducible rfl) | ((try dsimp only); (simp (disch := assumption) only [if_pos, if_neg]); done) | (exfalso; omega)))))

theorem wd27 : True := by
  k_with "w27" => (k_here; (with_reducible show wpAny _ _ (call (Value.ref 126) _) _ _ _); k_dflt (refine' gives_use2 (by walk_at "site") (g_in_flags _ _ _ _ _ _) (by ktr_room) (by ktr_units) ?_; intro t9 h9 tk9 F9 N9; walk_at "fold9"))
  trivial
local macro_rules | `(tactic| walk_at "call ref") => `(tactic| k_extra "w27")
theorem g_move_flags (w : World) (news : Led) (x : Int) (tx : Tok) (v : Int) (tv : Tok) (l : Int) (tl : Tok) (f : Int) (tf : Tok)  : Gives w 133 2 news [.int x tx, .int v tv, .int l tl, .int f tf] (RInt news (moveF x v l f)) := by
  unfold Gives
  k_fill
  intro mean mg mb dp un gd cn cs a ccd cl outer A₀ base h₀ L m s Q E B F X N T hk hd hu hret
  refine wpAny_call ?_
  k_dflt cell_enter
  k_steps
  all_goals (refine' ri_end hret ?eF ?eN ?eS ?eE; (case eF => k_asm); (case eN => k_asm); (case eS => (intro p hp; repeat (first | exact hp | refine List.Mem.tail _ ?_ | exact List.mem_append_left _ hp))); (case eE => (first | with_reducible rfl | (delta moveF; first | (dsimp only; done) | ((try dsimp only); with_reducible rfl) | ((try dsimp only); (simp (disch := assumption) only [if_pos, if_neg]); done) | (exfalso; omega)))))

theorem wd28 : True := by
  k_with "w28" => (k_here; (with_reducible show wpAny _ _ (call (Value.ref 133) _) _ _ _); k_dflt (refine' gives_use2 (by walk_at "site") (g_move_flags _ _ _ _ _ _ _ _ _ _) (by ktr_room) (by ktr_units) ?_; intro t9 h9 tk9 F9 N9; walk_at "fold9"))
  trivial
local macro_rules | `(tactic| walk_at "call ref") => `(tactic| k_extra "w28")
theorem g_seek_flags (w : World) (news : Led) (x : Int) (tx : Tok) (v : Int) (tv : Tok) (l : Int) (tl : Tok) (f : Int) (tf : Tok)  : Gives w 140 3 news [.int x tx, .int v tv, .int l tl, .int f tf] (RInt news (seekF x v l f)) := by
  unfold Gives
  k_fill
  intro mean mg mb dp un gd cn cs a ccd cl outer A₀ base h₀ L m s Q E B F X N T hk hd hu hret
  refine wpAny_call ?_
  k_dflt cell_enter
  k_steps
  all_goals (refine' ri_end hret ?eF ?eN ?eS ?eE; (case eF => k_asm); (case eN => k_asm); (case eS => (intro p hp; repeat (first | exact hp | refine List.Mem.tail _ ?_ | exact List.mem_append_left _ hp))); (case eE => (first | with_reducible rfl | (delta seekF seekT; first | (dsimp only; done) | ((try dsimp only); with_reducible rfl) | ((try dsimp only); (simp (disch := assumption) only [if_pos, if_neg]); done) | (exfalso; omega)))))

theorem wd29 : True := by
  k_with "w29" => (k_here; (with_reducible show wpAny _ _ (call (Value.ref 140) _) _ _ _); k_dflt (refine' gives_use2 (by walk_at "site") (g_seek_flags _ _ _ _ _ _ _ _ _ _) (by ktr_room) (by ktr_units) ?_; intro t9 h9 tk9 F9 N9; walk_at "fold9"))
  trivial
local macro_rules | `(tactic| walk_at "call ref") => `(tactic| k_extra "w29")
theorem off_gen4 : True ∧ True := by
  w_top off
  walk1
  all_goals trivial
/-! gen4 -/
theorem g_bits (w : World) (news : Led) (v : Int) (tv : Tok)  : Gives w 169 1 news [.int v tv] (RBits news v) := by
  unfold Gives
  k_fill
  intro mean mg mb dp un gd cn cs a ccd cl outer A₀ base h₀ L m s Q E B F X N T hk hd hu hret
  refine wpAny_call ?_
  k_dflt (refine' code_defC ?k1 ?k2 ?k3 ?k4 ?k5 ?kA ?kF ?kK ?k6 ?k7 ?k8 ?k9 ?kB ?kD ?_ ?c2 ?c3 ?c4; (case kA => exact rfl); (case kF => exact rfl); (case kK => assumption); (case k1 => k_asm); (case k2 => k_asm); (case k3 => k_asm); (case k4 => k_asm); (case k5 => k_asm); (case k6 => k_is); (case k7 => k_is); (case k8 => ktr_room); (case k9 => exact BindsTo.of_eq rfl); (case kB => exact rfl); (case kD => decide +kernel); (case c2 => exact rfl); (case c3 => exact rfl); (case c4 => exact rfl); k_whole; intro g' L' h' tk' cells' FG' F' N' Y' B' X' T' l1; (try k_lt l1); k_cells Y'; (try simp only [List.cons_append, List.nil_append] at N'); (try dsimp only); (try k_lift B'); (try k_fold))
  k_steps
  all_goals (refine' bits_end hret ?eF ?eN ?eI ?eS ?eO; (case eF => k_asm); (case eN => k_asm); (case eI => assumption); (case eS => (intro p hp; repeat (first | exact hp | refine List.Mem.tail _ ?_ | exact List.mem_append_left _ hp))); (case eO => (first | assumption | (simp only [LCg.Off1] at *; first | assumption | (apply And.right; assumption) | (apply And.right; apply And.right; assumption) | (apply And.right; apply And.right; apply And.right; assumption) | (apply And.right; apply And.right; apply And.right; apply And.right; assumption) | (apply And.right; apply And.right; apply And.right; apply And.right; apply And.right; assumption)))))

theorem wd30 : True := by
  k_with "w30" => (k_here; (with_reducible show wpAny _ _ (call (Value.ref 169) _) _ _ _); k_dflt (refine' gives_use2 (by walk_at "site") (g_bits _ _ _ _) (by ktr_room) (by ktr_units) ?_; intro D9 t0 t1 t2 t3 t4 t5 t6 t7 h9 tk9 F9 N9 o9; (try simp only [LCg.Off1, and_true] at o9); walk_at "fold9"))
  trivial
local macro_rules | `(tactic| walk_at "call ref") => `(tactic| k_extra "w30")
section
theorem wd31 : True := by
  k_with "w31" => (first | assumption | exact allLt_of (by assumption) | (apply And.right; assumption) | (apply And.right; apply And.right; assumption) | (apply And.right; apply And.right; apply And.right; assumption) | (apply And.right; apply And.right; apply And.right; apply And.right; assumption) | (apply And.right; apply And.right; apply And.right; apply And.right; apply And.right; assumption) | (apply And.right; apply And.right; apply And.right; apply And.right; apply And.right; apply And.right; assumption) | (apply And.right; apply And.right; apply And.right; apply And.right; apply And.right; apply And.right; apply And.right; assumption) | (apply And.right; apply And.right; apply And.right; apply And.right; apply And.right; apply And.right; apply And.right; apply And.right; assumption) | (apply And.right; apply And.right; apply And.right; apply And.right; apply And.right; apply And.right; apply And.right; apply And.right; apply And.right; assumption) | (apply And.right; apply And.right; apply And.right; apply And.right; apply And.right; apply And.right; apply And.right; apply And.right; apply And.right; apply And.right; assumption) | (apply And.right; apply And.right; apply And.right; apply And.right; apply And.right; apply And.right; apply And.right; apply And.right; apply And.right; apply And.right; apply And.right; assumption) | (apply And.right; apply And.right; apply And.right; apply And.right; apply And.right; apply And.right; apply And.right; apply And.right; apply And.right; apply And.right; apply And.right; apply And.right; assumption))
  trivial
local macro_rules | `(tactic| walk_at "alls") => `(tactic| k_extra "w31")
theorem wd32 : True := by
  k_with "w32" => first | (refine all_ne0 ?_; walk_at "alls") | (refine all_ne1 ?_; walk_at "alls")
  trivial
local macro_rules | `(tactic| k_all) => `(tactic| k_extra "w32")
theorem wd33 : True := by
  k_with "w33" => (k_here; k_dflt (refine' made_str (by k_asm) (by k_asm) (by k_updF) (by k_asm) (by rfl) (by exact of_decide_eq_true (by first | rfl | kernel_rfl!)) ?_; intro h' o' tk' F' N' hd'; (try dsimp only at N'); (try dsimp only [strPairs] at hd')))
  trivial
local macro_rules | `(tactic| walk_at "KdnMade") => `(tactic| k_extra "w33")
theorem wd34 : True := by
  k_with "w34" => (k_here; (try dsimp only); first | k_gentoks | ((with_reducible refine wpAny_execs_cons ?_); try dsimp only))
  trivial
local macro_rules | `(tactic| walk_at "execs cons") => `(tactic| k_extra "w34")
theorem wd35 : True := by
  k_with "w35" => (k_here; (try dsimp only); first | k_gentoks | ((with_reducible refine wpAny_execs_cons ?_); try dsimp only))
  trivial
local macro_rules | `(tactic| walk_at "execs cons Assign cons") => `(tactic| k_extra "w35")
theorem wd36 : True := by
  k_with "w36" => (with_unfolding_all first | (refine LCg.CompRest.succ ?_; intro v' I' oI' C' oC' D' m' h' tk' E' hv' hC' hx' F' N' off' ne'; (first | lcg_open hv' | (obtain ⟨t9', hv9'⟩ := hv'; subst hv9')); (have off2' := off'); (try simp only [LCg.Off3, and_true] at off')) | refine LCg.CompRest.zero ?_)
  trivial
local macro_rules | `(tactic| walk_at "CompRest") => `(tactic| k_extra "w36")
theorem wd37 : True := by
  k_with "w37" => (k_here; k_dflt (refine' LCg.CompEnd.intro (by assumption) (by assumption) _ (fun p h => h) (by assumption) (by lcg_src) ?_))
  trivial
local macro_rules | `(tactic| walk_at "CompEnd") => `(tactic| k_extra "w37")
theorem g_toldSZYXP (w : World) (rest : Led) (l : Addr) (t0 t1 t2 t3 : Tok) (n : Nat) (r : Int) (tr : Tok) (f : Int) (tf : Tok) : Gives w 179 2 ((l, listOf #[.str (Str.ofString "S") t0, .str (Str.ofString "Z") t1, .str (Str.ofString "YX") t2, .str (Str.ofString "P") t3] n) :: rest) [.int r tr, .int f tf, .ref l] (RInt ((l, listOf #[.str (Str.ofString "S") t0, .str (Str.ofString "Z") t1, .str (Str.ofString "YX") t2, .str (Str.ofString "P") t3] n) :: rest) (tS r + (tZ r + (tYX r + (tP r + (0)))))) := by
  unfold Gives
  k_fill
  intro mean mg mb dp un gd cn cs a ccd cl outer A₀ base h₀ L m s Q E B F X N T hk hd hu hret
  refine wpAny_call ?_
  k_dflt (refine' code_defC ?k1 ?k2 ?k3 ?k4 ?k5 ?kA ?kF ?kK ?k6 ?k7 ?k8 ?k9 ?kB ?kD ?_ ?c2 ?c3 ?c4; (case kA => exact rfl); (case kF => exact rfl); (case kK => assumption); (case k1 => k_asm); (case k2 => k_asm); (case k3 => k_asm); (case k4 => k_asm); (case k5 => k_asm); (case k6 => k_is); (case k7 => k_is); (case k8 => ktr_room); (case k9 => exact BindsTo.of_eq rfl); (case kB => exact rfl); (case kD => decide +kernel); (case c2 => exact rfl); (case c3 => exact rfl); (case c4 => exact rfl); k_whole; intro g' L' h' tk' cells' FG' F' N' Y' B' X' T' l1; (try k_lt l1); k_cells Y'; (try simp only [List.cons_append, List.nil_append] at N'); (try dsimp only); (try k_lift B'); (try k_fold))
  k_steps
  all_goals (refine' ri_end hret ?eF ?eN ?eS ?eE; (case eF => k_asm); (case eN => k_asm); (case eS => (intro p hp; repeat (first | exact hp | refine List.Mem.tail _ ?_ | exact List.mem_append_left _ hp))); (case eE => rfl))

theorem g_toldszpYX (w : World) (rest : Led) (l : Addr) (t0 t1 : Tok) (n : Nat) (r : Int) (tr : Tok) (f : Int) (tf : Tok) : Gives w 179 2 ((l, listOf #[.str (Str.ofString "szp") t0, .str (Str.ofString "YX") t1] n) :: rest) [.int r tr, .int f tf, .ref l] (RInt ((l, listOf #[.str (Str.ofString "szp") t0, .str (Str.ofString "YX") t1] n) :: rest) (tszp f + (tYX r + (0)))) := by
  unfold Gives
  k_fill
  intro mean mg mb dp un gd cn cs a ccd cl outer A₀ base h₀ L m s Q E B F X N T hk hd hu hret
  refine wpAny_call ?_
  k_dflt (refine' code_defC ?k1 ?k2 ?k3 ?k4 ?k5 ?kA ?kF ?kK ?k6 ?k7 ?k8 ?k9 ?kB ?kD ?_ ?c2 ?c3 ?c4; (case kA => exact rfl); (case kF => exact rfl); (case kK => assumption); (case k1 => k_asm); (case k2 => k_asm); (case k3 => k_asm); (case k4 => k_asm); (case k5 => k_asm); (case k6 => k_is); (case k7 => k_is); (case k8 => ktr_room); (case k9 => exact BindsTo.of_eq rfl); (case kB => exact rfl); (case kD => decide +kernel); (case c2 => exact rfl); (case c3 => exact rfl); (case c4 => exact rfl); k_whole; intro g' L' h' tk' cells' FG' F' N' Y' B' X' T' l1; (try k_lt l1); k_cells Y'; (try simp only [List.cons_append, List.nil_append] at N'); (try dsimp only); (try k_lift B'); (try k_fold))
  k_steps
  all_goals (refine' ri_end hret ?eF ?eN ?eS ?eE; (case eF => k_asm); (case eN => k_asm); (case eS => (intro p hp; repeat (first | exact hp | refine List.Mem.tail _ ?_ | exact List.mem_append_left _ hp))); (case eE => rfl))

theorem g_toldYX (w : World) (rest : Led) (l : Addr) (t0 : Tok) (n : Nat) (r : Int) (tr : Tok) (f : Int) (tf : Tok) : Gives w 179 2 ((l, listOf #[.str (Str.ofString "YX") t0] n) :: rest) [.int r tr, .int f tf, .ref l] (RInt ((l, listOf #[.str (Str.ofString "YX") t0] n) :: rest) (tYX r + (0))) := by
  unfold Gives
  k_fill
  intro mean mg mb dp un gd cn cs a ccd cl outer A₀ base h₀ L m s Q E B F X N T hk hd hu hret
  refine wpAny_call ?_
  k_dflt (refine' code_defC ?k1 ?k2 ?k3 ?k4 ?k5 ?kA ?kF ?kK ?k6 ?k7 ?k8 ?k9 ?kB ?kD ?_ ?c2 ?c3 ?c4; (case kA => exact rfl); (case kF => exact rfl); (case kK => assumption); (case k1 => k_asm); (case k2 => k_asm); (case k3 => k_asm); (case k4 => k_asm); (case k5 => k_asm); (case k6 => k_is); (case k7 => k_is); (case k8 => ktr_room); (case k9 => exact BindsTo.of_eq rfl); (case kB => exact rfl); (case kD => decide +kernel); (case c2 => exact rfl); (case c3 => exact rfl); (case c4 => exact rfl); k_whole; intro g' L' h' tk' cells' FG' F' N' Y' B' X' T' l1; (try k_lt l1); k_cells Y'; (try simp only [List.cons_append, List.nil_append] at N'); (try dsimp only); (try k_lift B'); (try k_fold))
  k_steps
  all_goals (refine' ri_end hret ?eF ?eN ?eS ?eE; (case eF => k_asm); (case eN => k_asm); (case eS => (intro p hp; repeat (first | exact hp | refine List.Mem.tail _ ?_ | exact List.mem_append_left _ hp))); (case eE => rfl))

theorem g_toldSZYXPc (w : World) (rest : Led) (l : Addr) (t0 t1 t2 t3 t4 : Tok) (n : Nat) (r : Int) (tr : Tok) (f : Int) (tf : Tok) : Gives w 179 2 ((l, listOf #[.str (Str.ofString "S") t0, .str (Str.ofString "Z") t1, .str (Str.ofString "YX") t2, .str (Str.ofString "P") t3, .str (Str.ofString "c") t4] n) :: rest) [.int r tr, .int f tf, .ref l] (RInt ((l, listOf #[.str (Str.ofString "S") t0, .str (Str.ofString "Z") t1, .str (Str.ofString "YX") t2, .str (Str.ofString "P") t3, .str (Str.ofString "c") t4] n) :: rest) (tS r + (tZ r + (tYX r + (tP r + (f.fmod 2 + (0))))))) := by
  unfold Gives
  k_fill
  intro mean mg mb dp un gd cn cs a ccd cl outer A₀ base h₀ L m s Q E B F X N T hk hd hu hret
  refine wpAny_call ?_
  k_dflt (refine' code_defC ?k1 ?k2 ?k3 ?k4 ?k5 ?kA ?kF ?kK ?k6 ?k7 ?k8 ?k9 ?kB ?kD ?_ ?c2 ?c3 ?c4; (case kA => exact rfl); (case kF => exact rfl); (case kK => assumption); (case k1 => k_asm); (case k2 => k_asm); (case k3 => k_asm); (case k4 => k_asm); (case k5 => k_asm); (case k6 => k_is); (case k7 => k_is); (case k8 => ktr_room); (case k9 => exact BindsTo.of_eq rfl); (case kB => exact rfl); (case kD => decide +kernel); (case c2 => exact rfl); (case c3 => exact rfl); (case c4 => exact rfl); k_whole; intro g' L' h' tk' cells' FG' F' N' Y' B' X' T' l1; (try k_lt l1); k_cells Y'; (try simp only [List.cons_append, List.nil_append] at N'); (try dsimp only); (try k_lift B'); (try k_fold))
  k_steps
  all_goals (refine' ri_end hret ?eF ?eN ?eS ?eE; (case eF => k_asm); (case eN => k_asm); (case eS => (intro p hp; repeat (first | exact hp | refine List.Mem.tail _ ?_ | exact List.mem_append_left _ hp))); (case eE => rfl))

theorem g_toldszp (w : World) (rest : Led) (l : Addr) (t0 : Tok) (n : Nat) (r : Int) (tr : Tok) (f : Int) (tf : Tok) : Gives w 179 2 ((l, listOf #[.str (Str.ofString "szp") t0] n) :: rest) [.int r tr, .int f tf, .ref l] (RInt ((l, listOf #[.str (Str.ofString "szp") t0] n) :: rest) (tszp f + (0))) := by
  unfold Gives
  k_fill
  intro mean mg mb dp un gd cn cs a ccd cl outer A₀ base h₀ L m s Q E B F X N T hk hd hu hret
  refine wpAny_call ?_
  k_dflt (refine' code_defC ?k1 ?k2 ?k3 ?k4 ?k5 ?kA ?kF ?kK ?k6 ?k7 ?k8 ?k9 ?kB ?kD ?_ ?c2 ?c3 ?c4; (case kA => exact rfl); (case kF => exact rfl); (case kK => assumption); (case k1 => k_asm); (case k2 => k_asm); (case k3 => k_asm); (case k4 => k_asm); (case k5 => k_asm); (case k6 => k_is); (case k7 => k_is); (case k8 => ktr_room); (case k9 => exact BindsTo.of_eq rfl); (case kB => exact rfl); (case kD => decide +kernel); (case c2 => exact rfl); (case c3 => exact rfl); (case c4 => exact rfl); k_whole; intro g' L' h' tk' cells' FG' F' N' Y' B' X' T' l1; (try k_lt l1); k_cells Y'; (try simp only [List.cons_append, List.nil_append] at N'); (try dsimp only); (try k_lift B'); (try k_fold))
  k_steps
  all_goals (refine' ri_end hret ?eF ?eN ?eS ?eE; (case eF => k_asm); (case eN => k_asm); (case eS => (intro p hp; repeat (first | exact hp | refine List.Mem.tail _ ?_ | exact List.mem_append_left _ hp))); (case eE => rfl))

theorem g_toldYXHNc (w : World) (rest : Led) (l : Addr) (t0 t1 t2 t3 : Tok) (n : Nat) (r : Int) (tr : Tok) (f : Int) (tf : Tok) : Gives w 179 2 ((l, listOf #[.str (Str.ofString "YX") t0, .str (Str.ofString "H") t1, .str (Str.ofString "N") t2, .str (Str.ofString "c") t3] n) :: rest) [.int r tr, .int f tf, .ref l] (RInt ((l, listOf #[.str (Str.ofString "YX") t0, .str (Str.ofString "H") t1, .str (Str.ofString "N") t2, .str (Str.ofString "c") t3] n) :: rest) (tYX r + (16 + (2 + (f.fmod 2 + (0)))))) := by
  unfold Gives
  k_fill
  intro mean mg mb dp un gd cn cs a ccd cl outer A₀ base h₀ L m s Q E B F X N T hk hd hu hret
  refine wpAny_call ?_
  k_dflt (refine' code_defC ?k1 ?k2 ?k3 ?k4 ?k5 ?kA ?kF ?kK ?k6 ?k7 ?k8 ?k9 ?kB ?kD ?_ ?c2 ?c3 ?c4; (case kA => exact rfl); (case kF => exact rfl); (case kK => assumption); (case k1 => k_asm); (case k2 => k_asm); (case k3 => k_asm); (case k4 => k_asm); (case k5 => k_asm); (case k6 => k_is); (case k7 => k_is); (case k8 => ktr_room); (case k9 => exact BindsTo.of_eq rfl); (case kB => exact rfl); (case kD => decide +kernel); (case c2 => exact rfl); (case c3 => exact rfl); (case c4 => exact rfl); k_whole; intro g' L' h' tk' cells' FG' F' N' Y' B' X' T' l1; (try k_lt l1); k_cells Y'; (try simp only [List.cons_append, List.nil_append] at N'); (try dsimp only); (try k_lift B'); (try k_fold))
  k_steps
  all_goals (refine' ri_end hret ?eF ?eN ?eS ?eE; (case eF => k_asm); (case eN => k_asm); (case eS => (intro p hp; repeat (first | exact hp | refine List.Mem.tail _ ?_ | exact List.mem_append_left _ hp))); (case eE => rfl))

theorem g_toldSZc (w : World) (rest : Led) (l : Addr) (t0 t1 t2 : Tok) (n : Nat) (r : Int) (tr : Tok) (f : Int) (tf : Tok) : Gives w 179 2 ((l, listOf #[.str (Str.ofString "S") t0, .str (Str.ofString "Z") t1, .str (Str.ofString "c") t2] n) :: rest) [.int r tr, .int f tf, .ref l] (RInt ((l, listOf #[.str (Str.ofString "S") t0, .str (Str.ofString "Z") t1, .str (Str.ofString "c") t2] n) :: rest) (tS r + (tZ r + (f.fmod 2 + (0))))) := by
  unfold Gives
  k_fill
  intro mean mg mb dp un gd cn cs a ccd cl outer A₀ base h₀ L m s Q E B F X N T hk hd hu hret
  refine wpAny_call ?_
  k_dflt (refine' code_defC ?k1 ?k2 ?k3 ?k4 ?k5 ?kA ?kF ?kK ?k6 ?k7 ?k8 ?k9 ?kB ?kD ?_ ?c2 ?c3 ?c4; (case kA => exact rfl); (case kF => exact rfl); (case kK => assumption); (case k1 => k_asm); (case k2 => k_asm); (case k3 => k_asm); (case k4 => k_asm); (case k5 => k_asm); (case k6 => k_is); (case k7 => k_is); (case k8 => ktr_room); (case k9 => exact BindsTo.of_eq rfl); (case kB => exact rfl); (case kD => decide +kernel); (case c2 => exact rfl); (case c3 => exact rfl); (case c4 => exact rfl); k_whole; intro g' L' h' tk' cells' FG' F' N' Y' B' X' T' l1; (try k_lt l1); k_cells Y'; (try simp only [List.cons_append, List.nil_append] at N'); (try dsimp only); (try k_lift B'); (try k_fold))
  k_steps
  all_goals (refine' ri_end hret ?eF ?eN ?eS ?eE; (case eF => k_asm); (case eN => k_asm); (case eS => (intro p hp; repeat (first | exact hp | refine List.Mem.tail _ ?_ | exact List.mem_append_left _ hp))); (case eE => rfl))

theorem g_toldSZYXc (w : World) (rest : Led) (l : Addr) (t0 t1 t2 t3 : Tok) (n : Nat) (r : Int) (tr : Tok) (f : Int) (tf : Tok) : Gives w 179 2 ((l, listOf #[.str (Str.ofString "S") t0, .str (Str.ofString "Z") t1, .str (Str.ofString "YX") t2, .str (Str.ofString "c") t3] n) :: rest) [.int r tr, .int f tf, .ref l] (RInt ((l, listOf #[.str (Str.ofString "S") t0, .str (Str.ofString "Z") t1, .str (Str.ofString "YX") t2, .str (Str.ofString "c") t3] n) :: rest) (tS r + (tZ r + (tYX r + (f.fmod 2 + (0)))))) := by
  unfold Gives
  k_fill
  intro mean mg mb dp un gd cn cs a ccd cl outer A₀ base h₀ L m s Q E B F X N T hk hd hu hret
  refine wpAny_call ?_
  k_dflt (refine' code_defC ?k1 ?k2 ?k3 ?k4 ?k5 ?kA ?kF ?kK ?k6 ?k7 ?k8 ?k9 ?kB ?kD ?_ ?c2 ?c3 ?c4; (case kA => exact rfl); (case kF => exact rfl); (case kK => assumption); (case k1 => k_asm); (case k2 => k_asm); (case k3 => k_asm); (case k4 => k_asm); (case k5 => k_asm); (case k6 => k_is); (case k7 => k_is); (case k8 => ktr_room); (case k9 => exact BindsTo.of_eq rfl); (case kB => exact rfl); (case kD => decide +kernel); (case c2 => exact rfl); (case c3 => exact rfl); (case c4 => exact rfl); k_whole; intro g' L' h' tk' cells' FG' F' N' Y' B' X' T' l1; (try k_lt l1); k_cells Y'; (try simp only [List.cons_append, List.nil_append] at N'); (try dsimp only); (try k_lift B'); (try k_fold))
  k_steps
  all_goals (refine' ri_end hret ?eF ?eN ?eS ?eE; (case eF => k_asm); (case eN => k_asm); (case eS => (intro p hp; repeat (first | exact hp | refine List.Mem.tail _ ?_ | exact List.mem_append_left _ hp))); (case eE => rfl))

end
theorem off_in4 : True ∧ True := by
  w_top off
  walk1
  all_goals trivial
theorem off_gen5 : True ∧ True := by
  w_top off
  walk1
  all_goals trivial
/-! gen5 -/
section
theorem wd38 : True := by
  k_with "w38" => (k_here; k_dflt (refine en_ListComp (by rfl) (by rfl) (by decide) ?_))
  trivial
local macro_rules | `(tactic| walk_at "eval ListComp") => `(tactic| k_extra "w38")
theorem wd39 : True := by
  k_with "w39" => (k_here; k_dflt (refine' en_call (by exact rfl) (by k_asm) (by k_asm) (by k_mem) (by decide) (by exact rfl) (by exact rfl) (by exact rfl) (by assumption) (by assumption) (by assumption) (by assumption) (by assumption) (by assumption) (by assumption) (by assumption) ?_; intro D9 u0 u1 u2 u3 u4 u5 u6 u7 h9 tk9 F9 N9 o9; (try simp only [LCg.Off1, and_true] at o9); (try dsimp only); (try k_fold)))
  trivial
local macro_rules | `(tactic| walk_at "call type:enumerate") => `(tactic| k_extra "w39")
theorem g_octet (w : World) (rest : Led) (l : Addr) (t0 t1 t2 t3 t4 t5 t6 t7 : Tok) (n : Nat) (b0 b1 b2 b3 b4 b5 b6 b7 : Int) (r0 : 0 ≤ b0 ∧ b0 < 2) (r1 : 0 ≤ b1 ∧ b1 < 2) (r2 : 0 ≤ b2 ∧ b2 < 2) (r3 : 0 ≤ b3 ∧ b3 < 2) (r4 : 0 ≤ b4 ∧ b4 < 2) (r5 : 0 ≤ b5 ∧ b5 < 2) (r6 : 0 ≤ b6 ∧ b6 < 2) (r7 : 0 ≤ b7 ∧ b7 < 2) : Gives w 174 2 ((l, listOf #[.int b0 t0, .int b1 t1, .int b2 t2, .int b3 t3, .int b4 t4, .int b5 t5, .int b6 t6, .int b7 t7] n) :: rest) [.ref l] (RInt ((l, listOf #[.int b0 t0, .int b1 t1, .int b2 t2, .int b3 t3, .int b4 t4, .int b5 t5, .int b6 t6, .int b7 t7] n) :: rest) (octI b0 b1 b2 b3 b4 b5 b6 b7)) := by
  unfold Gives
  k_fill
  intro mean mg mb dp un gd cn cs a ccd cl outer A₀ base h₀ L m s Q E B F X N T hk hd hu hret
  refine wpAny_call ?_
  k_dflt cell_enter
  k_steps
  all_goals (refine' ri_end hret ?eF ?eN ?eS ?eE; (case eF => k_asm); (case eN => k_asm); (case eS => (intro p hp; repeat (first | exact hp | refine List.Mem.tail _ ?_ | exact List.mem_append_left _ hp))); (case eE => exact rfl))
end
theorem off_in5 : True ∧ True := by
  w_top off
  walk1
  all_goals trivial
theorem off_gen6 : True ∧ True := by
  w_top off
  walk1
  all_goals trivial
/-! gen6 -/
theorem wd40 : True := by
  k_with "w40" => (k_here; (with_reducible show wpAny _ _ (call (Value.ref 174) _) _ _ _); k_dflt (refine' gives_use2 (by walk_at "site") (g_octet _ _ _ _ _ _ _ _ _ _ _ _ _ _ _ _ _ _ _ _ (by first | assumption | exact bit_range _ _ | exact m2_range _ | decide) (by first | assumption | exact bit_range _ _ | exact m2_range _ | decide) (by first | assumption | exact bit_range _ _ | exact m2_range _ | decide) (by first | assumption | exact bit_range _ _ | exact m2_range _ | decide) (by first | assumption | exact bit_range _ _ | exact m2_range _ | decide) (by first | assumption | exact bit_range _ _ | exact m2_range _ | decide) (by first | assumption | exact bit_range _ _ | exact m2_range _ | decide) (by first | assumption | exact bit_range _ _ | exact m2_range _ | decide)) (by ktr_room) (by ktr_units) ?_; intro t9 h9 tk9 F9 N9; walk_at "fold9"))
  trivial
local macro_rules | `(tactic| walk_at "call ref") => `(tactic| k_extra "w40")
section
theorem wd41 : True := by
  k_with "w41" => (k_here; k_dflt (refine' kdn_eval (knd := PySem.intKind _ _) (by k_asm) (by k_asm) (by exact Top.nolimit (by k_asm)) (by rfl) (by rfl) (by exact List.cons_ne_nil _ _) (by exact Nat.le_of_ble_eq_true rfl) ?_); intro d' h' o' F' N' l1 lo' hd'; (try k_lt l1))
  trivial
local macro_rules | `(tactic| walk_at "eval Dict") => `(tactic| k_extra "w41")
theorem wd42 : True := by
  k_with "w42" => (k_here; k_dflt (refine kdt_getItem (knd := PySem.intKind _ _) (by k_asm) (by k_mem) (by k_asm) (intKind_is _ _ _ _) (by rfl) ?_))
  trivial
local macro_rules | `(tactic| walk_at "getItem ref int") => `(tactic| k_extra "w42")
theorem wd43 : True := by
  k_with "w43" => (k_here; (with_reducible show ite (List.any _ _ = true) _ _); first | (refine (if_pos (by decide)).mpr ?_) | (refine (if_neg (by decide)).mpr ?_))
  trivial
local macro_rules | `(tactic| walk_at "ite") => `(tactic| k_extra "w43")
theorem g_lturned0 (w : World) (news : Led) (tk : Tok) (v : Int) (tv : Tok) (f : Int) (tf : Tok) (hv0 : 0 ≤ v) (hv1 : v < 256) : Gives w 186 3 news [.int 0 tk, .int v tv, .int f tf] (RTup news (turnR 0 v f) (turnOut 0 v)) := by
  unfold Gives
  k_fill
  intro mean mg mb dp un gd cn cs a ccd cl outer A₀ base h₀ L m s Q E B F X N T hk hd hu hret
  refine wpAny_call ?_
  k_dflt cell_enter
  k_steps
  all_goals (refine' rt_end hret ?eF ?eN ?eM ?eS ?eL ?eA ?eB; (case eF => k_asm); (case eN => k_asm); (case eM => k_mem); (case eS => (intro p hp; repeat (first | exact hp | refine List.Mem.tail _ ?_ | exact List.mem_append_left _ hp))); (case eL => (first | assumption | exact allLt_of (by assumption) | (apply And.right; assumption) | (apply And.right; apply And.right; assumption) | (apply And.right; apply And.right; apply And.right; assumption) | (apply And.right; apply And.right; apply And.right; apply And.right; assumption) | (apply And.right; apply And.right; apply And.right; apply And.right; apply And.right; assumption) | (apply And.right; apply And.right; apply And.right; apply And.right; apply And.right; apply And.right; assumption) | (apply And.right; apply And.right; apply And.right; apply And.right; apply And.right; apply And.right; apply And.right; assumption) | (apply And.right; apply And.right; apply And.right; apply And.right; apply And.right; apply And.right; apply And.right; apply And.right; assumption) | (apply And.right; apply And.right; apply And.right; apply And.right; apply And.right; apply And.right; apply And.right; apply And.right; apply And.right; assumption) | (apply And.right; apply And.right; apply And.right; apply And.right; apply And.right; apply And.right; apply And.right; apply And.right; apply And.right; apply And.right; assumption) | (apply And.right; apply And.right; apply And.right; apply And.right; apply And.right; apply And.right; apply And.right; apply And.right; apply And.right; apply And.right; apply And.right; assumption) | (apply And.right; apply And.right; apply And.right; apply And.right; apply And.right; apply And.right; apply And.right; apply And.right; apply And.right; apply And.right; apply And.right; apply And.right; assumption))); (case eA => exact (lturn (k := 0) f (by decide) (by decide) hv0 hv1).1); (case eB => exact (lturn (k := 0) f (by decide) (by decide) hv0 hv1).2.1))

theorem g_lturned1 (w : World) (news : Led) (tk : Tok) (v : Int) (tv : Tok) (f : Int) (tf : Tok) (hv0 : 0 ≤ v) (hv1 : v < 256) : Gives w 186 3 news [.int 1 tk, .int v tv, .int f tf] (RTup news (turnR 1 v f) (turnOut 1 v)) := by
  unfold Gives
  k_fill
  intro mean mg mb dp un gd cn cs a ccd cl outer A₀ base h₀ L m s Q E B F X N T hk hd hu hret
  refine wpAny_call ?_
  k_dflt cell_enter
  k_steps
  all_goals (refine' rt_end hret ?eF ?eN ?eM ?eS ?eL ?eA ?eB; (case eF => k_asm); (case eN => k_asm); (case eM => k_mem); (case eS => (intro p hp; repeat (first | exact hp | refine List.Mem.tail _ ?_ | exact List.mem_append_left _ hp))); (case eL => (first | assumption | exact allLt_of (by assumption) | (apply And.right; assumption) | (apply And.right; apply And.right; assumption) | (apply And.right; apply And.right; apply And.right; assumption) | (apply And.right; apply And.right; apply And.right; apply And.right; assumption) | (apply And.right; apply And.right; apply And.right; apply And.right; apply And.right; assumption) | (apply And.right; apply And.right; apply And.right; apply And.right; apply And.right; apply And.right; assumption) | (apply And.right; apply And.right; apply And.right; apply And.right; apply And.right; apply And.right; apply And.right; assumption) | (apply And.right; apply And.right; apply And.right; apply And.right; apply And.right; apply And.right; apply And.right; apply And.right; assumption) | (apply And.right; apply And.right; apply And.right; apply And.right; apply And.right; apply And.right; apply And.right; apply And.right; apply And.right; assumption) | (apply And.right; apply And.right; apply And.right; apply And.right; apply And.right; apply And.right; apply And.right; apply And.right; apply And.right; apply And.right; assumption) | (apply And.right; apply And.right; apply And.right; apply And.right; apply And.right; apply And.right; apply And.right; apply And.right; apply And.right; apply And.right; apply And.right; assumption) | (apply And.right; apply And.right; apply And.right; apply And.right; apply And.right; apply And.right; apply And.right; apply And.right; apply And.right; apply And.right; apply And.right; apply And.right; assumption))); (case eA => exact (lturn (k := 1) f (by decide) (by decide) hv0 hv1).1); (case eB => exact (lturn (k := 1) f (by decide) (by decide) hv0 hv1).2.1))

theorem g_lturned2 (w : World) (news : Led) (tk : Tok) (v : Int) (tv : Tok) (f : Int) (tf : Tok) (hv0 : 0 ≤ v) (hv1 : v < 256) : Gives w 186 3 news [.int 2 tk, .int v tv, .int f tf] (RTup news (turnR 2 v f) (turnOut 2 v)) := by
  unfold Gives
  k_fill
  intro mean mg mb dp un gd cn cs a ccd cl outer A₀ base h₀ L m s Q E B F X N T hk hd hu hret
  refine wpAny_call ?_
  k_dflt cell_enter
  k_steps
  all_goals (refine' rt_end hret ?eF ?eN ?eM ?eS ?eL ?eA ?eB; (case eF => k_asm); (case eN => k_asm); (case eM => k_mem); (case eS => (intro p hp; repeat (first | exact hp | refine List.Mem.tail _ ?_ | exact List.mem_append_left _ hp))); (case eL => (first | assumption | exact allLt_of (by assumption) | (apply And.right; assumption) | (apply And.right; apply And.right; assumption) | (apply And.right; apply And.right; apply And.right; assumption) | (apply And.right; apply And.right; apply And.right; apply And.right; assumption) | (apply And.right; apply And.right; apply And.right; apply And.right; apply And.right; assumption) | (apply And.right; apply And.right; apply And.right; apply And.right; apply And.right; apply And.right; assumption) | (apply And.right; apply And.right; apply And.right; apply And.right; apply And.right; apply And.right; apply And.right; assumption) | (apply And.right; apply And.right; apply And.right; apply And.right; apply And.right; apply And.right; apply And.right; apply And.right; assumption) | (apply And.right; apply And.right; apply And.right; apply And.right; apply And.right; apply And.right; apply And.right; apply And.right; apply And.right; assumption) | (apply And.right; apply And.right; apply And.right; apply And.right; apply And.right; apply And.right; apply And.right; apply And.right; apply And.right; apply And.right; assumption) | (apply And.right; apply And.right; apply And.right; apply And.right; apply And.right; apply And.right; apply And.right; apply And.right; apply And.right; apply And.right; apply And.right; assumption) | (apply And.right; apply And.right; apply And.right; apply And.right; apply And.right; apply And.right; apply And.right; apply And.right; apply And.right; apply And.right; apply And.right; apply And.right; assumption))); (case eA => exact (lturn (k := 2) f (by decide) (by decide) hv0 hv1).1); (case eB => exact (lturn (k := 2) f (by decide) (by decide) hv0 hv1).2.1))

theorem g_lturned3 (w : World) (news : Led) (tk : Tok) (v : Int) (tv : Tok) (f : Int) (tf : Tok) (hv0 : 0 ≤ v) (hv1 : v < 256) : Gives w 186 3 news [.int 3 tk, .int v tv, .int f tf] (RTup news (turnR 3 v f) (turnOut 3 v)) := by
  unfold Gives
  k_fill
  intro mean mg mb dp un gd cn cs a ccd cl outer A₀ base h₀ L m s Q E B F X N T hk hd hu hret
  refine wpAny_call ?_
  k_dflt cell_enter
  k_steps
  all_goals (refine' rt_end hret ?eF ?eN ?eM ?eS ?eL ?eA ?eB; (case eF => k_asm); (case eN => k_asm); (case eM => k_mem); (case eS => (intro p hp; repeat (first | exact hp | refine List.Mem.tail _ ?_ | exact List.mem_append_left _ hp))); (case eL => (first | assumption | exact allLt_of (by assumption) | (apply And.right; assumption) | (apply And.right; apply And.right; assumption) | (apply And.right; apply And.right; apply And.right; assumption) | (apply And.right; apply And.right; apply And.right; apply And.right; assumption) | (apply And.right; apply And.right; apply And.right; apply And.right; apply And.right; assumption) | (apply And.right; apply And.right; apply And.right; apply And.right; apply And.right; apply And.right; assumption) | (apply And.right; apply And.right; apply And.right; apply And.right; apply And.right; apply And.right; apply And.right; assumption) | (apply And.right; apply And.right; apply And.right; apply And.right; apply And.right; apply And.right; apply And.right; apply And.right; assumption) | (apply And.right; apply And.right; apply And.right; apply And.right; apply And.right; apply And.right; apply And.right; apply And.right; apply And.right; assumption) | (apply And.right; apply And.right; apply And.right; apply And.right; apply And.right; apply And.right; apply And.right; apply And.right; apply And.right; apply And.right; assumption) | (apply And.right; apply And.right; apply And.right; apply And.right; apply And.right; apply And.right; apply And.right; apply And.right; apply And.right; apply And.right; apply And.right; assumption) | (apply And.right; apply And.right; apply And.right; apply And.right; apply And.right; apply And.right; apply And.right; apply And.right; apply And.right; apply And.right; apply And.right; apply And.right; assumption))); (case eA => exact (lturn (k := 3) f (by decide) (by decide) hv0 hv1).1); (case eB => exact (lturn (k := 3) f (by decide) (by decide) hv0 hv1).2.1))

theorem g_lturned4 (w : World) (news : Led) (tk : Tok) (v : Int) (tv : Tok) (f : Int) (tf : Tok) (hv0 : 0 ≤ v) (hv1 : v < 256) : Gives w 186 3 news [.int 4 tk, .int v tv, .int f tf] (RTup news (turnR 4 v f) (turnOut 4 v)) := by
  unfold Gives
  k_fill
  intro mean mg mb dp un gd cn cs a ccd cl outer A₀ base h₀ L m s Q E B F X N T hk hd hu hret
  refine wpAny_call ?_
  k_dflt cell_enter
  k_steps
  all_goals (refine' rt_end hret ?eF ?eN ?eM ?eS ?eL ?eA ?eB; (case eF => k_asm); (case eN => k_asm); (case eM => k_mem); (case eS => (intro p hp; repeat (first | exact hp | refine List.Mem.tail _ ?_ | exact List.mem_append_left _ hp))); (case eL => (first | assumption | exact allLt_of (by assumption) | (apply And.right; assumption) | (apply And.right; apply And.right; assumption) | (apply And.right; apply And.right; apply And.right; assumption) | (apply And.right; apply And.right; apply And.right; apply And.right; assumption) | (apply And.right; apply And.right; apply And.right; apply And.right; apply And.right; assumption) | (apply And.right; apply And.right; apply And.right; apply And.right; apply And.right; apply And.right; assumption) | (apply And.right; apply And.right; apply And.right; apply And.right; apply And.right; apply And.right; apply And.right; assumption) | (apply And.right; apply And.right; apply And.right; apply And.right; apply And.right; apply And.right; apply And.right; apply And.right; assumption) | (apply And.right; apply And.right; apply And.right; apply And.right; apply And.right; apply And.right; apply And.right; apply And.right; apply And.right; assumption) | (apply And.right; apply And.right; apply And.right; apply And.right; apply And.right; apply And.right; apply And.right; apply And.right; apply And.right; apply And.right; assumption) | (apply And.right; apply And.right; apply And.right; apply And.right; apply And.right; apply And.right; apply And.right; apply And.right; apply And.right; apply And.right; apply And.right; assumption) | (apply And.right; apply And.right; apply And.right; apply And.right; apply And.right; apply And.right; apply And.right; apply And.right; apply And.right; apply And.right; apply And.right; apply And.right; assumption))); (case eA => exact (lturn (k := 4) f (by decide) (by decide) hv0 hv1).1); (case eB => exact (lturn (k := 4) f (by decide) (by decide) hv0 hv1).2.1))

theorem g_lturned5 (w : World) (news : Led) (tk : Tok) (v : Int) (tv : Tok) (f : Int) (tf : Tok) (hv0 : 0 ≤ v) (hv1 : v < 256) : Gives w 186 3 news [.int 5 tk, .int v tv, .int f tf] (RTup news (turnR 5 v f) (turnOut 5 v)) := by
  unfold Gives
  k_fill
  intro mean mg mb dp un gd cn cs a ccd cl outer A₀ base h₀ L m s Q E B F X N T hk hd hu hret
  refine wpAny_call ?_
  k_dflt cell_enter
  k_steps
  all_goals (refine' rt_end hret ?eF ?eN ?eM ?eS ?eL ?eA ?eB; (case eF => k_asm); (case eN => k_asm); (case eM => k_mem); (case eS => (intro p hp; repeat (first | exact hp | refine List.Mem.tail _ ?_ | exact List.mem_append_left _ hp))); (case eL => (first | assumption | exact allLt_of (by assumption) | (apply And.right; assumption) | (apply And.right; apply And.right; assumption) | (apply And.right; apply And.right; apply And.right; assumption) | (apply And.right; apply And.right; apply And.right; apply And.right; assumption) | (apply And.right; apply And.right; apply And.right; apply And.right; apply And.right; assumption) | (apply And.right; apply And.right; apply And.right; apply And.right; apply And.right; apply And.right; assumption) | (apply And.right; apply And.right; apply And.right; apply And.right; apply And.right; apply And.right; apply And.right; assumption) | (apply And.right; apply And.right; apply And.right; apply And.right; apply And.right; apply And.right; apply And.right; apply And.right; assumption) | (apply And.right; apply And.right; apply And.right; apply And.right; apply And.right; apply And.right; apply And.right; apply And.right; apply And.right; assumption) | (apply And.right; apply And.right; apply And.right; apply And.right; apply And.right; apply And.right; apply And.right; apply And.right; apply And.right; apply And.right; assumption) | (apply And.right; apply And.right; apply And.right; apply And.right; apply And.right; apply And.right; apply And.right; apply And.right; apply And.right; apply And.right; apply And.right; assumption) | (apply And.right; apply And.right; apply And.right; apply And.right; apply And.right; apply And.right; apply And.right; apply And.right; apply And.right; apply And.right; apply And.right; apply And.right; assumption))); (case eA => exact (lturn (k := 5) f (by decide) (by decide) hv0 hv1).1); (case eB => exact (lturn (k := 5) f (by decide) (by decide) hv0 hv1).2.1))

theorem g_lturned6 (w : World) (news : Led) (tk : Tok) (v : Int) (tv : Tok) (f : Int) (tf : Tok) (hv0 : 0 ≤ v) (hv1 : v < 256) : Gives w 186 3 news [.int 6 tk, .int v tv, .int f tf] (RTup news (turnR 6 v f) (turnOut 6 v)) := by
  unfold Gives
  k_fill
  intro mean mg mb dp un gd cn cs a ccd cl outer A₀ base h₀ L m s Q E B F X N T hk hd hu hret
  refine wpAny_call ?_
  k_dflt cell_enter
  k_steps
  all_goals (refine' rt_end hret ?eF ?eN ?eM ?eS ?eL ?eA ?eB; (case eF => k_asm); (case eN => k_asm); (case eM => k_mem); (case eS => (intro p hp; repeat (first | exact hp | refine List.Mem.tail _ ?_ | exact List.mem_append_left _ hp))); (case eL => (first | assumption | exact allLt_of (by assumption) | (apply And.right; assumption) | (apply And.right; apply And.right; assumption) | (apply And.right; apply And.right; apply And.right; assumption) | (apply And.right; apply And.right; apply And.right; apply And.right; assumption) | (apply And.right; apply And.right; apply And.right; apply And.right; apply And.right; assumption) | (apply And.right; apply And.right; apply And.right; apply And.right; apply And.right; apply And.right; assumption) | (apply And.right; apply And.right; apply And.right; apply And.right; apply And.right; apply And.right; apply And.right; assumption) | (apply And.right; apply And.right; apply And.right; apply And.right; apply And.right; apply And.right; apply And.right; apply And.right; assumption) | (apply And.right; apply And.right; apply And.right; apply And.right; apply And.right; apply And.right; apply And.right; apply And.right; apply And.right; assumption) | (apply And.right; apply And.right; apply And.right; apply And.right; apply And.right; apply And.right; apply And.right; apply And.right; apply And.right; apply And.right; assumption) | (apply And.right; apply And.right; apply And.right; apply And.right; apply And.right; apply And.right; apply And.right; apply And.right; apply And.right; apply And.right; apply And.right; assumption) | (apply And.right; apply And.right; apply And.right; apply And.right; apply And.right; apply And.right; apply And.right; apply And.right; apply And.right; apply And.right; apply And.right; apply And.right; assumption))); (case eA => exact (lturn (k := 6) f (by decide) (by decide) hv0 hv1).1); (case eB => exact (lturn (k := 6) f (by decide) (by decide) hv0 hv1).2.1))

theorem g_lturned7 (w : World) (news : Led) (tk : Tok) (v : Int) (tv : Tok) (f : Int) (tf : Tok) (hv0 : 0 ≤ v) (hv1 : v < 256) : Gives w 186 3 news [.int 7 tk, .int v tv, .int f tf] (RTup news (turnR 7 v f) (turnOut 7 v)) := by
  unfold Gives
  k_fill
  intro mean mg mb dp un gd cn cs a ccd cl outer A₀ base h₀ L m s Q E B F X N T hk hd hu hret
  refine wpAny_call ?_
  k_dflt cell_enter
  k_steps
  all_goals (refine' rt_end hret ?eF ?eN ?eM ?eS ?eL ?eA ?eB; (case eF => k_asm); (case eN => k_asm); (case eM => k_mem); (case eS => (intro p hp; repeat (first | exact hp | refine List.Mem.tail _ ?_ | exact List.mem_append_left _ hp))); (case eL => (first | assumption | exact allLt_of (by assumption) | (apply And.right; assumption) | (apply And.right; apply And.right; assumption) | (apply And.right; apply And.right; apply And.right; assumption) | (apply And.right; apply And.right; apply And.right; apply And.right; assumption) | (apply And.right; apply And.right; apply And.right; apply And.right; apply And.right; assumption) | (apply And.right; apply And.right; apply And.right; apply And.right; apply And.right; apply And.right; assumption) | (apply And.right; apply And.right; apply And.right; apply And.right; apply And.right; apply And.right; apply And.right; assumption) | (apply And.right; apply And.right; apply And.right; apply And.right; apply And.right; apply And.right; apply And.right; apply And.right; assumption) | (apply And.right; apply And.right; apply And.right; apply And.right; apply And.right; apply And.right; apply And.right; apply And.right; apply And.right; assumption) | (apply And.right; apply And.right; apply And.right; apply And.right; apply And.right; apply And.right; apply And.right; apply And.right; apply And.right; apply And.right; assumption) | (apply And.right; apply And.right; apply And.right; apply And.right; apply And.right; apply And.right; apply And.right; apply And.right; apply And.right; apply And.right; apply And.right; assumption) | (apply And.right; apply And.right; apply And.right; apply And.right; apply And.right; apply And.right; apply And.right; apply And.right; apply And.right; apply And.right; apply And.right; apply And.right; assumption))); (case eA => exact (lturn (k := 7) f (by decide) (by decide) hv0 hv1).1); (case eB => exact (lturn (k := 7) f (by decide) (by decide) hv0 hv1).2.1))

end
theorem off_in6 : True ∧ True := by
  w_top off
  walk1
  all_goals trivial
theorem off_gen7 : True ∧ True := by
  w_top off
  walk1
  all_goals trivial
/-! gen7 -/
def ltbG (k v c : Int) : Int := 16 + c + (tYX v + 0) + (if [bitI v 0, bitI v 1, bitI v 2, bitI v 3, bitI v 4, bitI v 5, bitI v 6, bitI v 7].getD k.toNat 0 = 0 then 68 else 0) + (if [bitI v 0, bitI v 1, bitI v 2, bitI v 3, bitI v 4, bitI v 5, bitI v 6, bitI v 7].getD k.toNat 0 = 0 then 0 else if k = 7 then 128 else 0)
theorem ltb_eq {k v c : Int} (hk0 : 0 ≤ k) (hk1 : k < 8) : ltbF k v c = ltbG k v c := by
  obtain rfl | rfl | rfl | rfl | rfl | rfl | rfl | rfl : k = 0 ∨ k = 1 ∨ k = 2 ∨ k = 3 ∨ k = 4 ∨ k = 5 ∨ k = 6 ∨ k = 7 := by omega
  all_goals rfl
theorem g_lturned (w : World) (news : Led) (k : Int) (tk : Tok) (v : Int) (tv : Tok) (f : Int) (tf : Tok) (hk0 : 0 ≤ k) (hk1 : k < 8) (hv0 : 0 ≤ v) (hv1 : v < 256) : Gives w 186 3 news [.int k tk, .int v tv, .int f tf] (RTup news (turnR k v f) (turnOut k v)) := by
  obtain rfl | rfl | rfl | rfl | rfl | rfl | rfl | rfl : k = 0 ∨ k = 1 ∨ k = 2 ∨ k = 3 ∨ k = 4 ∨ k = 5 ∨ k = 6 ∨ k = 7 := by omega
  · exact g_lturned0 w news tk v tv f tf hv0 hv1
  · exact g_lturned1 w news tk v tv f tf hv0 hv1
  · exact g_lturned2 w news tk v tv f tf hv0 hv1
  · exact g_lturned3 w news tk v tv f tf hv0 hv1
  · exact g_lturned4 w news tk v tv f tf hv0 hv1
  · exact g_lturned5 w news tk v tv f tf hv0 hv1
  · exact g_lturned6 w news tk v tv f tf hv0 hv1
  · exact g_lturned7 w news tk v tv f tf hv0 hv1
theorem g_rotateL (w : World) (news : Led) (k : Int) (tk : Tok) (v : Int) (tv : Tok) (f : Int) (tf : Tok) (hk0 : 0 ≤ k) (hk1 : k < 8) (hv0 : 0 ≤ v) (hv1 : v < 256) : Gives w 84 2 news [.int k tk, .int v tv, .int f tf] (RTup news (turnR k v f) (toldA (turnR k v f) + turnOut k v)) := by
  have h := g_rotate w news k tk v tv f tf hk0 hk1 hv0 hv1
  rwa [rot_told f hk0 hk1 hv0 hv1] at h
theorem g_rotate_aL (w : World) (news : Led) (k : Int) (tk : Tok) (v : Int) (tv : Tok) (f : Int) (tf : Tok) (hk0 : 0 ≤ k) (hk1 : k < 8) (hv0 : 0 ≤ v) (hv1 : v < 256) (hf0 : 0 ≤ f) (hf1 : f < 256) : Gives w 91 2 news [.int k tk, .int v tv, .int f tf] (RTup news (turnR k v f) (tszp f + (tYX (turnR k v f) + 0) + turnOut k v)) := by
  have h := g_rotate_a w news k tk v tv f tf hk0 hk1 hv0 hv1
  rwa [rota_told hk0 hk1 hv0 hv1 hf0 hf1] at h
theorem g_test_bitL (w : World) (news : Led) (k : Int) (tk : Tok) (v : Int) (tv : Tok) (f : Int) (tf : Tok) (hk0 : 0 ≤ k) (hk1 : k < 8) (hv0 : 0 ≤ v) (hv1 : v < 256) : Gives w 98 1 news [.int k tk, .int v tv, .int f tf] (RTup news v (ltbG k v (f.fmod 2))) := by
  have h := g_test_bit w news k tk v tv f tf hk0 hk1 hv0 hv1
  rwa [tb_told f hk0 hk1 hv0 hv1, ltb_eq hk0 hk1] at h

theorem wd44 : True := by
  k_with "w44" => (k_here; (with_reducible show wpAny _ _ (call (Value.ref 179) _) _ _ _); k_dflt (refine' gives_use2 (by walk_at "site") (g_toldSZYXP _ _ _ _ _ _ _ _ _ _ _ _) (by ktr_room) (by ktr_units) ?_; intro t9 h9 tk9 F9 N9; walk_at "fold9"))
  trivial
local macro_rules | `(tactic| walk_at "call ref") => `(tactic| k_extra "w44")
theorem wd45 : True := by
  k_with "w45" => (k_here; (with_reducible show wpAny _ _ (call (Value.ref 179) _) _ _ _); k_dflt (refine' gives_use2 (by walk_at "site") (g_toldszpYX _ _ _ _ _ _ _ _ _ _) (by ktr_room) (by ktr_units) ?_; intro t9 h9 tk9 F9 N9; walk_at "fold9"))
  trivial
local macro_rules | `(tactic| walk_at "call ref") => `(tactic| k_extra "w45")
theorem wd46 : True := by
  k_with "w46" => (k_here; (with_reducible show wpAny _ _ (call (Value.ref 179) _) _ _ _); k_dflt (refine' gives_use2 (by walk_at "site") (g_toldYX _ _ _ _ _ _ _ _ _) (by ktr_room) (by ktr_units) ?_; intro t9 h9 tk9 F9 N9; walk_at "fold9"))
  trivial
local macro_rules | `(tactic| walk_at "call ref") => `(tactic| k_extra "w46")
theorem wd47 : True := by
  k_with "w47" => (k_here; (with_reducible show wpAny _ _ (call (Value.ref 179) _) _ _ _); k_dflt (refine' gives_use2 (by walk_at "site") (g_toldSZYXPc _ _ _ _ _ _ _ _ _ _ _ _ _) (by ktr_room) (by ktr_units) ?_; intro t9 h9 tk9 F9 N9; walk_at "fold9"))
  trivial
local macro_rules | `(tactic| walk_at "call ref") => `(tactic| k_extra "w47")
theorem wd48 : True := by
  k_with "w48" => (k_here; (with_reducible show wpAny _ _ (call (Value.ref 179) _) _ _ _); k_dflt (refine' gives_use2 (by walk_at "site") (g_toldszp _ _ _ _ _ _ _ _ _) (by ktr_room) (by ktr_units) ?_; intro t9 h9 tk9 F9 N9; walk_at "fold9"))
  trivial
local macro_rules | `(tactic| walk_at "call ref") => `(tactic| k_extra "w48")
theorem wd49 : True := by
  k_with "w49" => (k_here; (with_reducible show wpAny _ _ (call (Value.ref 179) _) _ _ _); k_dflt (refine' gives_use2 (by walk_at "site") (g_toldYXHNc _ _ _ _ _ _ _ _ _ _ _ _) (by ktr_room) (by ktr_units) ?_; intro t9 h9 tk9 F9 N9; walk_at "fold9"))
  trivial
local macro_rules | `(tactic| walk_at "call ref") => `(tactic| k_extra "w49")
theorem wd50 : True := by
  k_with "w50" => (k_here; (with_reducible show wpAny _ _ (call (Value.ref 179) _) _ _ _); k_dflt (refine' gives_use2 (by walk_at "site") (g_toldSZc _ _ _ _ _ _ _ _ _ _ _) (by ktr_room) (by ktr_units) ?_; intro t9 h9 tk9 F9 N9; walk_at "fold9"))
  trivial
local macro_rules | `(tactic| walk_at "call ref") => `(tactic| k_extra "w50")
theorem wd51 : True := by
  k_with "w51" => (k_here; (with_reducible show wpAny _ _ (call (Value.ref 179) _) _ _ _); k_dflt (refine' gives_use2 (by walk_at "site") (g_toldSZYXc _ _ _ _ _ _ _ _ _ _ _ _) (by ktr_room) (by ktr_units) ?_; intro t9 h9 tk9 F9 N9; walk_at "fold9"))
  trivial
local macro_rules | `(tactic| walk_at "call ref") => `(tactic| k_extra "w51")
theorem wd52 : True := by
  k_with "w52" => (k_here; (with_reducible show wpAny _ _ (call (Value.ref 186) _) _ _ _); k_dflt (refine' gives_use2 (by walk_at "site") (g_lturned _ _ _ _ _ _ _ _ (by first | assumption | omega) (by first | assumption | omega) (by first | assumption | omega) (by first | assumption | omega)) (by ktr_room) (by ktr_units) ?_; intro D9 t9 u9 h9 tk9 F9 N9 l1; (try k_lt l1); walk_at "fold9"))
  trivial
local macro_rules | `(tactic| walk_at "call ref") => `(tactic| k_extra "w52")
theorem wd53 : True := by
  k_with "w53" => (k_here; (with_reducible show wpAny _ _ (call (Value.ref 84) _) _ _ _); k_dflt (refine' gives_use2 (by walk_at "site") (g_rotateL _ _ _ _ _ _ _ _ (by first | assumption | omega) (by first | assumption | omega) (by first | assumption | omega) (by first | assumption | omega)) (by ktr_room) (by ktr_units) ?_; intro D9 t9 u9 h9 tk9 F9 N9 l1; (try k_lt l1); walk_at "fold9"))
  trivial
local macro_rules | `(tactic| walk_at "call ref") => `(tactic| k_extra "w53")
theorem wd54 : True := by
  k_with "w54" => (k_here; (with_reducible show wpAny _ _ (call (Value.ref 91) _) _ _ _); k_dflt (refine' gives_use2 (by walk_at "site") (g_rotate_aL _ _ _ _ _ _ _ _ (by first | assumption | omega) (by first | assumption | omega) (by first | assumption | omega) (by first | assumption | omega) (by first | assumption | omega) (by first | assumption | omega)) (by ktr_room) (by ktr_units) ?_; intro D9 t9 u9 h9 tk9 F9 N9 l1; (try k_lt l1); walk_at "fold9"))
  trivial
local macro_rules | `(tactic| walk_at "call ref") => `(tactic| k_extra "w54")
theorem wd55 : True := by
  k_with "w55" => (k_here; (with_reducible show wpAny _ _ (call (Value.ref 98) _) _ _ _); k_dflt (refine' gives_use2 (by walk_at "site") (g_test_bitL _ _ _ _ _ _ _ _ (by first | assumption | omega) (by first | assumption | omega) (by first | assumption | omega) (by first | assumption | omega)) (by ktr_room) (by ktr_units) ?_; intro D9 t9 u9 h9 tk9 F9 N9 l1; (try k_lt l1); walk_at "fold9"))
  trivial
local macro_rules | `(tactic| walk_at "call ref") => `(tactic| k_extra "w55")
section
theorem wd56 : True := by
  k_with "w56" => (k_here; k_dflt (first | (refine' ne_tup2 (by k_asm) (by k_mem) (by k_mem) (by first | exact rfl | (delta ltbG; simp (disch := assumption) only [if_pos, if_neg]; done) | (simp only [toldA]; omega)) (by first | exact rfl | (delta ltbG; simp (disch := assumption) only [if_pos, if_neg]; done) | (simp only [toldA]; omega)) (by ktr_units) ?_) | (refine' ne_tup3 (by k_asm) (by k_mem) (by k_mem) (by first | exact rfl | (delta ltbG; simp (disch := assumption) only [if_pos, if_neg]; done) | (simp only [toldA]; omega)) (by first | exact rfl | (delta ltbG; simp (disch := assumption) only [if_pos, if_neg]; done) | (simp only [toldA]; omega)) (by first | exact rfl | (delta ltbG; simp (disch := assumption) only [if_pos, if_neg]; done) | (simp only [toldA]; omega)) (by ktr_units) ?_)))
  trivial
local macro_rules | `(tactic| walk_at "compareOp NotEq ref ref") => `(tactic| k_extra "w56")
theorem wd57 : True := by
  k_with "w57" => (k_here; k_dflt (first | (refine' eq_tup2 (by k_asm) (by k_mem) (by k_mem) (by first | exact rfl | (delta ltbG; simp (disch := assumption) only [if_pos, if_neg]; done) | (simp only [toldA]; omega)) (by first | exact rfl | (delta ltbG; simp (disch := assumption) only [if_pos, if_neg]; done) | (simp only [toldA]; omega)) (by ktr_units) ?_) | (refine' eq_tup3 (by k_asm) (by k_mem) (by k_mem) (by first | exact rfl | (delta ltbG; simp (disch := assumption) only [if_pos, if_neg]; done) | (simp only [toldA]; omega)) (by first | exact rfl | (delta ltbG; simp (disch := assumption) only [if_pos, if_neg]; done) | (simp only [toldA]; omega)) (by first | exact rfl | (delta ltbG; simp (disch := assumption) only [if_pos, if_neg]; done) | (simp only [toldA]; omega)) (by ktr_units) ?_)))
  trivial
local macro_rules | `(tactic| walk_at "compareOp Eq ref ref") => `(tactic| k_extra "w57")
theorem wd58 : True := by
  k_with "w58" => (k_here; first | (with_reducible refine ite_ne_t (by with_reducible assumption) ?_) | (with_reducible refine ite_ne_f (by with_reducible assumption) ?_) | (with_reducible refine ite_eq_t (by with_reducible assumption) ?_) | (with_reducible refine ite_eq_f (by with_reducible assumption) ?_))
  trivial
local macro_rules | `(tactic| walk_at "ite") => `(tactic| k_extra "w58")
theorem wd59 : True := by
  k_with "w59" => (k_here; (try dsimp only); (with_reducible refine wpAny_execs_cons ?_); (try dsimp only))
  trivial
local macro_rules | `(tactic| walk_at "execs cons If cons") => `(tactic| k_extra "w59")
theorem wd60 : True := by
  k_with "w60" => (k_here; (try dsimp only); (with_reducible refine wpAny_execs_cons ?_); (try dsimp only))
  trivial
local macro_rules | `(tactic| walk_at "execs cons If nil") => `(tactic| k_extra "w60")
theorem wd61 : True := by
  k_with "w61" => (k_here; (rename News _ _ _ _ => nE'); refine' kst_end () (by k_asm) nE' (by (intro p hp; repeat (first | exact List.mem_append_left _ hp | refine List.Mem.tail _ ?_))) (by (intro p hp; repeat (first | exact List.mem_append_right _ hp | refine List.Mem.tail _ ?_))) rfl True.intro (by intro p hp; cases hp) (by kst_same) True.intro)
  trivial
local macro_rules | `(tactic| walk_at "InvEndN") => `(tactic| k_extra "w61")
theorem wd62 : True := by
  k_with "w62" => (k_here; (rename Fr _ _ _ _ => lF'); (with_unfolding_all refine' For_invVF lF' (by exact rfl) (by exact rfl) ?_; k_whole))
  trivial
local macro_rules | `(tactic| walk_at "exec For Name Call cons nil") => `(tactic| k_extra "w62")
theorem wd63 : True := by
  k_with "w63" => (k_here; (with_reducible show wpAny _ _ (pyIter (Value.ref _)) (fun it s₂ => LoopAtV _ _ _ _ _ _ _ _ _ it s₂) _ _); (rename Fr _ _ _ _ => lF'); (rename News _ _ _ _ => lN'); (rename IsRange _ _ _ _ _ _ _ _ => rgX); (with_unfolding_all refine' loopN 8 [Str.ofString "r", Str.ofString "out", Str.ofString "is_set", Str.ofString "due"] (by exact rfl) rgX (by rfl) (by decide) (by rfl) lF' lN' ?_ ?_); all_goals (try clear lF' lN'))
  trivial
local macro_rules | `(tactic| walk_at "pyIter ref") => `(tactic| k_extra "w63")
theorem wd64 : True := by
  k_with "w64" => (k_here; (unfold LaterT); intro k t9 u9 h9 tk9 own9 hk0 hk1 off9 F9 N9; (try dsimp only at F9 N9); (try k_fold))
  trivial
local macro_rules | `(tactic| walk_at "LaterT") => `(tactic| k_extra "w64")
theorem wd65 : True := by
  k_with "w65" => (k_here; (unfold LaterD); intro u9 h9 tk9 F9 N9; (try dsimp only at F9 N9); (try k_fold))
  trivial
local macro_rules | `(tactic| walk_at "LaterD") => `(tactic| k_extra "w65")
theorem g_turns (w : World) (news : Led) (v : Int) (tv : Tok) (f : Int) (tf : Tok) (hv0 : 0 ≤ v) (hv1 : v < 256) (hf0 : 0 ≤ f) (hf1 : f < 256) : Gives w 193 12 news [.int v tv, .int f tf] (RBool news true) := by
  unfold Gives
  k_fill
  intro mean mg mb dp un gd cn cs a ccd cl outer A₀ base h₀ L m s Q E B F X N T hk hd hu hret
  refine wpAny_call ?_
  k_dflt cell_enter
  k_steps
  all_goals (refine' rb_end hret ?eF ?eN ?eS ?eE; (case eF => k_asm); (case eN => k_asm); (case eS => (intro p hp; repeat (first | exact hp | refine List.Mem.tail _ ?_ | exact List.mem_append_left _ hp))); (case eE => rfl))
end
theorem off_in7 : True ∧ True := by
  w_top off
  walk1
  all_goals trivial
theorem off_gen8 : True ∧ True := by
  w_top off
  walk1
  all_goals trivial
/-! gen8 -/
theorem g_rrdL (w : World) (news : Led) (x : Int) (tx : Tok) (v : Int) (tv : Tok) (f : Int) (tf : Tok) (hx0 : 0 ≤ x) (hx1 : x < 256) (hv0 : 0 ≤ v) (hv1 : v < 256) : Gives w 105 2 news [.int x tx, .int v tv, .int f tf] (RTri news (x.fdiv 16 * 16 + v.fmod 16) (x.fmod 16 * 16 + v.fdiv 16) (tS (x.fdiv 16 * 16 + v.fmod 16) + (tZ (x.fdiv 16 * 16 + v.fmod 16) + (tYX (x.fdiv 16 * 16 + v.fmod 16) + (tP (x.fdiv 16 * 16 + v.fmod 16) + (f.fmod 2 + 0)))))) := by
  have h := g_rrd w news x tx v tv f tf
  have r := nib_range (j := v.fmod 16) hx0 hx1 (m16_range v).1 (m16_range v).2
  rwa [rrd_told hx0 hx1, rrd2_told hv0 hv1, spc_told f r.1 r.2] at h
theorem g_rldL (w : World) (news : Led) (x : Int) (tx : Tok) (v : Int) (tv : Tok) (f : Int) (tf : Tok) (hx0 : 0 ≤ x) (hx1 : x < 256) (hv0 : 0 ≤ v) (hv1 : v < 256) : Gives w 112 2 news [.int x tx, .int v tv, .int f tf] (RTri news (x.fdiv 16 * 16 + v.fdiv 16) (v.fmod 16 * 16 + x.fmod 16) (tS (x.fdiv 16 * 16 + v.fdiv 16) + (tZ (x.fdiv 16 * 16 + v.fdiv 16) + (tYX (x.fdiv 16 * 16 + v.fdiv 16) + (tP (x.fdiv 16 * 16 + v.fdiv 16) + (f.fmod 2 + 0)))))) := by
  have h := g_rld w news x tx v tv f tf
  have r := nib_range (j := v.fdiv 16) hx0 hx1 (by rw [fdp _ (by decide)]; omega) (by rw [fdp _ (by decide)]; omega)
  rwa [rld_told hx0 hx1 hv0 hv1, rld2_told, spc_told f r.1 r.2] at h
theorem g_scfL (w : World) (news : Led) (x : Int) (tx : Tok) (f : Int) (tf : Tok) (hx0 : 0 ≤ x) (hx1 : x < 256) (hf0 : 0 ≤ f) (hf1 : f < 256) : Gives w 63 1 news [.int x tx, .int f tf] (RTup news x (tszp f + (tYX x + 0) + 1)) := by
  have h := g_scf w news x tx f tf
  rwa [fyx 1 hf0 hf1 hx0 hx1 (by omega)] at h
theorem g_ccfL (w : World) (news : Led) (x : Int) (tx : Tok) (f : Int) (tf : Tok) (hx0 : 0 ≤ x) (hx1 : x < 256) (hf0 : 0 ≤ f) (hf1 : f < 256) : Gives w 70 1 news [.int x tx, .int f tf] (RTup news x (tszp f + (tYX x + 0) + (if f.fmod 2 = 0 then 1 else 16))) := by
  have h := g_ccf w news x tx f tf
  rwa [fyx _ hf0 hf1 hx0 hx1 (by split <;> omega), and1] at h
theorem g_cplL (w : World) (news : Led) (x : Int) (tx : Tok) (f : Int) (tf : Tok) (hx0 : 0 ≤ x) (hx1 : x < 256) (hf0 : 0 ≤ f) (hf1 : f < 256) : Gives w 56 1 news [.int x tx, .int f tf] (RTup news (255 - x) (tszp f + 0 + (tYX (255 - x) + (16 + (2 + (f.fmod 2 + 0)))))) := by
  have h := g_cpl w news x tx f tf
  rwa [cpl_told hx0 hx1 hf0 hf1, xor255 hx0 hx1] at h
theorem wd66 : True := by
  k_with "w66" => (k_here; (with_reducible show wpAny _ _ (call (Value.ref 105) _) _ _ _); k_dflt (refine' gives_use2 (by walk_at "site") (g_rrdL _ _ _ _ _ _ _ _ (by first | assumption | omega) (by first | assumption | omega) (by first | assumption | omega) (by first | assumption | omega)) (by ktr_room) (by ktr_units) ?_; intro D9 t9 u9 v9 h9 tk9 F9 N9 l1; (try k_lt l1); walk_at "fold9"))
  trivial
local macro_rules | `(tactic| walk_at "call ref") => `(tactic| k_extra "w66")
theorem wd67 : True := by
  k_with "w67" => (k_here; (with_reducible show wpAny _ _ (call (Value.ref 112) _) _ _ _); k_dflt (refine' gives_use2 (by walk_at "site") (g_rldL _ _ _ _ _ _ _ _ (by first | assumption | omega) (by first | assumption | omega) (by first | assumption | omega) (by first | assumption | omega)) (by ktr_room) (by ktr_units) ?_; intro D9 t9 u9 v9 h9 tk9 F9 N9 l1; (try k_lt l1); walk_at "fold9"))
  trivial
local macro_rules | `(tactic| walk_at "call ref") => `(tactic| k_extra "w67")
theorem wd68 : True := by
  k_with "w68" => (k_here; (with_reducible show wpAny _ _ (call (Value.ref 63) _) _ _ _); k_dflt (refine' gives_use2 (by walk_at "site") (g_scfL _ _ _ _ _ _ (by first | assumption | omega) (by first | assumption | omega) (by first | assumption | omega) (by first | assumption | omega)) (by ktr_room) (by ktr_units) ?_; intro D9 t9 u9 h9 tk9 F9 N9 l1; (try k_lt l1); walk_at "fold9"))
  trivial
local macro_rules | `(tactic| walk_at "call ref") => `(tactic| k_extra "w68")
theorem wd69 : True := by
  k_with "w69" => (k_here; (with_reducible show wpAny _ _ (call (Value.ref 70) _) _ _ _); k_dflt (refine' gives_use2 (by walk_at "site") (g_ccfL _ _ _ _ _ _ (by first | assumption | omega) (by first | assumption | omega) (by first | assumption | omega) (by first | assumption | omega)) (by ktr_room) (by ktr_units) ?_; intro D9 t9 u9 h9 tk9 F9 N9 l1; (try k_lt l1); walk_at "fold9"))
  trivial
local macro_rules | `(tactic| walk_at "call ref") => `(tactic| k_extra "w69")
theorem wd70 : True := by
  k_with "w70" => (k_here; (with_reducible show wpAny _ _ (call (Value.ref 56) _) _ _ _); k_dflt (refine' gives_use2 (by walk_at "site") (g_cplL _ _ _ _ _ _ (by first | assumption | omega) (by first | assumption | omega) (by first | assumption | omega) (by first | assumption | omega)) (by ktr_room) (by ktr_units) ?_; intro D9 t9 u9 h9 tk9 F9 N9 l1; (try k_lt l1); walk_at "fold9"))
  trivial
local macro_rules | `(tactic| walk_at "call ref") => `(tactic| k_extra "w70")
section
theorem wd71 : True := by
  k_with "w71" => (k_here; k_dflt (first | (refine' ne_tup2 (by k_asm) (by k_mem) (by k_mem) (by first | exact rfl | omega | (simp (disch := assumption) only [if_pos, if_neg]; omega)) (by first | exact rfl | omega | (simp (disch := assumption) only [if_pos, if_neg]; omega)) (by ktr_units) ?_) | (refine' ne_tup3 (by k_asm) (by k_mem) (by k_mem) (by first | exact rfl | omega | (simp (disch := assumption) only [if_pos, if_neg]; omega)) (by first | exact rfl | omega | (simp (disch := assumption) only [if_pos, if_neg]; omega)) (by first | exact rfl | omega | (simp (disch := assumption) only [if_pos, if_neg]; omega)) (by ktr_units) ?_)))
  trivial
local macro_rules | `(tactic| walk_at "compareOp NotEq ref ref") => `(tactic| k_extra "w71")
theorem wd72 : True := by
  k_with "w72" => (k_here; k_dflt (first | (refine' eq_tup2 (by k_asm) (by k_mem) (by k_mem) (by first | exact rfl | omega | (simp (disch := assumption) only [if_pos, if_neg]; omega)) (by first | exact rfl | omega | (simp (disch := assumption) only [if_pos, if_neg]; omega)) (by ktr_units) ?_) | (refine' eq_tup3 (by k_asm) (by k_mem) (by k_mem) (by first | exact rfl | omega | (simp (disch := assumption) only [if_pos, if_neg]; omega)) (by first | exact rfl | omega | (simp (disch := assumption) only [if_pos, if_neg]; omega)) (by first | exact rfl | omega | (simp (disch := assumption) only [if_pos, if_neg]; omega)) (by ktr_units) ?_)))
  trivial
local macro_rules | `(tactic| walk_at "compareOp Eq ref ref") => `(tactic| k_extra "w72")
theorem wd73 : True := by
  k_with "w73" => (k_here; first | (with_reducible refine ite_ne_t (by with_reducible assumption) ?_) | (with_reducible refine ite_ne_f (by with_reducible assumption) ?_) | (with_reducible refine ite_eq_t (by with_reducible assumption) ?_) | (with_reducible refine ite_eq_f (by with_reducible assumption) ?_))
  trivial
local macro_rules | `(tactic| walk_at "ite") => `(tactic| k_extra "w73")
theorem wd74 : True := by
  k_with "w74" => (k_here; (try dsimp only); (with_reducible refine wpAny_execs_cons ?_); (try dsimp only))
  trivial
local macro_rules | `(tactic| walk_at "execs cons If cons") => `(tactic| k_extra "w74")
theorem wd75 : True := by
  k_with "w75" => (k_here; (try dsimp only); (with_reducible refine wpAny_execs_cons ?_); (try dsimp only))
  trivial
local macro_rules | `(tactic| walk_at "execs cons If nil") => `(tactic| k_extra "w75")
theorem g_halves (w : World) (news : Led) (a : Int) (ta : Tok) (v : Int) (tv : Tok) (f : Int) (tf : Tok) (ha0 : 0 ≤ a) (ha1 : a < 256) (hv0 : 0 ≤ v) (hv1 : v < 256) : Gives w 200 12 news [.int a ta, .int v tv, .int f tf] (RBool news true) := by
  unfold Gives
  k_fill
  intro mean mg mb dp un gd cn cs aa ccd cl outer A₀ base h₀ L m s Q E B F X N T hk hd hu hret
  refine wpAny_call ?_
  k_dflt cell_enter
  k_steps
  all_goals (refine' rb_end hret ?eF ?eN ?eS ?eE; (case eF => k_asm); (case eN => k_asm); (case eS => (intro p hp; repeat (first | exact hp | refine List.Mem.tail _ ?_ | exact List.mem_append_left _ hp))); (case eE => rfl))
theorem g_carries (w : World) (news : Led) (a : Int) (ta : Tok) (f : Int) (tf : Tok) (ha0 : 0 ≤ a) (ha1 : a < 256) (hf0 : 0 ≤ f) (hf1 : f < 256) : Gives w 207 12 news [.int a ta, .int f tf] (RBool news true) := by
  unfold Gives
  k_fill
  intro mean mg mb dp un gd cn cs aa ccd cl outer A₀ base h₀ L m s Q E B F X N T hk hd hu hret
  refine wpAny_call ?_
  k_dflt cell_enter
  k_steps
  all_goals (refine' rb_end hret ?eF ?eN ?eS ?eE; (case eF => k_asm); (case eN => k_asm); (case eS => (intro p hp; repeat (first | exact hp | refine List.Mem.tail _ ?_ | exact List.mem_append_left _ hp))); (case eE => rfl))
end
theorem off_in8 : True ∧ True := by
  w_top off
  walk1
  all_goals trivial
theorem off_gen9 : True ∧ True := by
  w_top off
  walk1
  all_goals trivial
/-! gen9 -/
theorem seek_told2 {x v : Int} (l f : Int) (hx0 : 0 ≤ x) (hx1 : x < 256) (hv0 : 0 ≤ v) (hv1 : v < 256) : seekF x v l f = tS ((x - v).fmod 256) + (tZ ((x - v).fmod 256) + (f.fmod 2 + 0)) + (if decide (x.fmod 16 < v.fmod 16) = true then 1 else 0) * 16 + 2 + (if l = 0 then 0 else 4) + (((x - v - (if decide (x.fmod 16 < v.fmod 16) = true then 1 else 0)).fmod 256).fdiv 2).fmod 2 * 32 + (((x - v - (if decide (x.fmod 16 < v.fmod 16) = true then 1 else 0)).fmod 256).fdiv 8).fmod 2 * 8 := by
  have e : (if decide (x.fmod 16 < v.fmod 16) = true then 1 else 0) = halfS x v 0 := by
    unfold halfS
    rw [fmp x (show (0 : Int) ≤ 16 by decide), fmp v (show (0 : Int) ≤ 16 by decide)]
    by_cases h : x % 16 < v % 16
    · rw [if_pos (by simpa using h), if_pos (by omega)]
    · rw [if_neg (by simpa using h), if_neg (by omega)]
  rw [e, fmp _ (show (0 : Int) ≤ 256 by decide), fmp _ (show (0 : Int) ≤ 256 by decide), fdp _ (show (0 : Int) ≤ 2 by decide), fdp _ (show (0 : Int) ≤ 8 by decide), fmp (_ / 2) (show (0 : Int) ≤ 2 by decide), fmp (_ / 8) (show (0 : Int) ≤ 2 by decide)]
  exact seek_told l f hx0 hx1 hv0 hv1
theorem g_moveL (w : World) (news : Led) (x : Int) (tx : Tok) (v : Int) (tv : Tok) (l : Int) (tl : Tok) (f : Int) (tf : Tok) (hf0 : 0 ≤ f) (hf1 : f < 256) : Gives w 133 2 news [.int x tx, .int v tv, .int l tl, .int f tf] (RInt news (f.fdiv 64 * 64 + f.fmod 2 + (if l = 0 then 0 else 4) + ((x + v).fdiv 2).fmod 2 * 32 + ((x + v).fdiv 8).fmod 2 * 8)) := by
  have h := g_move_flags w news x tx v tv l tl f tf
  rwa [move_told x v l hf0 hf1] at h
theorem g_seekL (w : World) (news : Led) (x : Int) (tx : Tok) (v : Int) (tv : Tok) (l : Int) (tl : Tok) (f : Int) (tf : Tok) (hx0 : 0 ≤ x) (hx1 : x < 256) (hv0 : 0 ≤ v) (hv1 : v < 256) : Gives w 140 3 news [.int x tx, .int v tv, .int l tl, .int f tf] (RInt news (tS ((x - v).fmod 256) + (tZ ((x - v).fmod 256) + (f.fmod 2 + 0)) + (if decide (x.fmod 16 < v.fmod 16) = true then 1 else 0) * 16 + 2 + (if l = 0 then 0 else 4) + (((x - v - (if decide (x.fmod 16 < v.fmod 16) = true then 1 else 0)).fmod 256).fdiv 2).fmod 2 * 32 + (((x - v - (if decide (x.fmod 16 < v.fmod 16) = true then 1 else 0)).fmod 256).fdiv 8).fmod 2 * 8)) := by
  have h := g_seek_flags w news x tx v tv l tl f tf
  rwa [seek_told2 l f hx0 hx1 hv0 hv1] at h
theorem g_inL (w : World) (news : Led) (v : Int) (tv : Tok) (f : Int) (tf : Tok) (hv0 : 0 ≤ v) (hv1 : v < 256) : Gives w 126 2 news [.int v tv, .int f tf] (RInt news (tS v + (tZ v + (tYX v + (tP v + (f.fmod 2 + 0)))))) := by
  have h := g_in_flags w news v tv f tf
  rwa [spc_told f hv0 hv1] at h
theorem g_loadL (w : World) (news : Led) (v : Int) (tv : Tok) (i : Int) (ti : Tok) (f : Int) (tf : Tok) (hv0 : 0 ≤ v) (hv1 : v < 256) (hi0 : 0 ≤ i) (hi1 : i < 2) : Gives w 119 2 news [.int v tv, .int i ti, .int f tf] (RInt news (tS v + (tZ v + (tYX v + (f.fmod 2 + 0))) + 4 * i)) := by
  have h := g_load_flags w news v tv i ti f tf
  rwa [load_told f hv0 hv1 hi0 hi1] at h
theorem wd76 : True := by
  k_with "w76" => (k_here; (with_reducible show wpAny _ _ (call (Value.ref 133) _) _ _ _); k_dflt (refine' gives_use2 (by walk_at "site") (g_moveL _ _ _ _ _ _ _ _ _ _ (by first | assumption | omega) (by first | assumption | omega)) (by ktr_room) (by ktr_units) ?_; intro t9 h9 tk9 F9 N9; walk_at "fold9"))
  trivial
local macro_rules | `(tactic| walk_at "call ref") => `(tactic| k_extra "w76")
theorem wd77 : True := by
  k_with "w77" => (k_here; (with_reducible show wpAny _ _ (call (Value.ref 140) _) _ _ _); k_dflt (refine' gives_use2 (by walk_at "site") (g_seekL _ _ _ _ _ _ _ _ _ _ (by first | assumption | omega) (by first | assumption | omega) (by first | assumption | omega) (by first | assumption | omega)) (by ktr_room) (by ktr_units) ?_; intro t9 h9 tk9 F9 N9; walk_at "fold9"))
  trivial
local macro_rules | `(tactic| walk_at "call ref") => `(tactic| k_extra "w77")
theorem wd78 : True := by
  k_with "w78" => (k_here; (with_reducible show wpAny _ _ (call (Value.ref 126) _) _ _ _); k_dflt (refine' gives_use2 (by walk_at "site") (g_inL _ _ _ _ _ _ (by first | assumption | omega) (by first | assumption | omega)) (by ktr_room) (by ktr_units) ?_; intro t9 h9 tk9 F9 N9; walk_at "fold9"))
  trivial
local macro_rules | `(tactic| walk_at "call ref") => `(tactic| k_extra "w78")
theorem wd79 : True := by
  k_with "w79" => (k_here; (with_reducible show wpAny _ _ (call (Value.ref 119) _) _ _ _); k_dflt (refine' gives_use2 (by walk_at "site") (g_loadL _ _ _ _ _ _ _ _ (by assumption) (by assumption) (by first | assumption | exact (m2_range _).1) (by first | assumption | exact (m2_range _).2)) (by ktr_room) (by ktr_units) ?_; intro t9 h9 tk9 F9 N9; walk_at "fold9"))
  trivial
local macro_rules | `(tactic| walk_at "call ref") => `(tactic| k_extra "w79")
section
theorem wd80 : True := by
  k_with "w80" => (k_here; first | (with_reducible refine ite_ne_t (by with_reducible assumption) ?_) | (with_reducible refine ite_ne_f (by with_reducible assumption) ?_) | (with_reducible refine ite_eq_t (by with_reducible assumption) ?_) | (with_reducible refine ite_eq_f (by with_reducible assumption) ?_))
  trivial
local macro_rules | `(tactic| walk_at "ite") => `(tactic| k_extra "w80")
theorem wd81 : True := by
  k_with "w81" => (k_here; (try dsimp only); (with_reducible refine wpAny_execs_cons ?_); (try dsimp only))
  trivial
local macro_rules | `(tactic| walk_at "execs cons If cons") => `(tactic| k_extra "w81")
theorem wd82 : True := by
  k_with "w82" => (k_here; (try dsimp only); (with_reducible refine wpAny_execs_cons ?_); (try dsimp only))
  trivial
local macro_rules | `(tactic| walk_at "execs cons If nil") => `(tactic| k_extra "w82")
theorem wd83 : True := by
  k_with "w83" => (k_here; (with_reducible refine' ne_int_same (by first | exact rfl | (simp (disch := assumption) only [if_pos, if_neg]; done)) ?_))
  trivial
local macro_rules | `(tactic| walk_at "compareOp NotEq int int") => `(tactic| k_extra "w83")
theorem wd84 : True := by
  k_with "w84" => (k_here; (with_reducible refine' eq_int_same (by first | exact rfl | (simp (disch := assumption) only [if_pos, if_neg]; done)) ?_))
  trivial
local macro_rules | `(tactic| walk_at "compareOp Eq int int") => `(tactic| k_extra "w84")
theorem g_blocks (w : World) (news : Led) (a : Int) (ta : Tok) (v : Int) (tv : Tok) (f : Int) (tf : Tok) (l : Int) (tl : Tok) (ha0 : 0 ≤ a) (ha1 : a < 256) (hv0 : 0 ≤ v) (hv1 : v < 256) (hf0 : 0 ≤ f) (hf1 : f < 256) (hl0 : 0 ≤ l) (hl1 : l < 3) : Gives w 214 12 news [.int a ta, .int v tv, .int f tf, .int l tl] (RBool news true) := by
  unfold Gives
  k_fill
  intro mean mg mb dp un gd cn cs aa ccd cl outer A₀ base h₀ L m s Q E B F X N T hk hd hu hret
  refine wpAny_call ?_
  k_dflt cell_enter
  k_steps
  all_goals (refine' rb_end hret ?eF ?eN ?eS ?eE; (case eF => k_asm); (case eN => k_asm); (case eS => (intro p hp; repeat (first | exact hp | refine List.Mem.tail _ ?_ | exact List.mem_append_left _ hp))); (case eE => rfl))
end
theorem off_in9 : True ∧ True := by
  w_top off
  walk1
  all_goals trivial
theorem off_gen10 : True ∧ True := by
  w_top off
  walk1
  all_goals trivial
/-! gen10 -/
/-- an int from the deal; the deal goes on -/
def RTake (rest : Led) (l d : Addr) (nl : Nat) (us : List Value) (nd : Nat) (len : Nat) (many : Int) : RetT := fun h₀ L m s Q =>
  ∀ (r : Int) (t : Tok) (i : Int) (ti : Tok) (sd : Int) (ts : Tok) (h' : Heap) (tk' : Nat), 0 ≤ r → r < many → 0 ≤ i → i ≤ (len : Int) → 0 ≤ sd → sd < 2147483647 → Fr h₀ L h' m → News h₀ L h' ((l, listOf #[.ref d, .int i ti, .int sd ts] nl) :: (d, listOf us.toArray nd) :: rest) → Q (.int r t) { s with heap := h', toks := tk' }
theorem take_end {h₀ h' : Heap} {L l d : Addr} {m : Str → Option Value} {rest news' : Led} {s : Shared} {Q : Value → Shared → Prop} {nl nd len : Nat} {us : List Value} {many y i sd : Int} {t ti ts : Tok} {tk' : Nat}
    (hret : RTake rest l d nl us nd len many h₀ L m s Q) (F : Fr h₀ L h' m) (N : News h₀ L h' news') (hs : ∀ p ∈ (l, listOf #[.ref d, .int i ti, .int sd ts] nl) :: (d, listOf us.toArray nd) :: rest, p ∈ news') (y0 : 0 ≤ y) (y1 : y < many) (i0 : 0 ≤ i) (i1 : i ≤ (len : Int)) (s0 : 0 ≤ sd) (s1 : sd < 2147483647) : Q (.int y t) { s with heap := h', toks := tk' } :=
  hret y t i ti sd ts h' tk' y0 y1 i0 i1 s0 s1 F fun p hp => N p (hs p hp)
theorem fmod_r (x : Int) {k : Int} (h : 0 < k) : 0 ≤ x.fmod k ∧ x.fmod k < k := by rw [fmp _ (by omega)]; exact ⟨Int.emod_nonneg _ (by omega), Int.emod_lt_of_pos _ h⟩

section
theorem wd85 : True := by
  k_with "w85" => (k_here; (try dsimp only); (with_reducible refine wpAny_execs_cons ?_); (try dsimp only))
  trivial
local macro_rules | `(tactic| walk_at "execs cons If cons") => `(tactic| k_extra "w85")
theorem wd86 : True := by
  k_with "w86" => (k_here; (try dsimp only); (with_reducible refine wpAny_execs_cons ?_); (try dsimp only))
  trivial
local macro_rules | `(tactic| walk_at "execs cons If nil") => `(tactic| k_extra "w86")
theorem wd87 : True := by
  k_with "w87" => assumption
  trivial
local macro_rules | `(tactic| k_all) => `(tactic| k_extra "w87")
theorem wd88 : True := by
  k_with "w88" => first | with_reducible assumption | exact Ne.symm (by with_reducible assumption)
  trivial
local macro_rules | `(tactic| k_ne) => `(tactic| k_extra "w88")
theorem g_take (w : World) (rest : Led) (l d : Addr) (i : Int) (ti : Tok) (sd : Int) (ts : Tok) (nl : Nat) (us : List Value) (nd : Nat) (ns : List Int) (hus : IntsAre us ns) (hne : l ≠ d) (hl1 : ∀ p ∈ rest, p.1 ≠ l) (hlen : ns.length ≤ 32) (i0 : 0 ≤ i) (i1 : i ≤ (ns.length : Int)) (s0 : 0 ≤ sd) (s1 : sd < 2147483647) (many : Int) (tm : Tok) (hm : 0 < many) : Gives w 152 1 ((l, listOf #[.ref d, .int i ti, .int sd ts] nl) :: (d, listOf us.toArray nd) :: rest) [.ref l, .int many tm] (RTake rest l d nl us nd ns.length many) := by
  unfold Gives
  k_fill
  intro mean mg mb dp un gd cn cs aa ccd cl outer A₀ base h₀ L m s Q E B F X N T hk hd hu hret
  refine wpAny_call ?_
  k_dflt cell_enter
  k_steps
  all_goals (refine' take_end hret ?eF ?eN ?eS ?y0 ?y1 ?i0 ?i1 ?s0 ?s1; (case eF => k_asm); (case eN => k_asm); (case eS => (intro p hp; repeat (first | exact hp | refine List.Mem.tail _ ?_ | exact List.mem_append_left _ hp))); (case y0 => exact (fmod_r _ hm).1); (case y1 => exact (fmod_r _ hm).2); (case i0 => omega); (case i1 => omega); (case s0 => first | assumption | exact (fmod_r _ (by decide)).1); (case s1 => first | assumption | exact (fmod_r _ (by decide)).2))
end
theorem off_in10 : True ∧ True := by
  w_top off
  walk1
  all_goals trivial
theorem off_gen11 : True ∧ True := by
  w_top off
  walk1
  all_goals trivial
/-! gen11 -/
def RRow (news : Led) (n : Int) (many : Int) : RetT := fun h₀ L m s Q =>
  ∀ (D : Addr) (ys : List Value) (h' : Heap) (tk' : Nat), IntsAre ys (List.map (fun k : Int => rowI n k.toNat) (rangeKs 0 (many - 0).toNat)) → Fr h₀ L h' m → News h₀ L h' ((D, LCg.lst ys) :: news) → LCg.Off1 D news → Q (.ref D) { s with heap := h', toks := tk' }
theorem row_end {h₀ h' : Heap} {L D : Addr} {m : Str → Option Value} {news news' : Led} {s : Shared} {Q : Value → Shared → Prop} {n many : Int} {ys : List Value} {tk' : Nat}
    (hret : RRow news n many h₀ L m s Q) (F : Fr h₀ L h' m) (N : News h₀ L h' ((D, LCg.lst ys) :: news')) (hi : IntsAre ys (List.map (fun k : Int => rowI n k.toNat) (rangeKs 0 (many - 0).toNat))) (hs : ∀ p ∈ news, p ∈ news') (ho : LCg.Off1 D news) : Q (.ref D) { s with heap := h', toks := tk' } := by
  refine hret D ys h' tk' hi F (fun p hp => ?_) ho
  rcases List.mem_cons.mp hp with rfl | hp
  · exact N _ (.head _)
  · exact N p (.tail _ (hs p hp))
theorem pow100_small {k : Nat} (h : k < 4) : ((100 : Int) ^ k).natAbs < 1073741824 := by
  have : k = 0 ∨ k = 1 ∨ k = 2 ∨ k = 3 := by omega
  rcases this with rfl | rfl | rfl | rfl <;> decide
theorem pow100 (k : Nat) : (100 : Int) ^ k ≠ 0 := Int.ne_of_gt (Int.pow_pos (by decide))
section
theorem wd89 : True := by
  k_with "w89" => (k_here; (try dsimp only); (with_reducible refine wpAny_execs_cons ?_); (try dsimp only))
  trivial
local macro_rules | `(tactic| walk_at "execs cons If cons") => `(tactic| k_extra "w89")
theorem wd90 : True := by
  k_with "w90" => (k_here; (try dsimp only); (with_reducible refine wpAny_execs_cons ?_); (try dsimp only))
  trivial
local macro_rules | `(tactic| walk_at "execs cons If nil") => `(tactic| k_extra "w90")
theorem wd91 : True := by
  k_with "w91" => (k_here; (with_reducible show wpAny _ _ (binaryOp _ _ (Value.int (100 ^ _) _)) _ _ _); k_dflt (refine' floordiv_int (by exact pow100 _) ?_ (by exact Or.inl (PyProof.noPylong_small (pow100_small (by omega))))))
  trivial
local macro_rules | `(tactic| walk_at "binaryOp FloorDiv int int") => `(tactic| k_extra "w91")
theorem g_row (w : World) (news : Led) (n : Int) (tn : Tok) (many : Int) (tm : Tok) (m0 : 1 ≤ many) (m1 : many ≤ 4) : Gives w 157 1 news [.int n tn, .int many tm] (RRow news n many) := by
  unfold Gives
  k_fill
  intro mean mg mb dp un gd cn cs a ccd cl outer A₀ base h₀ L m s Q E B F X N T hk hd hu hret
  refine wpAny_call ?_
  k_dflt (refine' code_defC ?k1 ?k2 ?k3 ?k4 ?k5 ?kA ?kF ?kK ?k6 ?k7 ?k8 ?k9 ?kB ?kD ?_ ?c2 ?c3 ?c4; (case kA => exact rfl); (case kF => exact rfl); (case kK => assumption); (case k1 => k_asm); (case k2 => k_asm); (case k3 => k_asm); (case k4 => k_asm); (case k5 => k_asm); (case k6 => k_is); (case k7 => k_is); (case k8 => ktr_room); (case k9 => exact BindsTo.of_eq rfl); (case kB => exact rfl); (case kD => decide +kernel); (case c2 => exact rfl); (case c3 => exact rfl); (case c4 => exact rfl); k_whole; intro g' L' h' tk' cells' FG' F' N' Y' B' X' T' l1; (try k_lt l1); k_cells Y'; (try simp only [List.cons_append, List.nil_append] at N'); (try dsimp only); (try k_lift B'); (try k_fold))
  k_steps
  all_goals (refine' row_end hret ?eF ?eN ?eI ?eS ?eO; (case eF => k_asm); (case eN => k_asm); (case eI => assumption); (case eS => (intro p hp; repeat (first | exact hp | refine List.Mem.tail _ ?_ | exact List.mem_append_left _ hp))); (case eO => (first | assumption | (simp only [LCg.Off1] at *; first | assumption | (apply And.right; assumption) | (apply And.right; apply And.right; assumption) | (apply And.right; apply And.right; apply And.right; assumption) | (apply And.right; apply And.right; apply And.right; apply And.right; assumption) | (apply And.right; apply And.right; apply And.right; apply And.right; apply And.right; assumption)))))
end
theorem off_in11 : True ∧ True := by
  w_top off
  walk1
  all_goals trivial
theorem off_gen12 : True ∧ True := by
  w_top off
  walk1
  all_goals trivial
/-! gen12 -/
def RDigA (news : Led) (x y c : Int) : RetT := fun h₀ L m s Q =>
  ∀ (D : Addr) (t1 t2 : Tok) (r f : Int) (h' : Heap) (tk' : Nat), 0 ≤ r → r % 16 ≤ 9 → r < 160 → 0 ≤ f.fmod 2 → f.fmod 2 < 2 → r / 16 * 10 + r % 16 + 100 * f.fmod 2 = (x / 16 * 10 + x % 16) + (y / 16 * 10 + y % 16) + c → (f.fdiv 2).fmod 2 = 0 → (f.fdiv 64).fmod 2 = (if (r == 0) = true then 1 else 0) → f.fdiv 128 = r.fdiv 128 → Fr h₀ L h' m → News h₀ L h' ((D, ({ cls := .type "tuple", data := .seq #[.int r t1, .int f t2] } : Obj)) :: news) → AllLt D news → Q (.ref D) { s with heap := h', toks := tk' }
theorem g_daaA (w : World) (news : Led) (x y c : Int) (ta tf : Tok) (hx0 : 0 ≤ x) (hx1 : x % 16 ≤ 9) (hx2 : x < 160) (hy0 : 0 ≤ y) (hy1 : y % 16 ≤ 9) (hy2 : y < 160) (hc0 : 0 ≤ c) (hc1 : c < 2) : Gives w 49 2 news [.int (addR x y c) ta, .int (addF x y c) tf] (RDigA news x y c) := by
  intro mean mg mb dp un gd cn cs a ccd cl outer A₀ base h₀ L m s Q E B F X N T hk hd hu hret
  refine g_daa w news (addR x y c) ta (addF x y c) tf mean mg mb dp un gd cn cs a ccd cl outer A₀ base h₀ L m s Q E B F X N T hk hd hu ?_
  intro D t1 t2 h' tk' F' N' hl
  have k := add_step hx0 hx1 hx2 hy0 hy1 hy2 hc0 hc1
  obtain ⟨k1, k2, k3, k4, k5, k6, k7, k8, k9⟩ := k
  exact hret D t1 t2 _ _ h' tk' k1 k2 k3 k4 k5 k6 k7 k8 k9 F' N' hl
def RDigS (news : Led) (x y c : Int) : RetT := fun h₀ L m s Q =>
  ∀ (D : Addr) (t1 t2 : Tok) (r f : Int) (h' : Heap) (tk' : Nat), 0 ≤ r → r % 16 ≤ 9 → r < 160 → 0 ≤ f.fmod 2 → f.fmod 2 < 2 → r / 16 * 10 + r % 16 - 100 * f.fmod 2 = (x / 16 * 10 + x % 16) - (y / 16 * 10 + y % 16) - c → (f.fdiv 2).fmod 2 = 1 → (f.fdiv 64).fmod 2 = (if (r == 0) = true then 1 else 0) → f.fdiv 128 = r.fdiv 128 → Fr h₀ L h' m → News h₀ L h' ((D, ({ cls := .type "tuple", data := .seq #[.int r t1, .int f t2] } : Obj)) :: news) → AllLt D news → Q (.ref D) { s with heap := h', toks := tk' }
theorem g_daaS (w : World) (news : Led) (x y c : Int) (ta tf : Tok) (hx0 : 0 ≤ x) (hx1 : x % 16 ≤ 9) (hx2 : x < 160) (hy0 : 0 ≤ y) (hy1 : y % 16 ≤ 9) (hy2 : y < 160) (hc0 : 0 ≤ c) (hc1 : c < 2) : Gives w 49 2 news [.int (subR x y c) ta, .int (subF x y c) tf] (RDigS news x y c) := by
  intro mean mg mb dp un gd cn cs a ccd cl outer A₀ base h₀ L m s Q E B F X N T hk hd hu hret
  refine g_daa w news (subR x y c) ta (subF x y c) tf mean mg mb dp un gd cn cs a ccd cl outer A₀ base h₀ L m s Q E B F X N T hk hd hu ?_
  intro D t1 t2 h' tk' F' N' hl
  have k := sub_step hx0 hx1 hx2 hy0 hy1 hy2 hc0 hc1
  obtain ⟨k1, k2, k3, k4, k5, k6, k7, k8, k9⟩ := k
  exact hret D t1 t2 _ _ h' tk' k1 k2 k3 k4 k5 k6 k7 k8 k9 F' N' hl
theorem news_rot {h₀ h : Heap} {L : Addr} {x a b : Addr × Obj} {r : Led} (N : News h₀ L h (x :: a :: b :: r)) : News h₀ L h (a :: b :: x :: r) := News.perm N (by intro p hp; simp only [List.mem_cons] at *; rcases hp with h | h | h | h <;> simp [h])
def RDec (rest : Led) (l d : Addr) (nl : Nat) (us : List Value) (nd : Nat) (len : Nat) : RetT := fun h₀ L m s Q =>
  ∀ (i : Int) (ti : Tok) (sd : Int) (ts : Tok) (h' : Heap) (tk' : Nat), 0 ≤ i → i ≤ (len : Int) → 0 ≤ sd → sd < 2147483647 → Fr h₀ L h' m → News h₀ L h' ((l, listOf #[.ref d, .int i ti, .int sd ts] nl) :: (d, listOf us.toArray nd) :: rest) → Q (.bool true) { s with heap := h', toks := tk' }
theorem dec_end {h₀ h' : Heap} {L l d : Addr} {m : Str → Option Value} {rest news' : Led} {s : Shared} {Q : Value → Shared → Prop} {nl nd len : Nat} {us : List Value} {i sd : Int} {ti ts : Tok} {tk' : Nat} {bb : Bool}
    (hret : RDec rest l d nl us nd len h₀ L m s Q) (F : Fr h₀ L h' m) (N : News h₀ L h' news') (hs : ∀ p ∈ (l, listOf #[.ref d, .int i ti, .int sd ts] nl) :: (d, listOf us.toArray nd) :: rest, p ∈ news') (i0 : 0 ≤ i) (i1 : i ≤ (len : Int)) (s0 : 0 ≤ sd) (s1 : sd < 2147483647) (hb : bb = true) : Q (.bool bb) { s with heap := h', toks := tk' } := by
  subst hb
  exact hret i ti sd ts h' tk' i0 i1 s0 s1 F fun p hp => N p (hs p hp)
section
variable {prog : Program} {w : World} {A : Around} {E : Value → Shared → Prop} {s : Shared} {a b : Int} {t u : Tok} {Q : Value → Shared → Prop}
theorem eq_int_split (h1 : LaterT (a = b → Q (.bool true) s)) (h2 : LaterD (a ≠ b → Q (.bool false) s)) : wpAny (model prog w) A (compareOp .Eq (.int a t) (.int b u)) Q E s := by
  refine eq_int ?_
  by_cases h : a = b
  · rw [show (a == b) = true by simpa using h]; exact h1 h
  · rw [show (a == b) = false by simpa using h]; exact h2 h
end
theorem off_in12 : True ∧ True := by
  w_top off
  walk1
  all_goals trivial
theorem wd92 : True := by
  k_with "w92" => (k_here; (with_reducible show wpAny _ _ (call (Value.ref 35) _) _ _ _); k_dflt (refine' gives_use2 (by walk_at "site") (g_add8 _ _ _ _ _ _ _ _) (by ktr_room) (by ktr_units) ?_; intro D9 t9 u9 h9 tk9 F9 N9 l1; (try simp only [AllLt, and_true] at l1); walk_at "fold9"))
  trivial
local macro_rules | `(tactic| walk_at "call ref") => `(tactic| k_extra "w92")
theorem wd93 : True := by
  k_with "w93" => (k_here; (with_reducible show wpAny _ _ (call (Value.ref 42) _) _ _ _); k_dflt (refine' gives_use2 (by walk_at "site") (g_sub8 _ _ _ _ _ _ _ _) (by ktr_room) (by ktr_units) ?_; intro D9 t9 u9 h9 tk9 F9 N9 l1; (try simp only [AllLt, and_true] at l1); walk_at "fold9"))
  trivial
local macro_rules | `(tactic| walk_at "call ref") => `(tactic| k_extra "w93")
theorem wd94 : True := by
  k_with "w94" => (k_here; (with_reducible show wpAny _ _ (call (Value.ref 152) _) _ _ _); k_dflt (refine' gives_use2 (by (refine' ⟨(by k_asm), (by k_asm), (by k_asm), (by first | k_asm | exact news_rot (by k_asm)), (by k_asm), (by first | exact rfl | assumption)⟩)) (g_take _ _ _ _ _ _ _ _ _ _ _ _ (by assumption) (by first | assumption | exact Ne.symm (by assumption)) (by (refine List.forall_mem_cons.mpr ⟨?_, ?_⟩); (first | assumption | k_ne); (first | exact List.forall_mem_nil _ | ((refine List.forall_mem_cons.mpr ⟨?_, ?_⟩); (first | assumption | k_ne); exact List.forall_mem_nil _))) (by assumption) (by omega) (by omega) (by omega) (by omega) _ _ (by first | decide | exact pow_p _ | omega)) (by ktr_room) (by ktr_units) ?_; intro r9 t9 i9 ti9 sd9 ts9 h9 tk9 r0 r1 i0 i1 s0 s1 F9 N9; walk_at "fold9"))
  trivial
local macro_rules | `(tactic| walk_at "call ref") => `(tactic| k_extra "w94")
theorem wd95 : True := by
  k_with "w95" => (k_here; (with_reducible show wpAny _ _ (call (Value.ref 49) [Value.int (addR _ _ _) _, Value.int (addF _ _ _) _]) _ _ _); k_dflt (refine' gives_use2 (by walk_at "site") (g_daaA _ _ _ _ _ _ _ (by first | assumption | omega) (by first | assumption | omega) (by first | assumption | omega) (by first | assumption | omega) (by first | assumption | omega) (by first | assumption | omega) (by first | assumption | omega) (by first | assumption | omega)) (by ktr_room) (by ktr_units) ?_; intro D9 t9 u9 r9 f9 h9 tk9 d0 d1 d2 c0 c1 dS dN dZ dK F9 N9 l1; (try simp only [AllLt, and_true] at l1); walk_at "fold9"))
  trivial
local macro_rules | `(tactic| walk_at "call ref") => `(tactic| k_extra "w95")
theorem wd96 : True := by
  k_with "w96" => (k_here; (with_reducible show wpAny _ _ (call (Value.ref 49) [Value.int (subR _ _ _) _, Value.int (subF _ _ _) _]) _ _ _); k_dflt (refine' gives_use2 (by walk_at "site") (g_daaS _ _ _ _ _ _ _ (by first | assumption | omega) (by first | assumption | omega) (by first | assumption | omega) (by first | assumption | omega) (by first | assumption | omega) (by first | assumption | omega) (by first | assumption | omega) (by first | assumption | omega)) (by ktr_room) (by ktr_units) ?_; intro D9 t9 u9 r9 f9 h9 tk9 d0 d1 d2 c0 c1 dS dN dZ dK F9 N9 l1; (try simp only [AllLt, and_true] at l1); walk_at "fold9"))
  trivial
local macro_rules | `(tactic| walk_at "call ref") => `(tactic| k_extra "w96")
theorem wd97 : True := by
  k_with "w97" => (k_here; (with_reducible show wpAny _ _ (call (Value.ref 157) _) _ _ _); k_dflt (refine' gives_use2 (by walk_at "site") (g_row _ _ _ _ _ _ (by omega) (by omega)) (by ktr_room) (by ktr_units) ?_; intro D9 ys9 h9 tk9 hi9 F9 N9 o9; (try simp only [LCg.Off1, and_true] at o9); walk_at "fold9"))
  trivial
local macro_rules | `(tactic| walk_at "call ref") => `(tactic| k_extra "w97")
section
theorem wd98 : True := by
  k_with "w98" => (first | with_reducible assumption | (apply And.left; with_reducible assumption) | (apply And.left; apply And.right; with_reducible assumption) | (apply And.left; apply And.right; apply And.right; with_reducible assumption) | (apply And.left; apply And.right; apply And.right; apply And.right; with_reducible assumption) | (apply And.left; apply And.right; apply And.right; apply And.right; apply And.right; with_reducible assumption) | (apply And.left; apply And.right; apply And.right; apply And.right; apply And.right; apply And.right; with_reducible assumption) | (apply And.left; apply And.right; apply And.right; apply And.right; apply And.right; apply And.right; apply And.right; with_reducible assumption) | (apply And.left; apply And.right; apply And.right; apply And.right; apply And.right; apply And.right; apply And.right; apply And.right; with_reducible assumption) | (apply And.left; apply And.right; apply And.right; apply And.right; apply And.right; apply And.right; apply And.right; apply And.right; apply And.right; with_reducible assumption) | (apply And.left; apply And.right; apply And.right; apply And.right; apply And.right; apply And.right; apply And.right; apply And.right; apply And.right; apply And.right; with_reducible assumption) | (apply And.left; apply And.right; apply And.right; apply And.right; apply And.right; apply And.right; apply And.right; apply And.right; apply And.right; apply And.right; apply And.right; with_reducible assumption) | (apply And.left; apply And.right; apply And.right; apply And.right; apply And.right; apply And.right; apply And.right; apply And.right; apply And.right; apply And.right; apply And.right; apply And.right; with_reducible assumption) | (apply And.left; apply And.right; apply And.right; apply And.right; apply And.right; apply And.right; apply And.right; apply And.right; apply And.right; apply And.right; apply And.right; apply And.right; apply And.right; with_reducible assumption) | (apply And.left; apply And.right; apply And.right; apply And.right; apply And.right; apply And.right; apply And.right; apply And.right; apply And.right; apply And.right; apply And.right; apply And.right; apply And.right; apply And.right; with_reducible assumption) | (apply And.left; apply And.right; apply And.right; apply And.right; apply And.right; apply And.right; apply And.right; apply And.right; apply And.right; apply And.right; apply And.right; apply And.right; apply And.right; apply And.right; apply And.right; with_reducible assumption) | (apply And.left; apply And.right; apply And.right; apply And.right; apply And.right; apply And.right; apply And.right; apply And.right; apply And.right; apply And.right; apply And.right; apply And.right; apply And.right; apply And.right; apply And.right; apply And.right; with_reducible assumption) | (apply And.right; with_reducible assumption) | (apply And.right; apply And.right; with_reducible assumption) | (apply And.right; apply And.right; apply And.right; with_reducible assumption) | (apply And.right; apply And.right; apply And.right; apply And.right; with_reducible assumption) | (apply And.right; apply And.right; apply And.right; apply And.right; apply And.right; with_reducible assumption) | (apply And.right; apply And.right; apply And.right; apply And.right; apply And.right; apply And.right; with_reducible assumption) | (apply And.right; apply And.right; apply And.right; apply And.right; apply And.right; apply And.right; apply And.right; with_reducible assumption) | (apply And.right; apply And.right; apply And.right; apply And.right; apply And.right; apply And.right; apply And.right; apply And.right; with_reducible assumption) | (apply And.right; apply And.right; apply And.right; apply And.right; apply And.right; apply And.right; apply And.right; apply And.right; apply And.right; with_reducible assumption) | (apply And.right; apply And.right; apply And.right; apply And.right; apply And.right; apply And.right; apply And.right; apply And.right; apply And.right; apply And.right; with_reducible assumption) | (apply And.right; apply And.right; apply And.right; apply And.right; apply And.right; apply And.right; apply And.right; apply And.right; apply And.right; apply And.right; apply And.right; with_reducible assumption) | (apply And.right; apply And.right; apply And.right; apply And.right; apply And.right; apply And.right; apply And.right; apply And.right; apply And.right; apply And.right; apply And.right; apply And.right; with_reducible assumption) | (apply And.right; apply And.right; apply And.right; apply And.right; apply And.right; apply And.right; apply And.right; apply And.right; apply And.right; apply And.right; apply And.right; apply And.right; apply And.right; with_reducible assumption) | (apply And.right; apply And.right; apply And.right; apply And.right; apply And.right; apply And.right; apply And.right; apply And.right; apply And.right; apply And.right; apply And.right; apply And.right; apply And.right; apply And.right; with_reducible assumption) | (apply And.right; apply And.right; apply And.right; apply And.right; apply And.right; apply And.right; apply And.right; apply And.right; apply And.right; apply And.right; apply And.right; apply And.right; apply And.right; apply And.right; apply And.right; with_reducible assumption))
  trivial
local macro_rules | `(tactic| walk_at "conj") => `(tactic| k_extra "w98")
theorem wd99 : True := by
  k_with "w99" => (k_here; (try dsimp only); (with_reducible refine wpAny_execs_cons ?_); (try dsimp only))
  trivial
local macro_rules | `(tactic| walk_at "execs cons If cons") => `(tactic| k_extra "w99")
theorem wd100 : True := by
  k_with "w100" => (k_here; (try dsimp only); (with_reducible refine wpAny_execs_cons ?_); (try dsimp only))
  trivial
local macro_rules | `(tactic| walk_at "execs cons If nil") => `(tactic| k_extra "w100")
theorem wd101 : True := by
  k_with "w101" => (k_here; first | (with_reducible refine ite_ne_t (by with_reducible assumption) ?_) | (with_reducible refine ite_ne_f (by with_reducible assumption) ?_) | (with_reducible refine ite_eq_t (by with_reducible assumption) ?_) | (with_reducible refine ite_eq_f (by with_reducible assumption) ?_))
  trivial
local macro_rules | `(tactic| walk_at "ite") => `(tactic| k_extra "w101")
theorem wd102 : True := by
  k_with "w102" => (k_here; (rename Fr _ _ _ _ => lF'); (with_unfolding_all refine' For_turns lF' ?_; k_whole))
  trivial
local macro_rules | `(tactic| walk_at "exec For Tuple Call cons nil") => `(tactic| k_extra "w102")
theorem wd103 : True := by
  k_with "w103" => (k_here; k_dflt (refine' app_led (by k_asm) (by k_asm) (by k_mem) (by exact zfin_sub (by assumption)) ?_); (repeat (first | (with_reducible refine AppGo.nil ?_) | (with_reducible refine AppGo.skipT ?_) | (with_reducible refine AppGo.skipD ?_) | ((with_reducible refine AppGo.keepI (by walk_at "conj") ?_)) | ((with_reducible refine AppGo.keepB (by walk_at "conj") ?_)) | ((with_reducible refine AppGo.keepN (by walk_at "conj") ?_)) | ((with_reducible refine AppGo.keepI0 (by walk_at "conj") ?_)) | (with_reducible refine AppGo.skip ?_))); intro h9 F9 N9; (try dsimp only at N9); (try simp only [List.push_toArray, List.nil_append, List.cons_append] at N9))
  trivial
local macro_rules | `(tactic| walk_at "call builtin:list.append") => `(tactic| k_extra "w103")
theorem wd104 : True := by
  k_with "w104" => (k_here; k_dflt (first | ((refine' zip_goA (by k_asm) (by k_asm) (by exact rfl) (by exact rfl) (by exact rfl) (by exact rfl) (by k_mem) (by k_mem) (by k_mem) (by assumption) (by assumption) (by omega) (by first | assumption | omega) (by first | assumption | omega) (by assumption) (by assumption) (by assumption) (by assumption) ?_)) | ((refine' zip_goS (by k_asm) (by k_asm) (by exact rfl) (by exact rfl) (by exact rfl) (by exact rfl) (by k_mem) (by k_mem) (by k_mem) (by assumption) (by assumption) (by omega) (by first | assumption | omega) (by first | assumption | omega) (by assumption) (by assumption) (by assumption) (by assumption) ?_))); (repeat (first | (with_reducible refine AppGo.nil ?_) | (with_reducible refine AppGo.skipT ?_) | (with_reducible refine AppGo.skipD ?_) | ((with_reducible refine AppGo.keepI (by walk_at "conj") ?_)) | ((with_reducible refine AppGo.keepB (by walk_at "conj") ?_)) | ((with_reducible refine AppGo.keepN (by walk_at "conj") ?_)) | ((with_reducible refine AppGo.keepI0 (by walk_at "conj") ?_)) | (with_reducible refine AppGo.skip ?_))); refine ⟨⟨(by k_dflt k_mem), (by k_dflt k_mem)⟩, ?_, ?_⟩)
  trivial
local macro_rules | `(tactic| walk_at "call type:zip") => `(tactic| k_extra "w104")
theorem wd105 : True := by
  k_with "w105" => (k_here; (unfold LaterT); intro I9 pa9 pb9 x9 y9 us9 n9 c9 tc9 u9 T9 tx9 ty9 h9 tk9 R9 lt9 ul9 c90 c91 x90 x91 x92 y90 y91 y92 hP9 hT9 F9; (try simp only [AllLt, and_true] at lt9); (repeat' ktu_obj); (refine AllObj.nil (fun zF9 N9 => ?_)); (try simp only [List.cons_append, List.nil_append] at N9))
  trivial
local macro_rules | `(tactic| walk_at "LaterT") => `(tactic| k_extra "w105")
theorem wd106 : True := by
  k_with "w106" => (k_here; (unfold LaterD); intro us9 rs9 n9 c9 tc9 u9 h9 tk9 hi9 hr9 hc9 F9 N9; (try dsimp only at F9 N9); (try k_fold))
  trivial
local macro_rules | `(tactic| walk_at "LaterD") => `(tactic| k_extra "w106")
theorem wd107 : True := by
  k_with "w107" => (k_here; (with_reducible show LaterT (_ = _ → _)); (unfold LaterT); intro hE9; (try dsimp only))
  trivial
local macro_rules | `(tactic| walk_at "LaterT") => `(tactic| k_extra "w107")
theorem wd108 : True := by
  k_with "w108" => (k_here; (with_reducible show LaterD (_ ≠ _ → _)); (unfold LaterD); intro hE9; (try dsimp only))
  trivial
local macro_rules | `(tactic| walk_at "LaterD") => `(tactic| k_extra "w108")
theorem wd109 : True := by
  k_with "w109" => (k_here; (with_reducible show LaterT (_ ≤ _ → _)); (unfold LaterT); intro hE9; (try dsimp only))
  trivial
local macro_rules | `(tactic| walk_at "LaterT") => `(tactic| k_extra "w109")
theorem wd110 : True := by
  k_with "w110" => (k_here; (with_reducible show LaterD (¬ _ ≤ _ → _)); (unfold LaterD); intro hE9; (try dsimp only))
  trivial
local macro_rules | `(tactic| walk_at "LaterD") => `(tactic| k_extra "w110")
theorem wd111 : True := by
  k_with "w111" => (k_here; (rename ZFin _ _ _ _ _ _ _ _ _ _ => zF'); (rename News _ _ _ _ => nE'); k_dflt (refine' ZFin.use zF' (by k_asm) nE' (by k_mem) (by exact SubL.mem (by k_subL)) (by exact SubL.mem (by k_subL)) (by exact rfl) (by (intro z h1 h3; (simp only [List.contains_cons, List.contains_nil, Bool.or_false, Bool.or_eq_false_iff, beq_eq_false_iff_ne, ne_eq] at h3); (simp [h1, h3]; done))) (by (first | exact decA_snoc (by assumption) (by assumption) (by assumption) (by assumption) (by assumption) (by assumption) (by assumption) | exact decS_snoc (by assumption) (by assumption) (by assumption) (by assumption) (by assumption) (by assumption) (by assumption)))))
  trivial
local macro_rules | `(tactic| walk_at "UnrEndW") => `(tactic| k_extra "w111")
theorem wd112 : True := by
  k_with "w112" => (k_here; (with_reducible show ite (decide (_ ≤ _ - _) = true) _ _); (with_reducible refine ite_le_split ?_ ?_))
  trivial
local macro_rules | `(tactic| walk_at "ite") => `(tactic| k_extra "w112")
theorem wd113 : True := by
  k_with "w113" => (k_here; (with_reducible refine wpAny_execs_nil ?_))
  trivial
local macro_rules | `(tactic| walk_at "execs nil") => `(tactic| k_extra "w113")
theorem wd114 : True := by
  k_with "w114" => (k_here; k_dflt (refine' eq_lists (by k_asm) (by k_mem) (by k_mem) (by assumption) (by assumption) (by assumption) (by ktr_units) ?_))
  trivial
local macro_rules | `(tactic| walk_at "compareOp Eq ref ref") => `(tactic| k_extra "w114")
theorem wd115 : True := by
  k_with "w115" => (k_here; (with_reducible refine' ne_int_same (by k_dflt (first | assumption | exact rfl)) ?_))
  trivial
local macro_rules | `(tactic| walk_at "compareOp NotEq int int") => `(tactic| k_extra "w115")
theorem wd116 : True := by
  k_with "w116" => (k_here; (with_reducible refine' eq_int_same (by k_dflt (first | assumption | exact rfl)) ?_))
  trivial
local macro_rules | `(tactic| walk_at "compareOp Eq int int") => `(tactic| k_extra "w116")
theorem wd117 : True := by
  k_with "w117" => (k_here; (with_reducible show wpAny _ _ (compareOp CmpOp.Eq (Value.int _ _) (Value.int 1 _)) _ _ _); (with_reducible refine eq_int_split ?_ ?_))
  trivial
local macro_rules | `(tactic| walk_at "compareOp Eq int int") => `(tactic| k_extra "w117")
theorem g_decimal (w : World) (I : Addr) (oI : Obj) (l d : Addr) (i : Int) (ti : Tok) (sd : Int) (ts : Tok) (nl : Nat) (us : List Value) (nd : Nat) (ns : List Int) (hus : IntsAre us ns) (hne : l ≠ d) (hIl : I ≠ l) (hlen : ns.length ≤ 32) (i0 : 0 ≤ i) (i1 : i ≤ (ns.length : Int)) (s0 : 0 ≤ sd) (s1 : sd < 2147483647) : Gives w 164 12 [(l, listOf #[.ref d, .int i ti, .int sd ts] nl), (d, listOf us.toArray nd), (I, oI)] [.ref l] (RDec [(I, oI)] l d nl us nd ns.length) := by
  unfold Gives
  k_fill
  intro mean mg mb dp un gd cn cs aa ccd cl outer A₀ base h₀ L m s Q E B F X N T hk hd hu hret
  refine wpAny_call ?_
  k_dflt cell_enter
  k_steps
  all_goals (refine' dec_end hret ?eF ?eN ?eS ?i0 ?i1 ?s0 ?s1 ?eB; (case eF => k_asm); (case eN => k_asm); (case eS => (intro p hp; repeat (first | exact hp | refine List.Mem.tail _ ?_ | exact List.mem_append_left _ hp))); (case i0 => assumption); (case i1 => assumption); (case s0 => assumption); (case s1 => assumption); (case eB => (first | exact finA (nonneg3 (by with_reducible assumption) (by with_reducible assumption) (by with_reducible assumption)) (by assumption) | exact finA (by with_reducible assumption) (by assumption) | exact finN (by with_reducible assumption) (by assumption))))
end
theorem off_in13 : True ∧ True := by
  w_top off
  walk1
  all_goals trivial
theorem news3 {h₀ h : Heap} {L : Addr} {l : Led} {p q r : Addr × Obj} (N : News h₀ L h l) (hp : p ∈ l) (hq : q ∈ l) (hr : r ∈ l) : News h₀ L h [p, q, r] := News.perm N (by intro x hx; simp only [List.mem_cons, List.not_mem_nil, or_false] at hx; rcases hx with rfl | rfl | rfl <;> assumption)
theorem off_gen13 : True ∧ True := by
  w_top off
  walk1
  all_goals trivial
end Mine
open PySem PySem.W PyProof.Rows PySem.Calls PySem.Builtin Mine
theorem Mine.wd118 : True := by
  k_with "w118" => (refine' ⟨(by k_asm), (by k_asm), (by k_asm), (by k_asm), (by k_asm), (by first | exact rfl | assumption)⟩)
  trivial
local macro_rules | `(tactic| walk_at "site") => `(tactic| k_extra "w118")
theorem Mine.wd119 : True := by
  k_with "w119" => ((try dsimp only); (try k_fold))
  trivial
local macro_rules | `(tactic| walk_at "fold9") => `(tactic| k_extra "w119")
theorem Mine.wd120 : True := by
  k_with "w120" => (k_here; (try k_fold); (with_reducible refine wpAny_BinOp ?_))
  trivial
local macro_rules | `(tactic| walk_at "eval BinOp") => `(tactic| k_extra "w120")
theorem Mine.wd121 : True := by
  k_with "w121" => (k_here; name_kind "globalImplicit"; (with_reducible rename Fr _ _ _ _ => kF); (with_reducible refine' nameKK kF (by k_dflt k_asm) (by k_dflt k_asm) (by k_dflt k_is) ?_ (by decide +kernel) (by with_unfolding_all rfl) (by decide +kernel)); k_whole)
  trivial
local macro_rules | `(tactic| walk_at "eval Name") => `(tactic| k_extra "w121")
theorem Mine.wd122 : True := by
  k_with "w122" => (k_here; name_kind "local"; (with_reducible rename Fr _ _ _ _ => kF); (with_reducible refine PyProof.Rows.ldK kF (by with_unfolding_all exact Eq.refl (some _)) ?_ (by decide +kernel) (by with_unfolding_all rfl) (by decide +kernel)))
  trivial
local macro_rules | `(tactic| walk_at "eval Name") => `(tactic| k_extra "w122")
theorem Mine.wd123 : True := by
  k_with "w123" => (k_here; (with_reducible refine wpAny_execs_nil ?_))
  trivial
local macro_rules | `(tactic| walk_at "execs nil") => `(tactic| k_extra "w123")
theorem Mine.wd124 : True := by
  k_with "w124" => (first | with_reducible assumption | (apply And.left; with_reducible assumption) | (apply And.left; apply And.right; with_reducible assumption) | (apply And.left; apply And.right; apply And.right; with_reducible assumption) | (apply And.left; apply And.right; apply And.right; apply And.right; with_reducible assumption) | (apply And.left; apply And.right; apply And.right; apply And.right; apply And.right; with_reducible assumption) | (apply And.left; apply And.right; apply And.right; apply And.right; apply And.right; apply And.right; with_reducible assumption) | (apply And.left; apply And.right; apply And.right; apply And.right; apply And.right; apply And.right; apply And.right; with_reducible assumption) | (apply And.left; apply And.right; apply And.right; apply And.right; apply And.right; apply And.right; apply And.right; apply And.right; with_reducible assumption) | (apply And.left; apply And.right; apply And.right; apply And.right; apply And.right; apply And.right; apply And.right; apply And.right; apply And.right; with_reducible assumption) | (apply And.left; apply And.right; apply And.right; apply And.right; apply And.right; apply And.right; apply And.right; apply And.right; apply And.right; apply And.right; with_reducible assumption) | (apply And.left; apply And.right; apply And.right; apply And.right; apply And.right; apply And.right; apply And.right; apply And.right; apply And.right; apply And.right; apply And.right; with_reducible assumption) | (apply And.left; apply And.right; apply And.right; apply And.right; apply And.right; apply And.right; apply And.right; apply And.right; apply And.right; apply And.right; apply And.right; apply And.right; with_reducible assumption) | (apply And.left; apply And.right; apply And.right; apply And.right; apply And.right; apply And.right; apply And.right; apply And.right; apply And.right; apply And.right; apply And.right; apply And.right; apply And.right; with_reducible assumption) | (apply And.left; apply And.right; apply And.right; apply And.right; apply And.right; apply And.right; apply And.right; apply And.right; apply And.right; apply And.right; apply And.right; apply And.right; apply And.right; apply And.right; with_reducible assumption) | (apply And.left; apply And.right; apply And.right; apply And.right; apply And.right; apply And.right; apply And.right; apply And.right; apply And.right; apply And.right; apply And.right; apply And.right; apply And.right; apply And.right; apply And.right; with_reducible assumption) | (apply And.left; apply And.right; apply And.right; apply And.right; apply And.right; apply And.right; apply And.right; apply And.right; apply And.right; apply And.right; apply And.right; apply And.right; apply And.right; apply And.right; apply And.right; apply And.right; with_reducible assumption) | (apply And.right; with_reducible assumption) | (apply And.right; apply And.right; with_reducible assumption) | (apply And.right; apply And.right; apply And.right; with_reducible assumption) | (apply And.right; apply And.right; apply And.right; apply And.right; with_reducible assumption) | (apply And.right; apply And.right; apply And.right; apply And.right; apply And.right; with_reducible assumption) | (apply And.right; apply And.right; apply And.right; apply And.right; apply And.right; apply And.right; with_reducible assumption) | (apply And.right; apply And.right; apply And.right; apply And.right; apply And.right; apply And.right; apply And.right; with_reducible assumption) | (apply And.right; apply And.right; apply And.right; apply And.right; apply And.right; apply And.right; apply And.right; apply And.right; with_reducible assumption) | (apply And.right; apply And.right; apply And.right; apply And.right; apply And.right; apply And.right; apply And.right; apply And.right; apply And.right; with_reducible assumption) | (apply And.right; apply And.right; apply And.right; apply And.right; apply And.right; apply And.right; apply And.right; apply And.right; apply And.right; apply And.right; with_reducible assumption) | (apply And.right; apply And.right; apply And.right; apply And.right; apply And.right; apply And.right; apply And.right; apply And.right; apply And.right; apply And.right; apply And.right; with_reducible assumption) | (apply And.right; apply And.right; apply And.right; apply And.right; apply And.right; apply And.right; apply And.right; apply And.right; apply And.right; apply And.right; apply And.right; apply And.right; with_reducible assumption) | (apply And.right; apply And.right; apply And.right; apply And.right; apply And.right; apply And.right; apply And.right; apply And.right; apply And.right; apply And.right; apply And.right; apply And.right; apply And.right; with_reducible assumption) | (apply And.right; apply And.right; apply And.right; apply And.right; apply And.right; apply And.right; apply And.right; apply And.right; apply And.right; apply And.right; apply And.right; apply And.right; apply And.right; apply And.right; with_reducible assumption) | (apply And.right; apply And.right; apply And.right; apply And.right; apply And.right; apply And.right; apply And.right; apply And.right; apply And.right; apply And.right; apply And.right; apply And.right; apply And.right; apply And.right; apply And.right; with_reducible assumption))
  trivial
local macro_rules | `(tactic| walk_at "conj") => `(tactic| k_extra "w124")
theorem Mine.wd125 : True := by
  k_with "w125" => (k_here; (with_reducible show wpAny _ _ (call (Value.ref 152) _) _ _ _); k_dflt (refine' gives_use2 (by (refine' ⟨(by k_asm), (by k_asm), (by k_asm), (by exact news3 (by k_asm) (by k_mem) (by k_mem) (by k_mem)), (by k_asm), (by first | exact rfl | assumption)⟩)) (g_take _ [(_, itR _ _)] _ _ _ _ _ _ _ _ _ _ (by assumption) (by (first | assumption | exact Ne.symm (by assumption) | (refine Nat.ne_of_gt ?_; walk_at "conj") | (refine Nat.ne_of_lt ?_; walk_at "conj"))) (by (refine List.forall_mem_cons.mpr ⟨?_, List.forall_mem_nil _⟩); (first | assumption | exact Ne.symm (by assumption) | (refine Nat.ne_of_gt ?_; walk_at "conj") | (refine Nat.ne_of_lt ?_; walk_at "conj"))) (by (first | assumption | (simp only [List.length_map, List.length_take]; omega) | (simp; omega))) (by first | assumption | omega) (by first | assumption | omega) (by first | assumption | omega) (by first | assumption | omega) _ _ (by decide)) (by ktr_room) (by ktr_units) ?_; intro r9 t9 i9 ti9 sd9 ts9 h9 tk9 r0 r1 i0 i1 s0 s1 F9 N9; walk_at "fold9"))
  trivial
local macro_rules | `(tactic| walk_at "call ref") => `(tactic| k_extra "w125")
theorem Mine.wd126 : True := by
  k_with "w126" => (k_here; (with_reducible show wpAny _ _ (call (Value.ref 164) _) _ _ _); k_dflt (refine' gives_use2 (by (refine' ⟨(by k_asm), (by k_asm), (by k_asm), (by exact news3 (by k_asm) (by k_mem) (by k_mem) (by k_mem)), (by k_asm), (by first | exact rfl | assumption)⟩)) (g_decimal _ _ (itR _ _) _ _ _ _ _ _ _ _ _ _ (by assumption) (by (first | assumption | exact Ne.symm (by assumption) | (refine Nat.ne_of_gt ?_; walk_at "conj") | (refine Nat.ne_of_lt ?_; walk_at "conj"))) (by (first | assumption | exact Ne.symm (by assumption) | (refine Nat.ne_of_gt ?_; walk_at "conj") | (refine Nat.ne_of_lt ?_; walk_at "conj"))) (by (first | assumption | (simp only [List.length_map, List.length_take]; omega) | (simp; omega))) (by first | assumption | omega) (by first | assumption | omega) (by first | assumption | omega) (by first | assumption | omega)) (by ktr_room) (by ktr_units) ?_; intro i9 ti9 sd9 ts9 h9 tk9 i0 i1 s0 s1 F9 N9; walk_at "fold9"))
  trivial
local macro_rules | `(tactic| walk_at "call ref") => `(tactic| k_extra "w126")
theorem Mine.wd127 : True := by
  k_with "w127" => (k_here; (with_reducible show wpAny _ _ (call (Value.ref 193) _) _ _ _); k_dflt (refine' gives_use2 (by walk_at "site") (g_turns _ _ _ _ _ _ (by assumption) (by assumption) (by assumption) (by assumption)) (by ktr_room) (by ktr_units) ?_; intro h9 tk9 F9 N9; walk_at "fold9"))
  trivial
local macro_rules | `(tactic| walk_at "call ref") => `(tactic| k_extra "w127")
theorem Mine.wd128 : True := by
  k_with "w128" => (k_here; (with_reducible show wpAny _ _ (call (Value.ref 200) _) _ _ _); k_dflt (refine' gives_use2 (by walk_at "site") (g_halves _ _ _ _ _ _ _ _ (by assumption) (by assumption) (by assumption) (by assumption)) (by ktr_room) (by ktr_units) ?_; intro h9 tk9 F9 N9; walk_at "fold9"))
  trivial
local macro_rules | `(tactic| walk_at "call ref") => `(tactic| k_extra "w128")
theorem Mine.wd129 : True := by
  k_with "w129" => (k_here; (with_reducible show wpAny _ _ (call (Value.ref 207) _) _ _ _); k_dflt (refine' gives_use2 (by walk_at "site") (g_carries _ _ _ _ _ _ (by assumption) (by assumption) (by assumption) (by assumption)) (by ktr_room) (by ktr_units) ?_; intro h9 tk9 F9 N9; walk_at "fold9"))
  trivial
local macro_rules | `(tactic| walk_at "call ref") => `(tactic| k_extra "w129")
theorem Mine.wd130 : True := by
  k_with "w130" => (k_here; (with_reducible show wpAny _ _ (call (Value.ref 214) _) _ _ _); k_dflt (refine' gives_use2 (by walk_at "site") (g_blocks _ _ _ _ _ _ _ _ _ _ (by assumption) (by assumption) (by assumption) (by assumption) (by assumption) (by assumption) (by assumption) (by assumption)) (by ktr_room) (by ktr_units) ?_; intro h9 tk9 F9 N9; walk_at "fold9"))
  trivial
local macro_rules | `(tactic| walk_at "call ref") => `(tactic| k_extra "w130")
theorem Mine.wd131 : True := by
  k_with "w131" => (k_here; (try dsimp only); (with_reducible refine wpAny_execs_cons ?_); (try dsimp only))
  trivial
local macro_rules | `(tactic| walk_at "execs cons If cons") => `(tactic| k_extra "w131")
theorem Mine.wd132 : True := by
  k_with "w132" => (k_here; (try dsimp only); (with_reducible refine wpAny_execs_cons ?_); (try dsimp only))
  trivial
local macro_rules | `(tactic| walk_at "execs cons If nil") => `(tactic| k_extra "w132")
theorem Mine.wd133 : True := by
  k_with "w133" => (k_here; first | (with_reducible refine ite_ne_t (by with_reducible assumption) ?_) | (with_reducible refine ite_ne_f (by with_reducible assumption) ?_) | (with_reducible refine ite_eq_t (by with_reducible assumption) ?_) | (with_reducible refine ite_eq_f (by with_reducible assumption) ?_))
  trivial
local macro_rules | `(tactic| walk_at "ite") => `(tactic| k_extra "w133")
theorem Mine.wd134 : True := by
  k_with "w134" => (w_end; (show GoodW _ _ _ _ _ (.ok (.ret (.bool _))) _); refine goodW_bool (by assumption) (by assumption) (raisesW_false ?_) ?_; (· wrow_none_raised); (· with_unfolding_all rfl))
  trivial
local macro_rules | `(tactic| wrow_close) => `(tactic| k_extra "w134")
theorem PySem.Challenge.cw_nz0562_01_holds : PySem.Challenge.rw_nz0562_01.Holds := by
  refine hdm _ _ (by rfl) (by rfl) (by rfl) ?_
  k_with "pyIter ref" => k_state (fun pre seed => 0 ≤ seed ∧ seed < 2147483647) "seed"
  k_go0
  (all_goals try k_fold)
  k_steps
  (all_goals (try k_data))
  all_goals w_report
